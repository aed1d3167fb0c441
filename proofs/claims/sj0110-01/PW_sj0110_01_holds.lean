import PyProof.Rows.All
import Wide.All
import OpenK.AllK
import Wide.FinOn
import PySem.Challenge.RW_sj0110_01
open PySem PySem.W PyProof.Rows
set_option Elab.async false
set_option maxRecDepth 100000
set_option maxHeartbeats 8000000
namespace Mine
section
/-- the text without its three rows that only name a module -/
def view : Program := { PySem.Challenge.rw_sj0110_01.row.toRowW.1 with main := { PySem.Challenge.rw_sj0110_01.row.toRowW.1.main with body := PySem.Challenge.rw_sj0110_01.row.toRowW.1.main.body.take 1 ++ (PySem.Challenge.rw_sj0110_01.row.toRowW.1.main.body.drop 2).take 3 ++ (PySem.Challenge.rw_sj0110_01.row.toRowW.1.main.body.drop 6).take 4 ++ PySem.Challenge.rw_sj0110_01.row.toRowW.1.main.body.drop 11 } }
namespace Hp
/-! the heap behind the text's top, written out by a program (GenHeap), and the top's run in pieces -/
noncomputable abbrev hP : Program := PySem.Challenge.rw_sj0110_01.row.toRowW.prog
noncomputable def en (P : Params) (k : String) (t : Nat) (v : Value) : DictEntry := ⟨PyData.keyHash P (Str.ofString k), .str (Str.ofString k) t, v⟩
noncomputable def fs (l : List Value) : Obj := ⟨.none, none, .fields l.toArray, #[]⟩
noncomputable def cd (l : List Value) : Obj := ⟨.type "code", none, .fields l.toArray, #[]⟩
noncomputable def tp (l : List Value) : Obj := ⟨.type "tuple", none, .seq l.toArray 0, #[]⟩
noncomputable def dc (n : Nat) (l : List DictEntry) : Obj := ⟨.type "dict", none, .dict l.toArray n, #[]⟩
noncomputable def hS (i : Nat) : Stmt := match hP.main.body.drop i with | s :: _ => s | [] => .Return none ⟨0, 0, 0, 0⟩
noncomputable def hM (i j : Nat) : Stmt := match hS i with
  | .ClassDef _ _ _ b _ _ _ _ _ _ _ => (match b.drop j with | s :: _ => s | [] => .Return none ⟨0, 0, 0, 0⟩)
  | s => s
noncomputable def fb (s : Stmt) (q : String) (g : Addr) (cl : List (Str × Addr)) (d kd doc pm : Value) (an : Option Addr) (code ct : Value) (bl : Addr) : FuncData := match s with
  | .FunctionDef n a b _ _ _ sc _ _ _ => ⟨n, Str.ofString q, a, .stmts b, sc, g, cl, d, kd, doc, pm, an, code, ct, bl⟩
  | _ => default
noncomputable def hO1 (P : Params) : List Obj := [cd [.str "<module>" 182, .str "<module>" 183, .str "/claim/cut.py" 184, .int 1 0, .int 0 0, .int 0 0, .int 0 0, .int 0 0, .ref 11, .bool false, .int 181 0, .ref 12, .none, .none, .none, .none, .int 185 0, .int 1 0, .str "/claim/cut.py" 186],
  ⟨.type "frame", none, .plain, List.toArray [some (.ref 13), some (.ref 3), some (.ref 3), none, some (.str "__main__" 164), none, some (.ref 0)]⟩,
  tp [],
  fs [],
  tp [.str "k" 190],
  tp [],
  ⟨.none, none, .func (fb (hS 0) "_wall" 0 [] (.none) (.none) (.none) (.none) (none) (.none) (.none) 0), List.toArray []⟩,
  cd [.str "_wall" 187, .str "_wall" 188, .str "/claim/cut.py" 189, .int 1 0, .int 1 0, .int 0 0, .int 0 0, .int 3 0, .ref 15, .bool true, .int 181 0, .ref 16, .none, .ref 17, .ref 18, .ref 19, .int 191 0, .int 1 0, .str "/claim/cut.py" 192],
  ⟨.type "function", none, .func (fb (hS 0) "_wall" 3 [] (.none) (.none) (.none) (.str "__main__" 164) (none) (.ref 20) (.none) 0), List.toArray []⟩,
  tp [.type "Exception"],
  ⟨.type "builtin_function_or_method", none, .fields (List.toArray [.builtin "type.__prepare__", .type "type"]), List.toArray []⟩,
  dc 5 [en P "__module__" 207 (.str "quic.errors" 194), en P "__qualname__" 209 (.str "QuicError" 208), en P "__firstlineno__" 211 (.int 7 210), en P "__init__" 221 (.ref 35), en P "__static_attributes__" 225 (.ref 36)],
  tp [],
  fs [.int 9 0, .int 4 0, .ref 34],
  cd [.str "QuicError" 202, .str "QuicError" 203, .str "/claim/cut.py" 204, .int 7 0, .int 0 0, .int 0 0, .int 0 0, .int 0 0, .ref 25, .bool false, .int 181 0, .ref 26, .none, .none, .none, .none, .int 205 0, .int 7 0, .str "/claim/cut.py" 206],
  ⟨.type "frame", none, .plain, List.toArray [some (.ref 27), some (.ref 3), some (.ref 24), none, some (.str "quic.errors" 194), none, some (.ref 0)]⟩,
  tp [],
  fs [],
  tp [.str "self" 215, .str "code" 216, .str "frame_type" 217, .str "text" 218],
  tp [],
  ⟨.none, none, .func (fb (hM 4 0) "QuicError.__init__" 0 [] (.none) (.none) (.none) (.none) (none) (.none) (.none) 0), List.toArray []⟩,
  cd [.str "__init__" 212, .str "QuicError.__init__" 213, .str "/claim/cut.py" 214, .int 9 0, .int 4 0, .int 0 0, .int 0 0, .int 3 0, .ref 29, .bool true, .int 181 0, .ref 30, .none, .ref 31, .ref 32, .ref 33, .int 219 0, .int 9 0, .str "/claim/cut.py" 220],
  ⟨.type "function", none, .func (fb (hM 4 0) "QuicError.__init__" 3 [] (.none) (.none) (.none) (.str "quic.errors" 194) (none) (.ref 34) (.none) 0), List.toArray []⟩,
  tp [.str "code" 222, .str "frame_type" 223, .str "text" 224],
  dc 3 [en P "__module__" 207 (.str "quic.errors" 194), en P "__firstlineno__" 211 (.int 7 210), en P "__init__" 221 (.ref 35), en P "__static_attributes__" 225 (.ref 36), en P "__weakref__" 227 (.ref 39), en P "__doc__" 228 (.none)],
  ⟨.type "type", none, .cls { name := "QuicError", bases := [.type "Exception"], mro := [.ref 38, .type "Exception", .type "BaseException", .type "object"], ns := 37, qualname := "QuicError", hasDict := true, slotNames := [], subclasses := [], abstract := false, collection := none, hasDel := false }, List.toArray [some (.ref 22), none, some (.str "QuicError" 200), some (.str "QuicError" 208), some (.builtin "Exception.__new__"), some (.bool true)]⟩,
  ⟨.type "getset_descriptor", none, .fields (List.toArray [.str "__weakref__" 226, .ref 38, .builtin "ExceptionGroup.__weakref__", .none]), List.toArray []⟩,
  ⟨.type "super", none, .fields (List.toArray [.ref 38, .ref 38, .ref 38]), List.toArray []⟩,
  ⟨.type "builtin_function_or_method", none, .fields (List.toArray [.builtin "object.__init_subclass__", .ref 38]), List.toArray []⟩,
  tp [],
  ⟨.type "builtin_function_or_method", none, .fields (List.toArray [.builtin "type.__prepare__", .type "type"]), List.toArray []⟩,
  dc 11 [en P "__module__" 246 (.str "quic.cids" 233), en P "__qualname__" 248 (.str "LocalIds" 247), en P "__firstlineno__" 250 (.int 17 249), en P "__init__" 259 (.ref 55), en P "kept_count" 265 (.ref 60), en P "may_issue" 272 (.ref 67), en P "issue" 282 (.ref 74), en P "ask_to_retire" 290 (.ref 81), en P "on_retire" 299 (.ref 88), en P "sequence_of" 308 (.ref 95), en P "__static_attributes__" 315 (.ref 96)],
  tp [],
  fs [.int 19 0, .int 4 0, .ref 54, .int 27 0, .int 4 0, .ref 59, .int 30 0, .int 4 0, .ref 66, .int 33 0, .int 4 0, .ref 73, .int 42 0, .int 4 0, .ref 80, .int 45 0, .int 4 0, .ref 87, .int 54 0, .int 4 0, .ref 94],
  cd [.str "LocalIds" 241, .str "LocalIds" 242, .str "/claim/cut.py" 243, .int 17 0, .int 0 0, .int 0 0, .int 0 0, .int 0 0, .ref 45, .bool false, .int 181 0, .ref 46, .none, .none, .none, .none, .int 244 0, .int 17 0, .str "/claim/cut.py" 245],
  ⟨.type "frame", none, .plain, List.toArray [some (.ref 47), some (.ref 3), some (.ref 44), none, some (.str "quic.cids" 233), none, some (.ref 0)]⟩,
  tp [],
  fs [],
  tp [.str "self" 254, .str "first" 255, .str "limit" 256],
  tp [],
  ⟨.none, none, .func (fb (hM 8 0) "LocalIds.__init__" 0 [] (.none) (.none) (.none) (.none) (none) (.none) (.none) 0), List.toArray []⟩,
  cd [.str "__init__" 251, .str "LocalIds.__init__" 252, .str "/claim/cut.py" 253, .int 19 0, .int 3 0, .int 0 0, .int 0 0, .int 3 0, .ref 49, .bool true, .int 181 0, .ref 50, .none, .ref 51, .ref 52, .ref 53, .int 257 0, .int 19 0, .str "/claim/cut.py" 258],
  ⟨.type "function", none, .func (fb (hM 8 0) "LocalIds.__init__" 3 [] (.none) (.none) (.none) (.str "quic.cids" 233) (none) (.ref 54) (.none) 0), List.toArray []⟩,
  tp [],
  fs [],
  ⟨.none, none, .func (fb (hM 8 1) "LocalIds.kept_count" 0 [] (.none) (.none) (.none) (.none) (none) (.none) (.none) 0), List.toArray []⟩,
  cd [.str "kept_count" 260, .str "LocalIds.kept_count" 261, .str "/claim/cut.py" 262, .int 27 0, .int 1 0, .int 0 0, .int 0 0, .int 3 0, .ref 56, .bool true, .int 181 0, .ref 57, .none, .none, .none, .ref 58, .int 263 0, .int 27 0, .str "/claim/cut.py" 264],
  ⟨.type "function", none, .func (fb (hM 8 1) "LocalIds.kept_count" 3 [] (.none) (.none) (.none) (.str "quic.cids" 233) (none) (.ref 59) (.none) 0), List.toArray []⟩,
  tp [],
  fs [],
  tp [.str "self" 269],
  tp [],
  ⟨.none, none, .func (fb (hM 8 2) "LocalIds.may_issue" 0 [] (.none) (.none) (.none) (.none) (none) (.none) (.none) 0), List.toArray []⟩,
  cd [.str "may_issue" 266, .str "LocalIds.may_issue" 267, .str "/claim/cut.py" 268, .int 30 0, .int 1 0, .int 0 0, .int 0 0, .int 3 0, .ref 61, .bool true, .int 181 0, .ref 62, .none, .ref 63, .ref 64, .ref 65, .int 270 0, .int 30 0, .str "/claim/cut.py" 271],
  ⟨.type "function", none, .func (fb (hM 8 2) "LocalIds.may_issue" 3 [] (.none) (.none) (.none) (.str "quic.cids" 233) (none) (.ref 66) (.none) 0), List.toArray []⟩,
  tp [],
  fs [],
  tp [.str "self" 276, .str "cid" 277, .str "token" 278, .str "number" 279],
  tp [],
  ⟨.none, none, .func (fb (hM 8 3) "LocalIds.issue" 0 [] (.none) (.none) (.none) (.none) (none) (.none) (.none) 0), List.toArray []⟩]
noncomputable def hO2 (P : Params) : List Obj := [cd [.str "issue" 273, .str "LocalIds.issue" 274, .str "/claim/cut.py" 275, .int 33 0, .int 3 0, .int 0 0, .int 0 0, .int 3 0, .ref 68, .bool true, .int 181 0, .ref 69, .none, .ref 70, .ref 71, .ref 72, .int 280 0, .int 33 0, .str "/claim/cut.py" 281],
  ⟨.type "function", none, .func (fb (hM 8 3) "LocalIds.issue" 3 [] (.none) (.none) (.none) (.str "quic.cids" 233) (none) (.ref 73) (.none) 0), List.toArray []⟩,
  tp [],
  fs [],
  tp [.str "self" 286, .str "prior" 287],
  tp [],
  ⟨.none, none, .func (fb (hM 8 4) "LocalIds.ask_to_retire" 0 [] (.none) (.none) (.none) (.none) (none) (.none) (.none) 0), List.toArray []⟩,
  cd [.str "ask_to_retire" 283, .str "LocalIds.ask_to_retire" 284, .str "/claim/cut.py" 285, .int 42 0, .int 2 0, .int 0 0, .int 0 0, .int 3 0, .ref 75, .bool true, .int 181 0, .ref 76, .none, .ref 77, .ref 78, .ref 79, .int 288 0, .int 42 0, .str "/claim/cut.py" 289],
  ⟨.type "function", none, .func (fb (hM 8 4) "LocalIds.ask_to_retire" 3 [] (.none) (.none) (.none) (.str "quic.cids" 233) (none) (.ref 80) (.none) 0), List.toArray []⟩,
  tp [],
  fs [],
  tp [.str "self" 294, .str "number" 295, .str "used" 296],
  tp [],
  ⟨.none, none, .func (fb (hM 8 5) "LocalIds.on_retire" 0 [] (.none) (.none) (.none) (.none) (none) (.none) (.none) 0), List.toArray []⟩,
  cd [.str "on_retire" 291, .str "LocalIds.on_retire" 292, .str "/claim/cut.py" 293, .int 45 0, .int 3 0, .int 0 0, .int 0 0, .int 3 0, .ref 82, .bool true, .int 181 0, .ref 83, .none, .ref 84, .ref 85, .ref 86, .int 297 0, .int 45 0, .str "/claim/cut.py" 298],
  ⟨.type "function", none, .func (fb (hM 8 5) "LocalIds.on_retire" 3 [] (.none) (.none) (.none) (.str "quic.cids" 233) (none) (.ref 87) (.none) 0), List.toArray []⟩,
  tp [],
  fs [],
  tp [.str "self" 303, .str "cid" 304, .str "number" 305],
  tp [],
  ⟨.none, none, .func (fb (hM 8 6) "LocalIds.sequence_of" 0 [] (.none) (.none) (.none) (.none) (none) (.none) (.none) 0), List.toArray []⟩,
  cd [.str "sequence_of" 300, .str "LocalIds.sequence_of" 301, .str "/claim/cut.py" 302, .int 54 0, .int 2 0, .int 0 0, .int 0 0, .int 3 0, .ref 89, .bool true, .int 181 0, .ref 90, .none, .ref 91, .ref 92, .ref 93, .int 306 0, .int 54 0, .str "/claim/cut.py" 307],
  ⟨.type "function", none, .func (fb (hM 8 6) "LocalIds.sequence_of" 3 [] (.none) (.none) (.none) (.str "quic.cids" 233) (none) (.ref 94) (.none) 0), List.toArray []⟩,
  tp [.str "ever" 309, .str "is_empty" 310, .str "issued" 311, .str "limit" 312, .str "next_sequence" 313, .str "retire_prior" 314],
  dc 4 [en P "__module__" 246 (.str "quic.cids" 233), en P "__firstlineno__" 250 (.int 17 249), en P "__init__" 259 (.ref 55), en P "kept_count" 265 (.ref 60), en P "may_issue" 272 (.ref 67), en P "issue" 282 (.ref 74), en P "ask_to_retire" 290 (.ref 81), en P "on_retire" 299 (.ref 88), en P "sequence_of" 308 (.ref 95), en P "__static_attributes__" 315 (.ref 96), en P "__dict__" 317 (.ref 99), en P "__weakref__" 319 (.ref 100), en P "__doc__" 320 (.none)],
  ⟨.type "type", none, .cls { name := "LocalIds", bases := [.type "object"], mro := [.ref 98, .type "object"], ns := 97, qualname := "LocalIds", hasDict := true, slotNames := [], subclasses := [], abstract := false, collection := none, hasDel := false }, List.toArray [none, none, some (.str "LocalIds" 239), some (.str "LocalIds" 247), some (.builtin "object.__new__"), some (.bool true)]⟩,
  ⟨.type "getset_descriptor", none, .fields (List.toArray [.str "__dict__" 316, .ref 98, .builtin "function.__dict__", .builtin "function.__dict__#set"]), List.toArray []⟩,
  ⟨.type "getset_descriptor", none, .fields (List.toArray [.str "__weakref__" 318, .ref 98, .builtin "ExceptionGroup.__weakref__", .none]), List.toArray []⟩,
  ⟨.type "super", none, .fields (List.toArray [.ref 98, .ref 98, .ref 98]), List.toArray []⟩,
  ⟨.type "builtin_function_or_method", none, .fields (List.toArray [.builtin "object.__init_subclass__", .ref 98]), List.toArray []⟩,
  tp [],
  ⟨.type "builtin_function_or_method", none, .fields (List.toArray [.builtin "type.__prepare__", .type "type"]), List.toArray []⟩,
  dc 16 [en P "__module__" 330 (.str "quic.cids" 233), en P "__qualname__" 332 (.str "RemoteIds" 331), en P "__firstlineno__" 334 (.int 59 333), en P "__init__" 344 (.ref 116), en P "set_token" 352 (.ref 123), en P "check_new" 363 (.ref 130), en P "on_new" 369 (.ref 135), en P "retire_below" 378 (.ref 142), en P "retire" 386 (.ref 149), en P "use" 394 (.ref 156), en P "present" 401 (.ref 163), en P "fresh" 407 (.ref 168), en P "change" 416 (.ref 175), en P "frames" 422 (.ref 180), en P "is_reset" 430 (.ref 187), en P "__static_attributes__" 439 (.ref 188)],
  tp [],
  fs [.int 61 0, .int 4 0, .ref 115, .int 71 0, .int 4 0, .ref 122, .int 74 0, .int 4 0, .ref 129, .int 86 0, .int 4 0, .ref 134, .int 101 0, .int 4 0, .ref 141, .int 107 0, .int 4 0, .ref 148, .int 113 0, .int 4 0, .ref 155, .int 118 0, .int 4 0, .ref 162, .int 121 0, .int 4 0, .ref 167, .int 125 0, .int 4 0, .ref 174, .int 133 0, .int 4 0, .ref 179, .int 138 0, .int 4 0, .ref 186],
  cd [.str "RemoteIds" 325, .str "RemoteIds" 326, .str "/claim/cut.py" 327, .int 59 0, .int 0 0, .int 0 0, .int 0 0, .int 0 0, .ref 106, .bool false, .int 181 0, .ref 107, .none, .none, .none, .none, .int 328 0, .int 59 0, .str "/claim/cut.py" 329],
  ⟨.type "frame", none, .plain, List.toArray [some (.ref 108), some (.ref 3), some (.ref 105), none, some (.str "quic.cids" 233), none, some (.ref 0)]⟩,
  tp [],
  fs [],
  tp [.str "self" 338, .str "first" 339, .str "token" 340, .str "limit" 341],
  tp [],
  ⟨.none, none, .func (fb (hM 9 0) "RemoteIds.__init__" 0 [] (.none) (.none) (.none) (.none) (none) (.none) (.none) 0), List.toArray []⟩,
  cd [.str "__init__" 335, .str "RemoteIds.__init__" 336, .str "/claim/cut.py" 337, .int 61 0, .int 4 0, .int 0 0, .int 0 0, .int 3 0, .ref 110, .bool true, .int 181 0, .ref 111, .none, .ref 112, .ref 113, .ref 114, .int 342 0, .int 61 0, .str "/claim/cut.py" 343],
  ⟨.type "function", none, .func (fb (hM 9 0) "RemoteIds.__init__" 3 [] (.none) (.none) (.none) (.str "quic.cids" 233) (none) (.ref 115) (.none) 0), List.toArray []⟩,
  tp [],
  fs [],
  tp [.str "self" 348, .str "token" 349],
  tp [],
  ⟨.none, none, .func (fb (hM 9 1) "RemoteIds.set_token" 0 [] (.none) (.none) (.none) (.none) (none) (.none) (.none) 0), List.toArray []⟩,
  cd [.str "set_token" 345, .str "RemoteIds.set_token" 346, .str "/claim/cut.py" 347, .int 71 0, .int 2 0, .int 0 0, .int 0 0, .int 3 0, .ref 117, .bool true, .int 181 0, .ref 118, .none, .ref 119, .ref 120, .ref 121, .int 350 0, .int 71 0, .str "/claim/cut.py" 351],
  ⟨.type "function", none, .func (fb (hM 9 1) "RemoteIds.set_token" 3 [] (.none) (.none) (.none) (.str "quic.cids" 233) (none) (.ref 122) (.none) 0), List.toArray []⟩,
  tp [],
  fs [],
  tp [.str "self" 356, .str "number" 357, .str "cid" 358, .str "token" 359, .str "other" 360],
  tp [],
  ⟨.none, none, .func (fb (hM 9 2) "RemoteIds.check_new" 0 [] (.none) (.none) (.none) (.none) (none) (.none) (.none) 0), List.toArray []⟩,
  cd [.str "check_new" 353, .str "RemoteIds.check_new" 354, .str "/claim/cut.py" 355, .int 74 0, .int 4 0, .int 0 0, .int 0 0, .int 3 0, .ref 124, .bool true, .int 181 0, .ref 125, .none, .ref 126, .ref 127, .ref 128, .int 361 0, .int 74 0, .str "/claim/cut.py" 362],
  ⟨.type "function", none, .func (fb (hM 9 2) "RemoteIds.check_new" 3 [] (.none) (.none) (.none) (.str "quic.cids" 233) (none) (.ref 129) (.none) 0), List.toArray []⟩,
  tp [],
  fs []]
noncomputable def hO3 (P : Params) : List Obj := [⟨.none, none, .func (fb (hM 9 3) "RemoteIds.on_new" 0 [] (.none) (.none) (.none) (.none) (none) (.none) (.none) 0), List.toArray []⟩,
  cd [.str "on_new" 364, .str "RemoteIds.on_new" 365, .str "/claim/cut.py" 366, .int 86 0, .int 5 0, .int 0 0, .int 0 0, .int 3 0, .ref 131, .bool true, .int 181 0, .ref 132, .none, .none, .none, .ref 133, .int 367 0, .int 86 0, .str "/claim/cut.py" 368],
  ⟨.type "function", none, .func (fb (hM 9 3) "RemoteIds.on_new" 3 [] (.none) (.none) (.none) (.str "quic.cids" 233) (none) (.ref 134) (.none) 0), List.toArray []⟩,
  tp [],
  fs [],
  tp [.str "self" 373, .str "prior" 374, .str "number" 375],
  tp [],
  ⟨.none, none, .func (fb (hM 9 4) "RemoteIds.retire_below" 0 [] (.none) (.none) (.none) (.none) (none) (.none) (.none) 0), List.toArray []⟩,
  cd [.str "retire_below" 370, .str "RemoteIds.retire_below" 371, .str "/claim/cut.py" 372, .int 101 0, .int 2 0, .int 0 0, .int 0 0, .int 3 0, .ref 136, .bool true, .int 181 0, .ref 137, .none, .ref 138, .ref 139, .ref 140, .int 376 0, .int 101 0, .str "/claim/cut.py" 377],
  ⟨.type "function", none, .func (fb (hM 9 4) "RemoteIds.retire_below" 3 [] (.none) (.none) (.none) (.str "quic.cids" 233) (none) (.ref 141) (.none) 0), List.toArray []⟩,
  tp [],
  fs [],
  tp [.str "self" 382, .str "number" 383],
  tp [],
  ⟨.none, none, .func (fb (hM 9 5) "RemoteIds.retire" 0 [] (.none) (.none) (.none) (.none) (none) (.none) (.none) 0), List.toArray []⟩,
  cd [.str "retire" 379, .str "RemoteIds.retire" 380, .str "/claim/cut.py" 381, .int 107 0, .int 2 0, .int 0 0, .int 0 0, .int 3 0, .ref 143, .bool true, .int 181 0, .ref 144, .none, .ref 145, .ref 146, .ref 147, .int 384 0, .int 107 0, .str "/claim/cut.py" 385],
  ⟨.type "function", none, .func (fb (hM 9 5) "RemoteIds.retire" 3 [] (.none) (.none) (.none) (.str "quic.cids" 233) (none) (.ref 148) (.none) 0), List.toArray []⟩,
  tp [],
  fs [],
  tp [.str "self" 390, .str "number" 391],
  tp [],
  ⟨.none, none, .func (fb (hM 9 6) "RemoteIds.use" 0 [] (.none) (.none) (.none) (.none) (none) (.none) (.none) 0), List.toArray []⟩,
  cd [.str "use" 387, .str "RemoteIds.use" 388, .str "/claim/cut.py" 389, .int 113 0, .int 2 0, .int 0 0, .int 0 0, .int 3 0, .ref 150, .bool true, .int 181 0, .ref 151, .none, .ref 152, .ref 153, .ref 154, .int 392 0, .int 113 0, .str "/claim/cut.py" 393],
  ⟨.type "function", none, .func (fb (hM 9 6) "RemoteIds.use" 3 [] (.none) (.none) (.none) (.str "quic.cids" 233) (none) (.ref 155) (.none) 0), List.toArray []⟩,
  tp [],
  fs [],
  tp [.str "self" 398],
  tp [],
  ⟨.none, none, .func (fb (hM 9 7) "RemoteIds.present" 0 [] (.none) (.none) (.none) (.none) (none) (.none) (.none) 0), List.toArray []⟩,
  cd [.str "present" 395, .str "RemoteIds.present" 396, .str "/claim/cut.py" 397, .int 118 0, .int 1 0, .int 0 0, .int 0 0, .int 3 0, .ref 157, .bool true, .int 181 0, .ref 158, .none, .ref 159, .ref 160, .ref 161, .int 399 0, .int 118 0, .str "/claim/cut.py" 400],
  ⟨.type "function", none, .func (fb (hM 9 7) "RemoteIds.present" 3 [] (.none) (.none) (.none) (.str "quic.cids" 233) (none) (.ref 162) (.none) 0), List.toArray []⟩,
  tp [],
  fs [],
  ⟨.none, none, .func (fb (hM 9 8) "RemoteIds.fresh" 0 [] (.none) (.none) (.none) (.none) (none) (.none) (.none) 0), List.toArray []⟩,
  cd [.str "fresh" 402, .str "RemoteIds.fresh" 403, .str "/claim/cut.py" 404, .int 121 0, .int 1 0, .int 0 0, .int 0 0, .int 3 0, .ref 164, .bool true, .int 181 0, .ref 165, .none, .none, .none, .ref 166, .int 405 0, .int 121 0, .str "/claim/cut.py" 406],
  ⟨.type "function", none, .func (fb (hM 9 8) "RemoteIds.fresh" 3 [] (.none) (.none) (.none) (.str "quic.cids" 233) (none) (.ref 167) (.none) 0), List.toArray []⟩,
  tp [],
  fs [],
  tp [.str "self" 411, .str "number" 412, .str "elder" 413],
  tp [],
  ⟨.none, none, .func (fb (hM 9 9) "RemoteIds.change" 0 [] (.none) (.none) (.none) (.none) (none) (.none) (.none) 0), List.toArray []⟩,
  cd [.str "change" 408, .str "RemoteIds.change" 409, .str "/claim/cut.py" 410, .int 125 0, .int 1 0, .int 0 0, .int 0 0, .int 3 0, .ref 169, .bool true, .int 181 0, .ref 170, .none, .ref 171, .ref 172, .ref 173, .int 414 0, .int 125 0, .str "/claim/cut.py" 415],
  ⟨.type "function", none, .func (fb (hM 9 9) "RemoteIds.change" 3 [] (.none) (.none) (.none) (.str "quic.cids" 233) (none) (.ref 174) (.none) 0), List.toArray []⟩,
  tp [],
  fs [],
  ⟨.none, none, .func (fb (hM 9 10) "RemoteIds.frames" 0 [] (.none) (.none) (.none) (.none) (none) (.none) (.none) 0), List.toArray []⟩,
  cd [.str "frames" 417, .str "RemoteIds.frames" 418, .str "/claim/cut.py" 419, .int 133 0, .int 1 0, .int 0 0, .int 0 0, .int 3 0, .ref 176, .bool true, .int 181 0, .ref 177, .none, .none, .none, .ref 178, .int 420 0, .int 133 0, .str "/claim/cut.py" 421],
  ⟨.type "function", none, .func (fb (hM 9 10) "RemoteIds.frames" 3 [] (.none) (.none) (.none) (.str "quic.cids" 233) (none) (.ref 179) (.none) 0), List.toArray []⟩,
  tp [],
  fs [],
  tp [.str "self" 426, .str "datagram" 427],
  tp [],
  ⟨.none, none, .func (fb (hM 9 11) "RemoteIds.is_reset" 0 [] (.none) (.none) (.none) (.none) (none) (.none) (.none) 0), List.toArray []⟩,
  cd [.str "is_reset" 423, .str "RemoteIds.is_reset" 424, .str "/claim/cut.py" 425, .int 138 0, .int 2 0, .int 0 0, .int 0 0, .int 3 0, .ref 181, .bool true, .int 181 0, .ref 182, .none, .ref 183, .ref 184, .ref 185, .int 428 0, .int 138 0, .str "/claim/cut.py" 429],
  ⟨.type "function", none, .func (fb (hM 9 11) "RemoteIds.is_reset" 3 [] (.none) (.none) (.none) (.str "quic.cids" 233) (none) (.ref 186) (.none) 0), List.toArray []⟩,
  tp [.str "current" 431, .str "is_empty" 432, .str "known" 433, .str "limit" 434, .str "retire_prior" 435, .str "to_retire" 436, .str "told" 437, .str "used" 438],
  dc 4 [en P "__module__" 330 (.str "quic.cids" 233), en P "__firstlineno__" 334 (.int 59 333), en P "__init__" 344 (.ref 116), en P "set_token" 352 (.ref 123), en P "check_new" 363 (.ref 130), en P "on_new" 369 (.ref 135), en P "retire_below" 378 (.ref 142), en P "retire" 386 (.ref 149), en P "use" 394 (.ref 156), en P "present" 401 (.ref 163), en P "fresh" 407 (.ref 168), en P "change" 416 (.ref 175), en P "frames" 422 (.ref 180), en P "is_reset" 430 (.ref 187), en P "__static_attributes__" 439 (.ref 188), en P "__dict__" 441 (.ref 191), en P "__weakref__" 443 (.ref 192), en P "__doc__" 444 (.none)],
  ⟨.type "type", none, .cls { name := "RemoteIds", bases := [.type "object"], mro := [.ref 190, .type "object"], ns := 189, qualname := "RemoteIds", hasDict := true, slotNames := [], subclasses := [], abstract := false, collection := none, hasDel := false }, List.toArray [none, none, some (.str "RemoteIds" 323), some (.str "RemoteIds" 331), some (.builtin "object.__new__"), some (.bool true)]⟩,
  ⟨.type "getset_descriptor", none, .fields (List.toArray [.str "__dict__" 440, .ref 190, .builtin "function.__dict__", .builtin "function.__dict__#set"]), List.toArray []⟩,
  ⟨.type "getset_descriptor", none, .fields (List.toArray [.str "__weakref__" 442, .ref 190, .builtin "ExceptionGroup.__weakref__", .none]), List.toArray []⟩]
noncomputable def hO4 (P : Params) : List Obj := [⟨.type "super", none, .fields (List.toArray [.ref 190, .ref 190, .ref 190]), List.toArray []⟩,
  ⟨.type "builtin_function_or_method", none, .fields (List.toArray [.builtin "object.__init_subclass__", .ref 190]), List.toArray []⟩,
  tp [],
  fs [],
  tp [.str "box" 452, .str "many" 453],
  tp [],
  ⟨.none, none, .func (fb (hS 11) "_law_take" 0 [] (.none) (.none) (.none) (.none) (none) (.none) (.none) 0), List.toArray []⟩,
  cd [.str "_law_take" 449, .str "_law_take" 450, .str "/claim/cut.py" 451, .int 141 0, .int 2 0, .int 0 0, .int 0 0, .int 3 0, .ref 195, .bool true, .int 181 0, .ref 196, .none, .ref 197, .ref 198, .ref 199, .int 454 0, .int 141 0, .str "/claim/cut.py" 455],
  ⟨.type "function", none, .func (fb (hS 11) "_law_take" 3 [] (.none) (.none) (.none) (.str "law_sj0110_01" 447) (none) (.ref 200) (.none) 0), List.toArray []⟩,
  tp [],
  fs [],
  tp [.str "some" 460, .str "pick" 461, .str "at" 462],
  tp [],
  ⟨.none, none, .func (fb (hS 12) "_law_picked" 0 [] (.none) (.none) (.none) (.none) (none) (.none) (.none) 0), List.toArray []⟩,
  cd [.str "_law_picked" 457, .str "_law_picked" 458, .str "/claim/cut.py" 459, .int 146 0, .int 2 0, .int 0 0, .int 0 0, .int 3 0, .ref 202, .bool true, .int 181 0, .ref 203, .none, .ref 204, .ref 205, .ref 206, .int 463 0, .int 146 0, .str "/claim/cut.py" 464],
  ⟨.type "function", none, .func (fb (hS 12) "_law_picked" 3 [] (.none) (.none) (.none) (.str "law_sj0110_01" 447) (none) (.ref 207) (.none) 0), List.toArray []⟩,
  tp [],
  fs [],
  tp [.str "net" 469, .str "issuer" 470, .str "number" 471, .str "frame" 472],
  tp [],
  ⟨.none, none, .func (fb (hS 13) "_law_issued" 0 [] (.none) (.none) (.none) (.none) (none) (.none) (.none) 0), List.toArray []⟩,
  cd [.str "_law_issued" 466, .str "_law_issued" 467, .str "/claim/cut.py" 468, .int 149 0, .int 2 0, .int 0 0, .int 0 0, .int 3 0, .ref 209, .bool true, .int 181 0, .ref 210, .none, .ref 211, .ref 212, .ref 213, .int 473 0, .int 149 0, .str "/claim/cut.py" 474],
  ⟨.type "function", none, .func (fb (hS 13) "_law_issued" 3 [] (.none) (.none) (.none) (.str "law_sj0110_01" 447) (none) (.ref 214) (.none) 0), List.toArray []⟩,
  tp [],
  fs [],
  tp [.str "net" 479, .str "user" 480, .str "pick" 481, .str "kind" 482, .str "number" 483, .str "prior" 484, .str "cid" 485, .str "token" 486],
  tp [],
  ⟨.none, none, .func (fb (hS 14) "_law_comes" 0 [] (.none) (.none) (.none) (.none) (none) (.none) (.none) 0), List.toArray []⟩,
  cd [.str "_law_comes" 476, .str "_law_comes" 477, .str "/claim/cut.py" 478, .int 154 0, .int 3 0, .int 0 0, .int 0 0, .int 3 0, .ref 216, .bool true, .int 181 0, .ref 217, .none, .ref 218, .ref 219, .ref 220, .int 487 0, .int 154 0, .str "/claim/cut.py" 488],
  ⟨.type "function", none, .func (fb (hS 14) "_law_comes" 3 [] (.none) (.none) (.none) (.str "law_sj0110_01" 447) (none) (.ref 221) (.none) 0), List.toArray []⟩,
  tp [],
  fs [],
  tp [.str "net" 493, .str "user" 494, .str "kind" 495, .str "number" 496],
  tp [],
  ⟨.none, none, .func (fb (hS 15) "_law_tells" 0 [] (.none) (.none) (.none) (.none) (none) (.none) (.none) 0), List.toArray []⟩,
  cd [.str "_law_tells" 490, .str "_law_tells" 491, .str "/claim/cut.py" 492, .int 159 0, .int 2 0, .int 0 0, .int 0 0, .int 3 0, .ref 223, .bool true, .int 181 0, .ref 224, .none, .ref 225, .ref 226, .ref 227, .int 497 0, .int 159 0, .str "/claim/cut.py" 498],
  ⟨.type "function", none, .func (fb (hS 15) "_law_tells" 3 [] (.none) (.none) (.none) (.str "law_sj0110_01" 447) (none) (.ref 228) (.none) 0), List.toArray []⟩,
  tp [],
  fs [],
  tp [.str "net" 503, .str "issuer" 504, .str "pick" 505, .str "number" 506, .str "used" 507],
  tp [],
  ⟨.none, none, .func (fb (hS 16) "_law_word" 0 [] (.none) (.none) (.none) (.none) (none) (.none) (.none) 0), List.toArray []⟩,
  cd [.str "_law_word" 500, .str "_law_word" 501, .str "/claim/cut.py" 502, .int 163 0, .int 3 0, .int 0 0, .int 0 0, .int 3 0, .ref 230, .bool true, .int 181 0, .ref 231, .none, .ref 232, .ref 233, .ref 234, .int 508 0, .int 163 0, .str "/claim/cut.py" 509],
  ⟨.type "function", none, .func (fb (hS 16) "_law_word" 3 [] (.none) (.none) (.none) (.str "law_sj0110_01" 447) (none) (.ref 235) (.none) 0), List.toArray []⟩,
  tp [],
  fs [],
  tp [.str "net" 514, .str "issuer" 515, .str "user" 516, .str "form" 517, .str "pick" 518],
  tp [],
  ⟨.none, none, .func (fb (hS 17) "_law_deed" 0 [] (.none) (.none) (.none) (.none) (none) (.none) (.none) 0), List.toArray []⟩,
  cd [.str "_law_deed" 511, .str "_law_deed" 512, .str "/claim/cut.py" 513, .int 168 0, .int 5 0, .int 0 0, .int 0 0, .int 3 0, .ref 237, .bool true, .int 181 0, .ref 238, .none, .ref 239, .ref 240, .ref 241, .int 519 0, .int 168 0, .str "/claim/cut.py" 520],
  ⟨.type "function", none, .func (fb (hS 17) "_law_deed" 3 [] (.none) (.none) (.none) (.str "law_sj0110_01" 447) (none) (.ref 242) (.none) 0), List.toArray []⟩,
  tp [],
  fs [],
  ⟨.none, none, .func (fb (hS 18) "_law_stands" 0 [] (.none) (.none) (.none) (.none) (none) (.none) (.none) 0), List.toArray []⟩,
  cd [.str "_law_stands" 522, .str "_law_stands" 523, .str "/claim/cut.py" 524, .int 181 0, .int 3 0, .int 0 0, .int 0 0, .int 3 0, .ref 244, .bool true, .int 181 0, .ref 245, .none, .none, .none, .ref 246, .int 525 0, .int 181 0, .str "/claim/cut.py" 526],
  ⟨.type "function", none, .func (fb (hS 18) "_law_stands" 3 [] (.none) (.none) (.none) (.str "law_sj0110_01" 447) (none) (.ref 247) (.none) 0), List.toArray []⟩,
  tp [],
  fs [],
  tp [.str "net" 531, .str "issuer" 532, .str "user" 533],
  tp []]
noncomputable def hO5 (P : Params) : List Obj := [⟨.none, none, .func (fb (hS 19) "_law_rest" 0 [] (.none) (.none) (.none) (.none) (none) (.none) (.none) 0), List.toArray []⟩,
  cd [.str "_law_rest" 528, .str "_law_rest" 529, .str "/claim/cut.py" 530, .int 194 0, .int 3 0, .int 0 0, .int 0 0, .int 3 0, .ref 249, .bool true, .int 181 0, .ref 250, .none, .ref 251, .ref 252, .ref 253, .int 534 0, .int 194 0, .str "/claim/cut.py" 535],
  ⟨.type "function", none, .func (fb (hS 19) "_law_rest" 3 [] (.none) (.none) (.none) (.str "law_sj0110_01" 447) (none) (.ref 254) (.none) 0), List.toArray []⟩,
  tp [],
  fs [],
  tp [.str "box" 540, .str "net" 541, .str "issuer" 542, .str "user" 543, .str "turn" 544, .str "form" 545],
  tp [],
  ⟨.none, none, .func (fb (hS 20) "_law_all" 0 [] (.none) (.none) (.none) (.none) (none) (.none) (.none) 0), List.toArray []⟩,
  cd [.str "_law_all" 537, .str "_law_all" 538, .str "/claim/cut.py" 539, .int 200 0, .int 1 0, .int 0 0, .int 0 0, .int 3 0, .ref 256, .bool true, .int 181 0, .ref 257, .none, .ref 258, .ref 259, .ref 260, .int 546 0, .int 200 0, .str "/claim/cut.py" 547],
  ⟨.type "function", none, .func (fb (hS 20) "_law_all" 3 [] (.none) (.none) (.none) (.str "law_sj0110_01" 447) (none) (.ref 261) (.none) 0), List.toArray []⟩,
  tp [],
  fs [],
  tp [.str "script" 552],
  tp [],
  ⟨.none, none, .func (fb (hS 21) "law" 0 [] (.none) (.none) (.none) (.none) (none) (.none) (.none) 0), List.toArray []⟩,
  cd [.str "law" 549, .str "law" 550, .str "/claim/cut.py" 551, .int 215 0, .int 1 0, .int 0 0, .int 0 0, .int 3 0, .ref 263, .bool true, .int 181 0, .ref 264, .none, .ref 265, .ref 266, .ref 267, .int 553 0, .int 215 0, .str "/claim/cut.py" 554],
  ⟨.type "function", none, .func (fb (hS 21) "law" 3 [] (.none) (.none) (.none) (.str "law_sj0110_01" 447) (none) (.ref 268) (.none) 0), List.toArray []⟩]
noncomputable def hO (P : Params) : List Obj := hO1 P ++ (hO2 P ++ (hO3 P ++ (hO4 P ++ (hO5 P))))
noncomputable def h2 (P : Params) : Obj := ⟨.none, none, .dict (List.toArray [en P "type.__subclasses__.Exception.0" 229 (.int 38 0), en P "type.__subclasses__.Exception.n" 230 (.int 1 0)]) 2, List.toArray []⟩
noncomputable def hV (P : Params) : Value := match (boot_o_3 P).data with
  | .dict l _ => (match l.toList.drop 3 with | e :: _ => e.val | [] => .none)
  | _ => .none
noncomputable def h3 (P : Params) (v : Value) (n : Nat) : Obj := dc n ((en P "__name__" 165 v :: [en P "__doc__" 166 (.none), en P "__package__" 167 (.none), en P "__loader__" 168 (hV P), en P "__spec__" 169 (.none), en P "__annotations__" 170 (.ref 6), en P "__builtins__" 171 (.ref 4), en P "__file__" 173 (.str "/claim/cut.py" 172), en P "__cached__" 174 (.none), en P "_wall" 193 (.ref 21), en P "CONNECTION_ID_LIMIT_ERROR" 197 (.int 9 196), en P "PROTOCOL_VIOLATION" 199 (.int 10 198), en P "QuicError" 232 (.ref 38), en P "FRAME_NEW" 236 (.int 24 235), en P "FRAME_RETIRE" 238 (.int 25 237), en P "LocalIds" 322 (.ref 98), en P "RemoteIds" 446 (.ref 190), en P "_law_take" 456 (.ref 201), en P "_law_picked" 465 (.ref 208), en P "_law_issued" 475 (.ref 215), en P "_law_comes" 489 (.ref 222), en P "_law_tells" 499 (.ref 229), en P "_law_word" 510 (.ref 236), en P "_law_deed" 521 (.ref 243), en P "_law_stands" 527 (.ref 248), en P "_law_rest" 536 (.ref 255), en P "_law_all" 548 (.ref 262), en P "law" 555 (.ref 269)]).take n)
noncomputable def h12 (n : Nat) : Obj := fs (([.int 1 0, .int 0 0, .ref 20, .int 7 0, .int 0 0, .ref 27, .int 17 0, .int 0 0, .ref 47, .int 59 0, .int 0 0, .ref 108, .int 141 0, .int 0 0, .ref 200, .int 146 0, .int 0 0, .ref 207, .int 149 0, .int 0 0, .ref 214, .int 154 0, .int 0 0, .ref 221, .int 159 0, .int 0 0, .ref 228, .int 163 0, .int 0 0, .ref 235, .int 168 0, .int 0 0, .ref 242, .int 181 0, .int 0 0, .ref 247, .int 194 0, .int 0 0, .ref 254, .int 200 0, .int 0 0, .ref 261, .int 215 0, .int 0 0, .ref 268] : List Value).take n)
noncomputable def hL (P : Params) (o2 : Obj) (v : Value) (n k3 k12 : Nat) : List Obj :=
  boot_o_0 P :: boot_o_1 P :: o2 :: h3 P v k3 :: boot_o_4 P :: boot_o_5 P :: boot_o_6 P :: boot_o_7 P :: boot_o_8 P :: boot_o_9 P :: boot_o_10 P :: tp [] :: h12 k12 :: (hO P).take (n - 13)
noncomputable def hN : Array GenState := Array.mk []
noncomputable def ev : List Obj → List Obj
  | a :: _ :: r => a :: ev r
  | l => l
noncomputable def od : List Obj → List Obj
  | _ :: b :: r => b :: od r
  | _ => []
noncomputable def mkT : Nat → List Obj → BT
  | 0, _ => .nil
  | _ + 1, [] => .nil
  | n + 1, v :: r => .node v (mkT n (ev r)) (mkT n (od r))
noncomputable def hT0 (w : World) (os : OsState) : SharedT := ⟨mkT 10 (hL w.params (boot_o_2 w.params) (.str "__main__" 164) 15 9 0), 15, {}, hN, {}, 187, os⟩
noncomputable abbrev hS0 (w : World) (os : OsState) : Shared := (hT0 w os).abs
noncomputable def hT1 (w : World) (os : OsState) : SharedT := ⟨mkT 10 (hL w.params (h2 w.params) (.str "quic.cids" 233) 42 15 6), 42, {}, hN, {}, 239, os⟩
noncomputable abbrev hS1 (w : World) (os : OsState) : Shared := (hT1 w os).abs
noncomputable def hT2 (w : World) (os : OsState) : SharedT := ⟨mkT 10 (hL w.params (h2 w.params) (.str "quic.cids" 233) 103 16 9), 103, {}, hN, {}, 323, os⟩
noncomputable abbrev hS2 (w : World) (os : OsState) : Shared := (hT2 w os).abs
noncomputable def hT3 (w : World) (os : OsState) : SharedT := ⟨mkT 10 (hL w.params (h2 w.params) (.str "quic.cids" 233) 195 17 12), 195, {}, hN, {}, 447, os⟩
noncomputable abbrev hS3 (w : World) (os : OsState) : Shared := (hT3 w os).abs
noncomputable def hH (P : Params) : Heap := ⟨⟨hL P (h2 P) (.str "law_sj0110_01" 447) 270 28 45⟩, {}⟩
noncomputable def hT4 (w : World) (os : OsState) : SharedT := ⟨mkT 10 (hL w.params (h2 w.params) (.str "law_sj0110_01" 447) 270 28 45), 270, {}, hN, {}, 556, os⟩
noncomputable abbrev hS4 (w : World) (os : OsState) : Shared := (hT4 w os).abs
noncomputable abbrev hS5 (w : World) (os : OsState) : Shared := ⟨hH w.params, hN, {}, 556, os⟩
noncomputable abbrev hZ : Pos := ⟨0, 0, 0, 0⟩
noncomputable abbrev hl1 : List Stmt := hP.main.body.take 8
noncomputable abbrev hl2 : List Stmt := (hP.main.body.drop 8).take 1
noncomputable abbrev hl3 : List Stmt := (hP.main.body.drop 9).take 1
noncomputable abbrev hl4 : List Stmt := hP.main.body.drop 10
noncomputable abbrev hb : List Stmt := hl1 ++ (hl2 ++ (hl3 ++ (hl4 ++ [])))
noncomputable abbrev hE : Env := { scope := hP.main.scope, locals := mainNs, globals := mainNs, cells := [], code := .ref 13, frame := some 14 }
noncomputable abbrev hC : Code := .body hb hE
theorem h_open : ∀ w : World, (fencedOpening treeTable hP w 3456).map (fun s => (s.heap, s.gens, s.drawn, s.toks)) = some (boot_heap w.params, Array.mk [], boot_drawn, boot_toks) :=
  boot_open (by kernel_rfl) (by decide) (fun s => by kernel_rfl)
theorem h_size : ∀ w : World, ((boot_heap w.params).isNs mainGlobals && (Array.mk [] : Array GenState).size == 0, (boot_heap w.params).objs.size, (boot_heap w.params).nsMap mainGlobals "__annotations__") = (true, 11, some (.ref 6)) := by
  intro w; kernel_rfl
section
variable (w : World) (os : OsState)
theorem h_pre : topGo treeTable hP w 11 (some (.ref 6)) 12 ⟨boot_heap w.params, Array.mk [], boot_drawn, boot_toks, os⟩ (topStub hP) = some (hS0 w os, ⟨denote treeTable hC, hC, hZ, [topFrame hZ]⟩) := by
  kernel_rfl
theorem h_block : segRun treeTable hP w 11 (some (.ref 6)) 1 1 (hS0 w os) (blockOf hb hE hC hZ [topFrame hZ]) = some (.next, hS0 w os, hC, hZ) := by
  kernel_rfl
theorem h_1 : segRunT treeTable hP w 11 (some (.ref 6)) 1 316 (hT0 w os) (piecesOf hl1 hE hC hZ [topFrame hZ]) = some (.next, hT1 w os, hC, ⟨16, 0, 16, 12⟩) := by
  (try rw [PySem.W.Fast.te10110043849684766642, PySem.W.Fast.te14364793385576792824]); kernel_rfl
theorem h_2 : segRunT treeTable hP w 11 (some (.ref 6)) 1 420 (hT1 w os) (piecesOf hl2 hE hC ⟨16, 0, 16, 12⟩ [topFrame hZ]) = some (.next, hT2 w os, hC, ⟨17, 0, 58, 19⟩) := by
  (try rw [PySem.W.Fast.te10110043849684766642, PySem.W.Fast.te14364793385576792824]); kernel_rfl
theorem h_3 : segRunT treeTable hP w 11 (some (.ref 6)) 1 576 (hT2 w os) (piecesOf hl3 hE hC ⟨17, 0, 58, 19⟩ [topFrame hZ]) = some (.next, hT3 w os, hC, ⟨59, 0, 139, 16⟩) := by
  (try rw [PySem.W.Fast.te10110043849684766642, PySem.W.Fast.te14364793385576792824]); kernel_rfl
theorem h_4 : segRunT treeTable hP w 11 (some (.ref 6)) 1 357 (hT3 w os) (piecesOf hl4 hE hC ⟨59, 0, 139, 16⟩ [topFrame hZ]) = some (.next, hT4 w os, hC, ⟨215, 0, 219, 20⟩) := by
  (try rw [PySem.W.Fast.te10110043849684766642, PySem.W.Fast.te14364793385576792824]); kernel_rfl
theorem h_fin : topRun treeTable hP w 11 (some (.ref 6)) 2 (hS4 w os) ⟨doneF .next, hC, ⟨215, 0, 219, 20⟩, [topFrame hZ]⟩ = some (hS5 w os) := by
  kernel_rfl
theorem h_run : topRun treeTable hP w 11 (some (.ref 6)) (12 + (1 + (316 + (420 + (576 + (357 + 2)))))) ⟨boot_heap w.params, Array.mk [], boot_drawn, boot_toks, os⟩ (topStub hP) = some (hS5 w os) :=
  go_top (h_pre w os) (piece_block (h_block w os) (piece_app (segRun_of (h_1 w os)) (piece_app (segRun_of (h_2 w os)) (piece_app (segRun_of (h_3 w os)) (piece_app (segRun_of (h_4 w os)) (piece_nil (h_fin w os)))))))
theorem h_look1 : (staticsOk (importedModules hP.main.body) (boot_heap w.params) (hH w.params) && namesBound hP (hH w.params) && gensDone (hS5 w os) && laidKept (boot_heap w.params) (hH w.params)) = true := by
  kernel_rfl
theorem h_look2 : openSeen view [] (importedModules hP.main.body) (fun s => xlAt view [] s && recOk (RowW.records PySem.Challenge.rw_sj0110_01.row.toRowW) s) true (hS5 w os) = openGood view [] := by
  (try rw [PySem.W.Fast.te4187177175401517315]); kernel_rfl
end
end Hp
theorem law_said : OpenLaw.wellSaid PySem.Challenge.rw_sj0110_01 = true := by
  delta OpenLaw.wellSaid OpenRow.wellSaid OpenRow.partSaid looksOpen
  repeat' (with_reducible refine look_both ?_ ?_)
  all_goals ((try rw [PySem.W.Fast.te8326940854005059898]); (try rw [PySem.W.Fast.te8377067652309620493]); (try rw [PySem.W.Fast.te17119622794617984870]); (try rw [PySem.W.Fast.te2368527892694137696]); (try rw [PySem.W.Fast.te9558739934217749035]); decide +kernel)
local macro_rules | `(tactic| o_head $H) => do
  let hw := Lean.mkIdent `hw; let hc := Lean.mkIdent `hc
  `(tactic| (refine holds_open (q := view) (loose := []) (Xt := fun s => xlAt view [] s && recOk (RowW.records PySem.Challenge.rw_sj0110_01.row.toRowW) s) (XP := XL view []) (Yf := Hook.obs $H) (Ya := Hook.val $H) (YP := Hook.says $H) (N := 3456) (LeftO.of_pieces (H₀ := boot_heap) (H₁ := Hp.hH) Hp.h_open Hp.h_size Hp.h_run (by decide) (fun w => funext fun os => Prod.ext (Hp.h_look1 w os) (Prod.ext (Hp.h_look2 w os) (by kernel_rfl)))) (Hook.of $H) (Hook.keeps $H) (fun s e => xl_of s (Bool.and_eq_true_iff.mp e).1) XL.keeps (by rfl) (by rfl) (by rfl) (fun s e => recFacts_of (Bool.and_eq_true_iff.mp e).2) (by rfl) (by first | assumption | decide +kernel) (by decide +kernel) ⟨rfl, rfl, rfl, rfl, rfl, by decide +kernel⟩ ?$hw ?$hc))
local macro_rules | `(tactic| o_law) => `(tactic| refine holds_law law_said fun said => ?_)
open_top hd for PySem.Challenge.rw_sj0110_01
end
section
open PySem.Spec PySem.Calls PyProof.Rows.LCt PyProof.Rows.LCg
section
variable {prog : Program} {w : World} {A : Around} {E : Value → Shared → Prop} {s : Shared} {h₀ : Heap} {L : Addr} {m : Str → Option Value} {env : Env}
/-- what a comprehension over a dict's keys asks -/
def CompD (prog : Program) (w : World) {K : Type} [DecidableEq K] (knd : KeyKind prog w K) (A : Around) (h₀ : Heap) (L : Addr) (m : Str → Option Value) (env : Env) (ct elt : Expr) (x : Str) (scope : Scope) (cl : List (Str × Addr)) (Q : Value → Shared → Prop) (xv : Value) (s₁ : Shared) : Prop :=
  ∃ (d : Addr) (o : Obj) (kvs : List (K × Value)) (news : List (Addr × Obj)), xv = .ref d ∧ A.handled = none ∧ Fr h₀ L s₁.heap m ∧ News h₀ L s₁.heap news ∧ (d, o) ∈ news ∧ o.IsDictOf knd kvs ∧ kvs.length ≤ sizeLine ∧ (d == sysModules) = false ∧
      ∀ s₂ : Shared, (∃ h, s₂ = { s₁ with heap := h }) → CompRestT prog w A h₀ L m env ct elt x scope cl s₂ (fun nw => (d, o) ∈ nw) (fun i v => ∃ k x, kvs[i]? = some (k, x) ∧ knd.is k v = true) (FinE h₀ L m s₂ Q) kvs.length 0 [] news
/-- a list comprehension with one test over a dict's keys -/
theorem ListComp_D {K : Type} [DecidableEq K] {knd : KeyKind prog w K} {ct elt iter : Expr} {x : Str} {px : Pos} {scope : Scope} {cl : List (Str × Addr)} {pos : Pos} {Q : Value → Shared → Prop} (_F₀ : Fr h₀ L s.heap m)
    (hclos : closureFor scope env = pure cl) (hcell : ∀ y ∈ scope.names, y.2 ≠ .cell) (hkind : scope.kind = .function)
    (hnames : ∀ y ∈ scope.names, y.2 = .local → scope.names.lookup y.1 = some .local) (hx : scope.names.lookup x = some .local)
    (h : wpAny (model prog w) A (eval iter env) (CompD prog w knd A h₀ L m env ct elt x scope cl Q) E s)
    (hs : ∀ x, foldedSetIterable iter env x = pure x := by intro _; rfl) :
    wpAny (model prog w) A (eval (.ListComp elt [⟨.Name x px, iter, [ct], 0⟩] scope pos) env) Q E s := by
  rw [eval_ListComp]
  refine wpAny_comprehension_free (use := none) rfl hs hclos hkind hnames (wpAny_mono h (fun xv s₁ h₁ => ?_) fun _ _ e => e)
  obtain ⟨d, o, kvs, news, rfl, hh, F, N, hm, hd, hsz, lo, R⟩ := h₁
  obtain ⟨ep, hat⟩ := KdkAt.of hd
  have hD : s₁.heap.DictAt knd d kvs ep := hat.dictAt (N _ hm).1
  have hlt : d < s₁.heap.objs.size := Heap.lt_size (N _ hm).1
  refine wpAny_pyIter_dict lo hD ?_
  have up : ∀ b o, s₁.heap.get? b = some o → (s₁.heap.push { cls := .type "dict_keyiterator", data := .fields #[.ref d, .int 0 0, .int kvs.length 0, .int ep 0] }).get? b = some o := fun b o e => Heap.get?_push_of_some _ e
  refine block_T (Walks.dictKeys (knd := knd) hh s₁.heap.objs.size d (Nat.ne_of_lt hlt) kvs ep) hsz (fun i h st => by obtain ⟨o, e, _⟩ := st.1; exact ⟨o, e⟩) (S := fun nw => (d, o) ∈ nw) ?_ hcell hkind hx ⟨⟨_, Heap.get?_push_size _ rfl, rfl, rfl⟩, hat.dictAt (up _ _ (N _ hm).1)⟩ (fun b hb => ?_)
      (F.keeps up) (N.grown up) (Nat.ne_of_lt F.ns.lt) (next_is_new F) (fun p hp => Nat.ne_of_lt (Heap.lt_size (N p hp).1)) hm (R _ ⟨_, rfl⟩) ?_
  · intro i h h' oI nw st e e' _ N' hm'
    obtain ⟨⟨oi, hi, hr⟩, _⟩ := st
    refine ⟨⟨oi, ?_, hr⟩, hat.dictAt (N' _ hm').1⟩
    rw [e', ← e, hi]
  · show b < (s₁.heap.push _).objs.size
    rw [Heap.size_push]
    rcases List.mem_cons.mp hb with rfl | hb
    · exact Nat.lt_succ_self _
    · rw [List.mem_singleton.mp hb]; exact Nat.lt_succ_of_lt hlt
  · intro D C h tk m' ys news' F' N' o1 hn hC₀ hD₀ hCL hDL hCD offC fin
    refine ⟨m', hn, fun h'' hs'' => fin D h'' tk (F'.change hs'' hCL hC₀) (fun p hp => ?_) o1⟩
    refine ⟨hs''.extBut _ _ ?_ (N' p hp).1, (N' p hp).2⟩
    rcases List.mem_cons.mp hp with rfl | hp
    · exact Ne.symm hCD
    · exact offC p hp
/-- the turns of a comprehension of ints with a quiet test -/
theorem restT_filter {ct elt : Expr} {x : Str} {scope : Scope} {cl : List (Str × Addr)} {S : List (Addr × Obj) → Prop} {P : Nat → Value → Prop} {Fin : List Value → List (Addr × Obj) → Prop} {news : List (Addr × Obj)} {n : Nat} {ks : List Int} (p : Int → Bool)
    (hks : ks.length = n) (hP : ∀ i v, i < n → P i v → ∃ k t, ks[i]? = some k ∧ v = .int k t) (hS : S news)
    (test : ∀ k t I oI C oC D oD m₂ h tk (E' : Value → Shared → Prop), k ∈ ks → NsObj oC m₂ → m₂ x = some (.int k t) → Fr h₀ L h m → News h₀ L h ((I, oI) :: (C, oC) :: (D, oD) :: news) →
      wpAny (model prog w) A (isTrue ct (compEnvC scope cl C env) (eval ct (compEnvC scope cl C env))) (fun ok s' => ok = p k ∧ ∃ h' tk', s' = { s with heap := h', toks := tk' } ∧ Fr h₀ L h' m ∧ News h₀ L h' ((I, oI) :: (C, oC) :: (D, oD) :: news)) E' { s with heap := h, toks := tk })
    (helt : ∀ k t C oC m₂ h tk (E' : Value → Shared → Prop) (Q : Value → Shared → Prop), h.get? C = some oC → NsObj oC m₂ → m₂ x = some (.int k t) → Q (.int k t) { s with heap := h, toks := tk } → wpAny (model prog w) A (eval elt (compEnvC scope cl C env)) Q E' { s with heap := h, toks := tk })
    (fin : ∀ ys, IntsAre ys (ks.filter p) → Fin ys news) : CompRestT prog w A h₀ L m env ct elt x scope cl s S P Fin n 0 [] news := by
  have key : ∀ j i ys, i + j = n → IntsAre ys ((ks.take i).filter p) → CompRestT prog w A h₀ L m env ct elt x scope cl s S P Fin j i ys news := by
    intro j
    induction j with
    | zero =>
      intro i ys hi hy
      refine CompRestT.zero (fin ys ?_)
      have : ks.take i = ks := by rw [List.take_of_length_le]; omega
      rwa [this] at hy
    | succ j ih =>
      intro i ys hi hy
      refine CompRestT.succ ?_
      intro v I oI C oC D m₂ h tk E' hv hC hx F' N' off ne
      obtain ⟨k, t, hk, rfl⟩ := hP i v (by omega) hv
      refine wpAny_mono (test k t I oI C oC D _ m₂ h tk E' (List.mem_of_getElem? hk) hC hx F' N') (fun ok s' hq => ?_) fun _ _ e => e
      obtain ⟨rfl, h', tk', rfl, F₂, N₂⟩ := hq
      have hnext : (ks.take (i + 1)).filter p = (ks.take i).filter p ++ (if p k then [k] else []) := by
        rw [List.take_add_one, hk, List.filter_append]
        cases hp : p k <;> simp [hp]
      cases hp : p k with
      | true =>
        simp only [if_true]
        refine helt k t C oC m₂ h' tk' E' _ (N₂ (C, oC) (List.mem_cons_of_mem _ List.mem_cons_self)).1 hC hx ?_
        refine ⟨h', tk', news, rfl, F₂, N₂, off, hS, ih (i + 1) _ (by omega) ?_⟩
        rw [hnext, hp]
        exact IntsAre.append hy (IntsAre.cons k t IntsAre.nil)
      | false =>
        simp only [Bool.false_eq_true, if_false]
        refine ⟨h', tk', news, rfl, F₂, N₂, off, hS, ih (i + 1) _ (by omega) ?_⟩
        rw [hnext, hp]
        simpa using hy
  exact key n 0 [] (by omega) (by simpa using IntsAre.nil)
/-- the quiet test's end -/
def TestEnd (h₀ : Heap) (L : Addr) (m : Str → Option Value) (s : Shared) (news : List (Addr × Obj)) (b : Bool) (ok : Bool) (s' : Shared) : Prop :=
  ok = b ∧ ∃ h' tk', s' = { s with heap := h', toks := tk' } ∧ Fr h₀ L h' m ∧ News h₀ L h' news
theorem TestEnd.intro {h' : Heap} {tk : Nat} {news news' : List (Addr × Obj)} {b ok : Bool} (e : ok = b) (F : Fr h₀ L h' m) (N : News h₀ L h' news') (hs : ∀ p ∈ news, p ∈ news') : TestEnd h₀ L m s news b ok { s with heap := h', toks := tk } :=
  ⟨e, h', tk, rfl, F, fun p hp => N p (hs p hp)⟩
theorem intKeys_get {prog : Program} {w : World} {kvs : List (Int × Value)} {i : Nat} {v : Value} (h : ∃ k x, kvs[i]? = some (k, x) ∧ (PySem.intKind prog w).is k v = true) : ∃ k t, (kvs.map (·.1))[i]? = some k ∧ v = .int k t := by
  obtain ⟨k, x, e, q⟩ := h
  obtain ⟨t, rfl⟩ := Value.isInt_shape q
  exact ⟨k, t, by rw [List.getElem?_map, e]; rfl, rfl⟩
/-- a comprehension of ints over an int-keyed dict, with a quiet test -/
theorem CompD.filter {hp : Heap} {gn : Array GenState} {dr : Drawn} {tk₀ : Nat} {os : OsState} {ct elt : Expr} {x : Str} {q : Pos} {scope : Scope} {cl : List (Str × Addr)} {Q : Value → Shared → Prop} {d : Addr} {o : Obj} {kvs : List (Int × Value)} {news : List (Addr × Obj)} (p : Int → Bool)
    (hh : A.handled = none) (F : Fr h₀ L hp m) (N : News h₀ L hp news) (hm : (d, o) ∈ news) (hd : o.IsDictOf (PySem.intKind prog w) kvs) (hsz : kvs.length ≤ sizeLine) (lo : (d == sysModules) = false)
    (test : ∀ g k t I oI C oC D oD m₂ h tk (E' : Value → Shared → Prop), k ∈ kvs.map (·.1) → NsObj oC m₂ → m₂ x = some (.int k t) → Fr h₀ L h m → News h₀ L h ((I, oI) :: (C, oC) :: (D, oD) :: news) →
      wpAny (model prog w) A (isTrue ct (compEnvC scope cl C env) (eval ct (compEnvC scope cl C env))) (TestEnd h₀ L m ⟨g, gn, dr, tk₀, os⟩ ((I, oI) :: (C, oC) :: (D, oD) :: news) (p k)) E' ⟨h, gn, dr, tk, os⟩)
    (hq : elt = .Name x q ∧ scope.names.lookup x = some .local ∧ scope.kind = .function ∧ (x == ("__debug__" : Str)) = false)
    (fin : ∀ D ys h tk, IntsAre ys ((kvs.map (·.1)).filter p) → Fr h₀ L h m → News h₀ L h ((D, W.listOf ys.toArray ys.length) :: news) → Q (.ref D) ⟨h, gn, dr, tk, os⟩) :
    CompD prog w (PySem.intKind prog w) A h₀ L m env ct elt x scope cl Q (.ref d) ⟨hp, gn, dr, tk₀, os⟩ := by
  refine ⟨d, o, kvs, news, rfl, hh, F, N, hm, hd, hsz, lo, ?_⟩
  rintro s₂ ⟨g, rfl⟩
  obtain ⟨rfl, hx, hk, hdb⟩ := hq
  refine restT_filter (ks := kvs.map (·.1)) p (by simp) (fun i v _ hv => intKeys_get hv) hm (fun k t I oI C oC D oD m₂ h tk E' hk hC hx F' N' => ?_) (fun k t C oC m₂ h tk E' Q' hC hN hx' hq' => ?_) (fun ys hy D h tk F' N' _ => fin D ys h tk hy F' N')
  · exact test g k t I oI C oC D oD m₂ h tk E' hk hC hx F' N'
  · exact ldVarK (hN.ns hC) hx' hq' (by simp [compEnvC, relabel, hk]) (lookup_relabel_local hx) hdb
theorem len_lst {D : Addr} {its : Array Value} {n : Nat} {news : List (Addr × Obj)} {Q : Value → Shared → Prop} (N : News h₀ L s.heap news) (hm : (D, W.listOf its n) ∈ news) (hfit : its.size ≤ 100000)
    (h : Q (.int its.size (s.toks + 1)) { s with toks := s.toks + 1 + 1 }) : wpAny (model prog w) A (call (.builtin "len") [.ref D]) Q E s :=
  len_list (News.isList N hm) (by omega) h
theorem News.of {h : Heap} {news news' : List (Addr × Obj)} (N : News h₀ L h news') (hs : ∀ p ∈ news, p ∈ news') : News h₀ L h news := fun p hp => N p (hs p hp)
end
/-- one entry taken out of a ledger -/
inductive Pick {α : Type} (x : α) : List α → List α → Prop
  | here {l} : Pick x (x :: l) l
  | there {y l l'} : Pick x l l' → Pick x (y :: l) (y :: l')
theorem Pick.mem {α : Type} {x : α} : ∀ {l l' : List α}, Pick x l l' → x ∈ l ∧ ∀ p ∈ l', p ∈ l
  | _, _, .here => ⟨List.mem_cons_self, fun _ h => List.mem_cons_of_mem _ h⟩
  | _, _, .there h => ⟨List.mem_cons_of_mem _ h.mem.1, fun p hp => by
      rcases List.mem_cons.mp hp with rfl | hp
      · exact List.mem_cons_self
      · exact List.mem_cons_of_mem _ (h.mem.2 p hp)⟩
inductive Picks {α : Type} : List α → List α → List α → Prop
  | nil {l} : Picks [] l l
  | cons {x xs l l' r} : Pick x l l' → Picks xs l' r → Picks (x :: xs) l r
theorem Picks.mem {α : Type} : ∀ {xs l r : List α}, Picks xs l r → ∀ p ∈ xs ++ r, p ∈ l
  | _, _, _, .nil, _, hp => hp
  | _, _, _, .cons h t, p, hp => by
    rcases List.mem_cons.mp hp with rfl | hp
    · exact h.mem.1
    · exact h.mem.2 p (t.mem p hp)
theorem News.picks {h₀ h : Heap} {L : Addr} {xs l r : List (Addr × Obj)} (N : News h₀ L h l) (P : Picks xs l r) : News h₀ L h (xs ++ r) := fun p hp => N p (P.mem p hp)
section
open PyProof.Rows.LCt PyProof.Rows.LCg
/-- a comprehension of ints over a made list of ints, with a quiet test: the turns -/
theorem restL_filter {prog : Program} {w : World} {A : Around} {h₀ : Heap} {L : Addr} {m : Str → Option Value} {env : Env} {hp : Heap} {gn : Array GenState} {dr : Drawn} {tk₀ : Nat} {os : OsState} {ct elt : Expr} {x : Str} {q : Pos} {scope : Scope} {cl : List (Str × Addr)} {vs : List Value} {ns : List Int} {n : Nat} {S : List (Addr × Obj) → Prop} {news : List (Addr × Obj)} {Fin : List Value → List (Addr × Obj) → Prop} (p : Int → Bool)
    (hi : IntsAre vs ns) (hn : n = ns.length) (hS : S news)
    (test : ∀ k t I oI C oC D oD m₂ h tk (E' : Value → Shared → Prop), k ∈ ns → NsObj oC m₂ → m₂ x = some (.int k t) → Fr h₀ L h m → News h₀ L h ((I, oI) :: (C, oC) :: (D, oD) :: news) →
      wpAny (model prog w) A (isTrue ct (compEnvC scope cl C env) (eval ct (compEnvC scope cl C env))) (TestEnd h₀ L m ⟨hp, gn, dr, tk₀, os⟩ ((I, oI) :: (C, oC) :: (D, oD) :: news) (p k)) E' ⟨h, gn, dr, tk, os⟩)
    (hq : elt = .Name x q ∧ scope.names.lookup x = some .local ∧ scope.kind = .function ∧ (x == ("__debug__" : Str)) = false)
    (fin : ∀ ys, IntsAre ys (ns.filter p) → Fin ys news) :
    CompRestT prog w A h₀ L m env ct elt x scope cl ⟨hp, gn, dr, tk₀, os⟩ S (fun i v => vs.toArray[i]? = some v) Fin n 0 [] news := by
  obtain ⟨rfl, hx, hk, hdb⟩ := hq
  refine restT_filter (ks := ns) p hn.symm (fun i v _ hv => ?_) hS (fun k t I oI C oC D oD m₂ h tk E' hk hC hx F' N' => ?_) (fun k t C oC m₂ h tk E' Q' hC hN hx' hq' => ?_) fin
  · obtain ⟨k, t, rfl, e⟩ := hi.at i v (by simpa using hv)
    exact ⟨k, t, e, rfl⟩
  · exact test k t I oI C oC D _ m₂ h tk E' hk hC hx F' N'
  · exact ldVarK (hN.ns hC) hx' hq' (by simp [compEnvC, relabel, hk]) (lookup_relabel_local hx) hdb
end
end
section
/-- an entry of an object's dict -/
abbrev ent (w : World) (x : Str) (t : Tok) (v : Value) : DictEntry := ⟨PyData.keyHash w.params x, .str x t, v⟩
/-- the issuer's fields -/
abbrev locD (w : World) (iss ev : Addr) (lim nx rp : Int) (k1 k2 k3 k4 k5 k6 t1 t4 t5 : Tok) : Obj := dictOf [ent w "limit" k1 (.int lim t1), ent w "issued" k2 (.ref iss), ent w "ever" k3 (.ref ev), ent w "next_sequence" k4 (.int nx t4), ent w "retire_prior" k5 (.int rp t5), ent w "is_empty" k6 (.bool false)] 6
/-- what a call may lean on -/
structure Cx (w : World) (A₀ : Around) (base h₀ : Heap) (env : Env) (outer : List Env) (L : Addr) (mg mb : Str → Option Value) (mean : ExcName → Option Value) : Prop where
  B : Below A₀ base outer h₀
  X : (hd.heap_1 w.params).In h₀
  T : Top Mine.view (looseW Mine.view []) mean mg mb h₀
  hf : env.frame = some L
  hke : env.scope.kind = .function
/-- the user's fields -/
abbrev remD (w : World) (kn us td tr : Addr) (lim cur rp : Int) (k1 k2 k3 k4 k5 k6 k7 k8 t1 t3 t5 : Tok) : Obj := dictOf [ent w "limit" k1 (.int lim t1), ent w "known" k2 (.ref kn), ent w "current" k3 (.int cur t3), ent w "used" k4 (.ref us), ent w "retire_prior" k5 (.int rp t5), ent w "told" k6 (.ref td), ent w "to_retire" k7 (.ref tr), ent w "is_empty" k8 (.bool false)] 8
abbrev tupOf (its : Array Value) : Obj := { cls := .type "tuple", data := .seq its }
/-- a call that no contract takes: the walk stops here -/
def Stuck (P : Prop) : Prop := P
theorem Stuck.out {P : Prop} (h : Stuck P) : P := h
abbrev tupE (its : Array Value) (e : Nat) : Obj := { cls := .type "tuple", data := .seq its e }
/-- a value that is a made pair whose first part is these bytes -/
def PairAt (news : List (Addr × Obj)) (v : Value) (c : Array UInt8) : Prop := ∃ a t tv e, v = .ref a ∧ (a, tupE #[.bytes c t, tv] e) ∈ news
theorem PairAt.mono {news news' : List (Addr × Obj)} {v : Value} {c : Array UInt8} (h : PairAt news v c) (hs : ∀ p ∈ news, p ∈ news') : PairAt news' v c := by
  obtain ⟨a, t, tv, e, h1, h2⟩ := h
  exact ⟨a, t, tv, e, h1, hs _ h2⟩
/-- a value that is a made pair of these bytes -/
def PairAt2 (news : List (Addr × Obj)) (v : Value) (c b : Array UInt8) : Prop := ∃ a e t u, v = .ref a ∧ (a, tupE #[.bytes c t, .bytes b u] e) ∈ news
theorem PairAt2.mono {news news' : List (Addr × Obj)} {v : Value} {c b : Array UInt8} (h : PairAt2 news v c b) (hs : ∀ p ∈ news, p ∈ news') : PairAt2 news' v c b := by
  obtain ⟨a, t, tv, e, h1, h2⟩ := h
  exact ⟨a, t, tv, e, h1, hs _ h2⟩
theorem PairAt2.one {news : List (Addr × Obj)} {v : Value} {c b : Array UInt8} (h : PairAt2 news v c b) : PairAt news v c := by
  obtain ⟨a, e, t, u, h1, h2⟩ := h
  exact ⟨a, t, _, e, h1, h2⟩
/-- what on_new makes of the known, the told, those to be told, and the bound -/
inductive OnNew (k pr rp : Int) (K R T : List Int) : List Int → List Int → List Int → Int → Prop
  | againIn {ns : List Int} : k ∈ T → (∃ q ∈ K, max rp pr ≤ q) → ns.Perm K → OnNew k pr rp K R T (K.filter fun q => decide (max rp pr ≤ q)) (R ++ ns.filter fun q => decide (q < max rp pr)) T (max rp pr)
  | againOut : k ∈ T → (∀ q ∈ K, ¬ max rp pr ≤ q) → OnNew k pr rp K R T K R T (max rp pr)
  | late : k ∉ T → k < rp → OnNew k pr rp K R T K (R ++ [k]) (T ++ [k]) rp
  | new {ns : List Int} : k ∉ T → rp ≤ k → ns.Perm (K ++ [k]) → OnNew k pr rp K R T ((K ++ [k]).filter fun q => decide (max rp pr ≤ q)) (R ++ ns.filter fun q => decide (q < max rp pr)) (T ++ [k]) (max rp pr)
/-- the bytes of an id -/
def cidA (k : Int) : Array UInt8 := if k = 0 then #[102, 105, 114, 115, 116] else ([k, 7].map fun n => n.toNat.toUInt8).toArray
/-- the bytes of a reset token -/
def tokA (k : Int) : Array UInt8 := ((List.replicate (16 : Int).toNat [k]).flatten.map fun n => n.toNat.toUInt8).toArray
theorem cidA_pos {k : Int} (h : 1 ≤ k) : cidA k = ([k, 7].map fun n => n.toNat.toUInt8).toArray := by unfold cidA; rw [if_neg (by omega)]
theorem cidA_inj {a b : Int} (ha : 0 ≤ a) (hb : 0 ≤ b) (ha' : a < 256) (hb' : b < 256) (h : (cidA a).toList = (cidA b).toList) : a = b := by
  unfold cidA at h
  split at h <;> split at h
  · omega
  · simp at h
  · simp at h
  · simp only [List.map_cons, List.map_nil, List.cons.injEq, and_true] at h
    have e := congrArg UInt8.toNat h
    simp only [UInt8.toNat_ofNat', Nat.toUInt8_eq] at e
    omega
/-- the net's dict -/
abbrev netL (fo ba he tl dn as : Addr) (lim : Int) (t : Tok) : List (Str × Value) := [("limit", .int lim t), ("forth", .ref fo), ("back", .ref ba), ("heard", .ref he), ("told", .ref tl), ("done", .ref dn), ("asked", .ref as)]
/-- values that stand for data, one by one -/
inductive ValsAre {α : Type} (P : Value → α → Prop) : List Value → List α → Prop
  | nil : ValsAre P [] []
  | cons {v : Value} {x : α} {vs : List Value} {xs : List α} : P v x → ValsAre P vs xs → ValsAre P (v :: vs) (x :: xs)
theorem ValsAre.mono {α : Type} {P P' : Value → α → Prop} {vs : List Value} {xs : List α} (h : ValsAre P vs xs) (hp : ∀ v x, P v x → P' v x) : ValsAre P' vs xs := by
  induction h with
  | nil => exact .nil
  | cons a _ ih => exact .cons (hp _ _ a) ih
theorem ValsAre.length {α : Type} {P : Value → α → Prop} {vs : List Value} {xs : List α} (h : ValsAre P vs xs) : vs.length = xs.length := by
  induction h with
  | nil => rfl
  | cons _ _ ih => simp [ih]
theorem ValsAre.append {α : Type} {P : Value → α → Prop} {vs ws : List Value} {xs ys : List α} (h : ValsAre P vs xs) (g : ValsAre P ws ys) : ValsAre P (vs ++ ws) (xs ++ ys) := by
  induction h with
  | nil => exact g
  | cons a _ ih => exact .cons a ih
theorem ValsAre.cut {α : Type} {P : Value → α → Prop} {y : Value} {q : List Value} : ∀ {p : List Value} {xs : List α}, ValsAre P (p ++ y :: q) xs → ∃ a x b, xs = a ++ x :: b ∧ ValsAre P p a ∧ P y x ∧ ValsAre P q b := by
  intro p
  induction p with
  | nil =>
    intro xs h
    cases h with
    | cons hv ht => exact ⟨[], _, _, rfl, .nil, hv, ht⟩
  | cons v p ih =>
    intro xs h
    cases h with
    | cons hv ht =>
      obtain ⟨a, x, b, rfl, h1, h2, h3⟩ := ih ht
      exact ⟨_ :: a, x, b, rfl, .cons hv h1, h2, h3⟩
/-- a frame on its way forth: number and prior -/
def FrameAt (news : List (Addr × Obj)) (v : Value) (f : Int × Int) : Prop := ∃ a e s t1 t2 t3 t4 t5, v = .ref a ∧ (a, tupE #[.str s t1, .int f.1 t2, .int f.2 t3, .bytes (cidA f.1) t4, .bytes (tokA f.1) t5] e) ∈ news
/-- a word on its way back: number, and the number of the id that was used -/
def BackAt (news : List (Addr × Obj)) (v : Value) (b : Int × Int) : Prop := ∃ a e t1 t2, v = .ref a ∧ (a, tupE #[.int b.1 t1, .bytes (cidA b.2) t2] e) ∈ news
theorem FrameAt.mono {news news' : List (Addr × Obj)} {v : Value} {f : Int × Int} (h : FrameAt news v f) (hs : ∀ p ∈ news, p ∈ news') : FrameAt news' v f := by
  obtain ⟨a, e, s, t1, t2, t3, t4, t5, h1, h2⟩ := h
  exact ⟨a, e, s, t1, t2, t3, t4, t5, h1, hs _ h2⟩
theorem BackAt.mono {news news' : List (Addr × Obj)} {v : Value} {f : Int × Int} (h : BackAt news v f) (hs : ∀ p ∈ news, p ∈ news') : BackAt news' v f := by
  obtain ⟨a, e, t1, t2, h1, h2⟩ := h
  exact ⟨a, e, t1, t2, h1, hs _ h2⟩
end
section
open PySem.Spec PySem.Calls PyProof.Rows.LCt PyProof.Rows.LCg PySem.SeqAt
section
variable {prog : Program} {w : World} {A : Around} {E : Value → Shared → Prop} {s : Shared} {h₀ : Heap} {L d : Addr} {m : Str → Option Value} {env : Env} {news : List (Addr × Obj)} {o : Obj} {kvs : List (Int × Value)} {k : Int} {tk : Tok}
theorem eqAt_bytes (a : Array UInt8) (t : Tok) (b : Array UInt8) (u : Tok) : EqAt A s (.bytes a t) (.bytes b u) (a.toList == b.toList) := fun prog w E Q h => by
  unfold eqBool
  refine wpAny_holding ?_
  refine wpAny_ite_split (fun hab => ?_) (fun _ => ?_)
  · have e := eq_of_beq hab
    injection e with e1 e2
    subst e1
    rw [beq_self_eq_true] at h
    exact wpAny_bind (wpAny_rule (wpAny_pure h))
  · exact wpAny_bind (PySem.W.eq_bytes (wpAny_truthy_bool h))
/-- bytes that no item of a made list is -/
theorem in_bytes_fresh {ev : Addr} {its : Array Value} {n : Nat} {b : Array UInt8} {t : Tok} {Q : Value → Shared → Prop} (N : News h₀ L s.heap news) (hm : (ev, W.listOf its n) ∈ news)
    (hne : ∀ y ∈ its, ∃ c u, y = .bytes c u ∧ c.toList ≠ b.toList) (h : Q (.bool false) s) : wpAny (model prog w) A (compareOp .In (.bytes b t) (.ref ev)) Q E s := by
  refine in_listAt (fun _ => false) (News.isList N hm) (fun y hy => ?_) ?_
  · obtain ⟨c, u, rfl, hc⟩ := hne y hy
    have := eqAt_bytes (A := A.in1) (s := s) c u b t
    rwa [show (c.toList == b.toList) = false from by simpa using hc] at this
  · rw [show (its.any fun _ => false) = false from by simp]
    exact h
theorem ne_pair_same {a b : Addr} {c : Array UInt8} {t u : Tok} {v v' : Value} {na nb : Nat} {Q : Value → Shared → Prop} (N : News h₀ L s.heap news)
    (ha : (a, ({ cls := .type "tuple", data := .seq #[.bytes c t, v] na } : Obj)) ∈ news) (hb : (b, ({ cls := .type "tuple", data := .seq #[.bytes c u, v'] nb } : Obj)) ∈ news)
    (hv : ∃ e t' u', v = .bytes e t' ∧ v' = .bytes e u') (hu : A.units < cLine) (h : Q (.bool false) s) : wpAny (model prog w) A (compareOp .NotEq (.ref a) (.ref b)) Q E s := by
  obtain ⟨e, t', u', rfl, rfl⟩ := hv
  refine RcNeAt.tuples (e := fun _ => true) (News.isTup N ha) (News.isTup N hb) hu (fun j h1 h2 => ?_) prog w E Q ?_
  · match j, h1 with
    | 0, _ => have := eqAt_bytes (A := A.in1) (s := s) c t c u; rwa [beq_self_eq_true] at this
    | 1, _ => have := eqAt_bytes (A := A.in1) (s := s) e t' e u'; rwa [beq_self_eq_true] at this
  · exact h
/-! dicts of ints -/
theorem valueAt_some {k : Int} : ∀ {kvs : List (Int × Value)}, (valueAt kvs k).isSome = decide (k ∈ kvs.map (·.1)) := by
  intro kvs
  induction kvs with
  | nil => rfl
  | cons p r ih =>
    unfold valueAt at ih ⊢
    rw [List.find?_cons]
    by_cases hp : p.1 = k
    · simp [hp]
    · simp only [decide_eq_false hp, List.map_cons, List.mem_cons]
      rw [ih]
      simp [Ne.symm hp, eq_comm]
theorem valueAt_mem {k : Int} {v : Value} {kvs : List (Int × Value)} (h : valueAt kvs k = some v) : (k, v) ∈ kvs := by
  unfold valueAt at h
  obtain ⟨p, hp, rfl⟩ := Option.map_eq_some_iff.mp h
  have := List.find?_some hp
  have e : p.1 = k := by simpa using this
  rw [← e]
  exact List.mem_of_find?_eq_some hp
theorem valueAt_get {k : Int} {kvs : List (Int × Value)} (h : k ∈ kvs.map (·.1)) : ∃ v, valueAt kvs k = some v ∧ (k, v) ∈ kvs := by
  have : (valueAt kvs k).isSome = true := by rw [valueAt_some]; simpa using h
  obtain ⟨v, hv⟩ := Option.isSome_iff_exists.mp this
  exact ⟨v, hv, valueAt_mem hv⟩
theorem valueAt_none {k : Int} {kvs : List (Int × Value)} (h : k ∉ kvs.map (·.1)) : valueAt kvs k = none := by
  have : (valueAt kvs k).isSome = false := by rw [valueAt_some]; simpa using h
  simpa using this
theorem stored_new {k : Int} {v : Value} {kvs : List (Int × Value)} (h : k ∉ kvs.map (·.1)) : stored kvs k v = kvs ++ [(k, v)] := by
  unfold stored
  rw [if_neg]
  simp only [List.any_eq_true, decide_eq_true_eq, not_exists, not_and]
  intro p hp e
  exact h (List.mem_map.mpr ⟨p, hp, e⟩)
theorem dict_in {Q : Value → Shared → Prop} (N : News h₀ L s.heap news) (hp : (d, o) ∈ news) (hd : o.IsDictOf (PySem.intKind prog w) kvs) (lo : (d == sysModules) = false)
    (h : Q (.bool (decide (k ∈ kvs.map (·.1)))) { s with toks := s.toks + 1 }) : wpAny (model prog w) A (compareOp .In (.int k tk) (.ref d)) Q E s :=
  kda_in N hp hd lo (intKind_is prog w k tk) _ valueAt_some h
theorem dict_item {value slice : PySem.Expr} {Q : Value → Shared → Prop} (N : News h₀ L s.heap news) (hp : (d, o) ∈ news) (hd : o.IsDictOf (PySem.intKind prog w) kvs) (hk : k ∈ kvs.map (·.1))
    (h : ∀ v, (k, v) ∈ kvs → Q v { s with toks := s.toks + 1 })
    (hs : subscripted slice false (.ref d) (.int k tk) = operate [.ref d, .int k tk] (getItem (.ref d) (.int k tk)) := by with_unfolding_all rfl) (hg : ∀ r, letTemporaryGo value (.ref d) r = pure () := by intro _; with_unfolding_all rfl) :
    wpAny (model prog w) A (subscriptTail value slice (.ref d) (.int k tk)) Q E s := by
  obtain ⟨v, hv, hm⟩ := valueAt_get hk
  exact kda_item N hp hd (intKind_is prog w k tk) hv (h v hm) hs hg
theorem dict_set {v : Value} {g : Obj → List (Addr × Obj)} {Q : Unit → Shared → Prop} (F : Fr h₀ L s.heap m) (N : News h₀ L s.heap news) (U : UpdF d o news g) (hd : o.IsDictOf (PySem.intKind prog w) kvs) (hn : k ∉ kvs.map (·.1)) (hsz : kvs.length ≤ 1000)
    (h : ∀ h' o', Fr h₀ L h' m → News h₀ L h' (g o') → o'.IsDictOf (PySem.intKind prog w) (kvs ++ [(k, v)]) → Q () { s with heap := h', toks := s.toks + 1 }) : wpAny (model prog w) A (setItem (.ref d) (.int k tk) v) Q E s :=
  kda_set F N U hd (intKind_is prog w k tk) (Nat.le_trans hsz (by rw [sizeLine_eq]; decide)) fun h' o' F' N' hd' => h h' o' F' N' (stored_new hn ▸ hd')
theorem without_eq (kvs : List (Int × Value)) (k : Int) : without kvs k = kvs.filter fun p => !decide (p.1 = k) := by
  unfold without; simp
theorem dict_pop1 {g : Obj → List (Addr × Obj)} {Q : Value → Shared → Prop} (F : Fr h₀ L s.heap m) (N : News h₀ L s.heap news) (U : UpdF d o news g) (hd : o.IsDictOf (PySem.intKind prog w) kvs) (hk : k ∈ kvs.map (·.1)) (hsz : kvs.length ≤ 1000)
    (h : ∀ h' o' v, (k, v) ∈ kvs → Fr h₀ L h' m → News h₀ L h' (g o') → o'.IsDictOf (PySem.intKind prog w) (kvs.filter fun p => !decide (p.1 = k)) → Q v { s with heap := h', toks := s.toks + 1 }) :
    wpAny (model prog w) A (call (.builtin "dict.pop") [.ref d, .int k tk]) Q E s := by
  obtain ⟨v, hv, hm⟩ := valueAt_get hk
  exact kob_pop F N U hd (intKind_is prog w k tk) (.inl rfl) rfl (PySem.F.args_dict_pop_2 _ _) hv (Nat.le_trans hsz (by rw [sizeLine_eq]; decide)) fun h' o' F' N' hd' => h h' o' v hm F' N' (without_eq kvs k ▸ hd')
theorem dict_pop2 {g : Obj → List (Addr × Obj)} {dflt : Value} {Q : Value → Shared → Prop} (F : Fr h₀ L s.heap m) (N : News h₀ L s.heap news) (U : UpdF d o news g) (hd : o.IsDictOf (PySem.intKind prog w) kvs) (lo : (d == sysModules) = false) (hsz : kvs.length ≤ 1000)
    (h : ∀ h' o' v, Fr h₀ L h' m → News h₀ L h' (g o') → o'.IsDictOf (PySem.intKind prog w) (kvs.filter fun p => !decide (p.1 = k)) → Q v { s with heap := h', toks := s.toks + 1 }) :
    wpAny (model prog w) A (call (.builtin "dict.pop") [.ref d, .int k tk, dflt]) Q E s := by
  by_cases hk : k ∈ kvs.map (·.1)
  · obtain ⟨v, hv, hm⟩ := valueAt_get hk
    exact kob_pop F N U hd (intKind_is prog w k tk) (.inr ⟨_, rfl⟩) rfl (PySem.F.args_dict_pop_3 _ _ _) hv (Nat.le_trans hsz (by rw [sizeLine_eq]; decide)) fun h' o' F' N' hd' => h h' o' v F' N' (without_eq kvs k ▸ hd')
  · obtain ⟨pre, post, rfl, hg, a, b⟩ := U.split
    have hm := N (d, o) (List.mem_append_right _ (.head _))
    have hD : s.heap.DictOf (PySem.intKind prog w) d kvs := Heap.dictOf_iff.mpr ⟨o, hm.1, hd⟩
    refine call_meetsIn PySem.F.slot_dict_pop hD.typeIs PySem.F.entry_dict_pop (PySem.F.args_dict_pop_3 _ _ _) (meets_dict_pop_default (PySem.intKind prog w) d (intKind_is prog w k tk) lo rfl dflt) ⟨kvs, hD, valueAt_none hk, ?_⟩
    have e : (kvs.filter fun p => !decide (p.1 = k)) = kvs := by
      rw [List.filter_eq_self]
      intro p hp
      simp only [Bool.not_eq_true', decide_eq_false_iff_not]
      intro e
      exact hk (List.mem_map.mpr ⟨p, hp, e⟩)
    exact h s.heap o dflt F (hg o ▸ N) (by rw [e]; exact hd)
end
section
variable {prog : Program} {w : World} {A : Around} {E : Value → Shared → Prop} {s : Shared} {h₀ : Heap} {L d : Addr} {news : List (Addr × Obj)} {o : Obj} {kvs : List (Int × Value)} {k : Int} {tk : Tok}
theorem dict_getItem {Q : Value → Shared → Prop} (N : News h₀ L s.heap news) (hp : (d, o) ∈ news) (hd : o.IsDictOf (PySem.intKind prog w) kvs) (hk : k ∈ kvs.map (·.1))
    (h : ∀ v, (k, v) ∈ kvs → Q v { s with toks := s.toks + 1 }) : wpAny (model prog w) A (getItem (.ref d) (.int k tk)) Q E s := by
  obtain ⟨v, hv, hm⟩ := valueAt_get hk
  exact kdt_getItem N hp hd (intKind_is prog w k tk) hv (h v hm)
end
section
variable {prog : Program} {w : World} {A : Around} {E : Value → Shared → Prop} {s : Shared} {h₀ : Heap} {L l : Addr} {news : List (Addr × Obj)} {vs : List Value} {ns : List Int} {k : Int} {tk : Tok} {n : Nat}
theorem any_mem (ns : List Int) (k : Int) : (ns.any (· == k)) = decide (k ∈ ns) := by
  rw [Bool.eq_iff_iff]; simp
theorem in_lst {Q : Value → Shared → Prop} (N : News h₀ L s.heap news) (hm : (l, W.listOf vs.toArray n) ∈ news) (hi : IntsAre vs ns)
    (h : Q (.bool (decide (k ∈ ns))) s) : wpAny (model prog w) A (compareOp .In (.int k tk) (.ref l)) Q E s := in_list_ints (News.isList N hm) hi (by rw [any_mem]; exact h)
theorem notin_lst {Q : Value → Shared → Prop} (N : News h₀ L s.heap news) (hm : (l, W.listOf vs.toArray n) ∈ news) (hi : IntsAre vs ns)
    (h : Q (.bool (!decide (k ∈ ns))) s) : wpAny (model prog w) A (compareOp .NotIn (.int k tk) (.ref l)) Q E s := notin_list_ints (News.isList N hm) hi (by rw [any_mem]; exact h)
end
section
variable {prog : Program} {w : World} {A : Around} {E : Value → Shared → Prop} {s : Shared} {h₀ : Heap} {L d : Addr} {news : List (Addr × Obj)} {o : Obj} {kvs : List (Int × Value)}
theorem len_dict {Q : Value → Shared → Prop} (N : News h₀ L s.heap news) (hp : (d, o) ∈ news) (hd : o.IsDictOf (PySem.intKind prog w) kvs) (lo : (d == sysModules) = false) (hfit : (kvs.map (·.1)).length ≤ 1000)
    (h : Q (.int ((kvs.map (·.1)).length : Nat) (s.toks + 1)) { s with toks := s.toks + 1 + 1 }) : wpAny (model prog w) A (call (.builtin "len") [.ref d]) Q E s := by
  rw [List.length_map] at hfit h
  exact kda_len N hp hd lo (by omega) h
end
end
section
open PySem.Spec PySem.Calls PyProof.Rows.LCt PyProof.Rows.LCg PySem.SeqAt
section
variable {prog : Program} {w : World} {A : Around} {E : Value → Shared → Prop} {s : Shared} {h₀ : Heap} {L d : Addr} {m : Str → Option Value} {env : Env} {news : List (Addr × Obj)} {o : Obj} {kvs : List (Int × Value)} {k : Int} {tk : Tok}
theorem keys_ints : ∀ {kvs : List (Int × Value)} {vs : List Value}, vs.length = kvs.length → (∀ (j : Nat) (v : Value), vs[j]? = some v → ∃ k x, kvs[j]? = some (k, x) ∧ (PySem.intKind prog w).is k v = true) → IntsAre vs (kvs.map (·.1)) := by
  intro kvs vs hl h
  refine kdy_ints (by simpa using hl) fun j v hv => ?_
  obtain ⟨n, t, e1, e2⟩ := intKeys_get (h j v hv)
  exact ⟨n, e1, t, e2⟩
theorem sortedHeap_old {h : Heap} {a : Addr} {vs : List Value} {out : Array Value} {b : Addr} {x : Obj} (hb : b ≠ a) (e : h.get? b = some x) : (sortedHeap h a vs out).get? b = some x := by
  unfold sortedHeap
  rw [Heap.get?_update_ne _ _ _ _ hb]
  refine Heap.get?_push_of_some _ (Heap.get?_push_of_some _ ?_)
  rw [Heap.get?_update_ne _ _ _ _ hb]
  exact e
theorem sortedHeap_at {h : Heap} {a : Addr} {vs : List Value} {out xs : Array Value} {n : Nat} (e : h.get? a = some (seqObj "list" xs n)) : ∃ e', (sortedHeap h a vs out).get? a = some (W.listOf out e') := by
  unfold sortedHeap
  exact ⟨_, get?_update_seq (c := "list") (Heap.get?_push_of_some _ (Heap.get?_push_of_some _ (get?_update_seq e _))) _⟩
theorem sort_ints_N {B : Addr} {vs : List Value} {ns : List Int} {n : Nat} {Q : Value → Shared → Prop} (F : Fr h₀ L s.heap m) (N : News h₀ L s.heap ((B, W.listOf vs.toArray n) :: news)) (hlt : ∀ q ∈ news, q.1 < B) (hI : IntsAre vs ns) (h64 : vs.length < 64)
    (h : ∀ h' vs' ns' e, Fr h₀ L h' m → News h₀ L h' ((B, W.listOf vs'.toArray e) :: news) → IntsAre vs' ns' → ns'.Perm ns → ns'.Pairwise (· ≤ ·) → Q .none { s with heap := h' }) :
    wpAny (model prog w) A (call (.builtin "list.sort") [.ref B]) Q E s := by
  have hB := N (B, W.listOf vs.toArray n) List.mem_cons_self
  refine wpAny_call_entry slot_list_sort ⟨_, hB.1, rfl⟩ entry_list_sort (list_sort_tree hB.1 hI h64 fun out ns' a1 a2 a3 => ⟨_, rfl, ?_⟩) (args_list_sort _)
  obtain ⟨e, he⟩ := sortedHeap_at (vs := vs) (out := out) hB.1
  refine h _ out.toList ns' e ?_ ?_ a1 a2 a3
  · obtain ⟨oL, es, ep, hL, r⟩ := F.ns
    refine ⟨⟨oL, es, ep, sortedHeap_old (Ne.symm hB.2.1) hL, r⟩, fun b x q => sortedHeap_old (fun z => ?_) (F.keep b x q), F.above⟩
    rw [z, hB.2.2] at q; cases q
  · intro p hp
    rcases List.mem_cons.mp hp with rfl | hp
    · exact ⟨by simpa using he, hB.2⟩
    · have hp' := N p (List.mem_cons_of_mem _ hp)
      exact ⟨sortedHeap_old (Nat.ne_of_lt (hlt p hp)) hp'.1, hp'.2⟩
/-- sorted(d) of an int-keyed dict -/
theorem sorted_dict {Q : Value → Shared → Prop} (hh : A.handled = none) (F : Fr h₀ L s.heap m) (N : News h₀ L s.heap news) (hm : (d, o) ∈ news) (hd : o.IsDictOf (PySem.intKind prog w) kvs) (lo : (d == sysModules) = false) (h64 : kvs.length < 64)
    (h : ∀ B h' tk vs' ns' e, Fr h₀ L h' m → News h₀ L h' ((B, W.listOf vs'.toArray e) :: news) → (∀ q ∈ news, q.1 < B) → IntsAre vs' ns' → ns'.Perm (kvs.map (·.1)) → ns'.Pairwise (· ≤ ·) → Q (.ref B) { s with heap := h', toks := tk }) :
    wpAny (model prog w) A (call (.builtin "sorted") [.ref d]) Q E s := by
  obtain ⟨ep, hat⟩ := KdkAt.of hd
  refine kdu_sorted (kdl_dict (knd := PySem.intKind prog w) (kvs := kvs) (ep := ep) lo) hh F N (hat.dictAt (N _ hm).1) (by rw [sizeLine_eq]; omega) fun B h' tk vs F' N' l1 hl hv => ?_
  exact sort_ints_N (s := { s with heap := h', toks := tk }) F' N' l1 (keys_ints hl hv) (by omega) fun h'' vs' ns' e F'' N'' a1 a2 a3 => h B h'' tk vs' ns' e F'' N'' l1 a1 a2 a3
/-- list(d) of an int-keyed dict -/
theorem list_dict {Q : Value → Shared → Prop} (hh : A.handled = none) (F : Fr h₀ L s.heap m) (N : News h₀ L s.heap news) (hm : (d, o) ∈ news) (hd : o.IsDictOf (PySem.intKind prog w) kvs) (lo : (d == sysModules) = false) (hn : kvs.length ≤ 1000)
    (h : ∀ B c h' tk vs, Fr h₀ L h' m → News h₀ L h' ((B, W.listOf vs.toArray c) :: news) → (∀ q ∈ news, q.1 < B) → IntsAre vs (kvs.map (·.1)) → Q (.ref B) { s with heap := h', toks := tk }) :
    wpAny (model prog w) A (call (.type "list") [.ref d]) Q E s := by
  obtain ⟨ep, hat⟩ := KdkAt.of hd
  exact kdl_N (kdl_dict (knd := PySem.intKind prog w) (kvs := kvs) (ep := ep) lo) hh F N (hat.dictAt (N _ hm).1) (Nat.le_trans hn (by rw [sizeLine_eq]; decide)) fun B c h' tk vs F' N' l1 hl hv => h B c h' tk vs F' N' l1 (keys_ints hl hv)
/-- min(d) of an int-keyed dict that is not empty -/
theorem min_dict {Q : Value → Shared → Prop} (hh : A.handled = none) (F : Fr h₀ L s.heap m) (N : News h₀ L s.heap news) (hm : (d, o) ∈ news) (hd : o.IsDictOf (PySem.intKind prog w) kvs) (lo : (d == sysModules) = false) (hne : 0 < kvs.length)
    (h : ∀ h' tk n t, Fr h₀ L h' m → News h₀ L h' news → n ∈ kvs.map (·.1) → (∀ q ∈ kvs.map (·.1), n ≤ q) → Q (.int n t) { s with heap := h', toks := tk }) :
    wpAny (model prog w) A (call (.builtin "min") [.ref d]) Q E s := by
  obtain ⟨ep, hat⟩ := KdkAt.of hd
  have hD := hat.dictAt (N _ hm).1
  refine call_min_walk (wpAny_pyIter_dict lo hD ?_)
  have up : ∀ b x, s.heap.get? b = some x → (s.heap.push { cls := .type "dict_keyiterator", data := .fields #[.ref d, .int 0 0, .int kvs.length 0, .int ep 0] }).get? b = some x := fun b o e => Heap.get?_push_of_some _ e
  have hlt : d < s.heap.objs.size := Heap.lt_size (N _ hm).1
  let val : Nat → Int := fun i => (kvs.map (·.1)).getD i 0
  have hval : ∀ (i : Nat) (v : Value), (∃ k x, kvs[i]? = some (k, x) ∧ (PySem.intKind prog w).is k v = true) → ∃ t, v = .int (val i) t := fun i v hv => by
    obtain ⟨n, t, e1, e2⟩ := intKeys_get hv
    exact ⟨t, by rw [e2]; simp only [val, List.getD_eq_getElem?_getD, e1, Option.getD_some]⟩
  refine ⟨_, _, _, kvs.length, _, _, fun i j => decide (val i < val j), rfl, Walks.dictKeys (knd := PySem.intKind prog w) (A := A.in1) hh s.heap.objs.size d (Nat.ne_of_lt hlt) kvs ep, ⟨⟨_, Heap.get?_push_size _ rfl, rfl, rfl⟩, hat.dictAt (up _ _ (N _ hm).1)⟩, ?_, hne, CmpOf.ints_lt val hval, ?_⟩
  · intro b hb
    show b < (s.heap.push _).objs.size
    rw [Heap.size_push]
    rcases List.mem_cons.mp hb with rfl | hb
    · exact Nat.lt_succ_self _
    · rw [List.mem_singleton.mp hb]; exact Nat.lt_succ_of_lt hlt
  · intro v h' tk hv hk
    obtain ⟨t, rfl⟩ := hval _ _ hv
    have hb := argBest_lt val (kvs.length - 1)
    have old : ∀ b x, s.heap.get? b = some x → h'.get? b = some x := fun b x e => hk b x (fun q => by
      have := Heap.lt_size e
      rw [List.mem_singleton.mp q] at this
      exact Nat.lt_irrefl _ this) (up b x e)
    refine h h' tk _ t (F.keeps old) (N.grown old) ?_ ?_
    · have hlt : argBest (fun i j => decide (val i < val j)) (kvs.length - 1) < (kvs.map (·.1)).length := by
        rw [List.length_map]; have := hb.1; omega
      show (kvs.map (·.1)).getD _ 0 ∈ _
      rw [List.getD_eq_getElem?_getD, List.getElem?_eq_getElem hlt, Option.getD_some]
      exact List.getElem_mem hlt
    · intro q hq
      obtain ⟨j, hj, rfl⟩ := List.getElem_of_mem hq
      have := hb.2 j (by rw [List.length_map] at hj; omega)
      have e : val j = (kvs.map (·.1))[j] := by show (kvs.map (·.1)).getD j 0 = _; rw [List.getD_eq_getElem?_getD, List.getElem?_eq_getElem hj, Option.getD_some]
      rw [← e]; exact this
/-- sorted(l) of a made list of ints -/
theorem sorted_lst {l : Addr} {vs : List Value} {ns : List Int} {c : Nat} {Q : Value → Shared → Prop} (F : Fr h₀ L s.heap m) (N : News h₀ L s.heap news) (hm : (l, W.listOf vs.toArray c) ∈ news) (hI : IntsAre vs ns) (h64 : vs.length < 64)
    (h : ∀ B h' vs' ns' e, Fr h₀ L h' m → News h₀ L h' ((B, W.listOf vs'.toArray e) :: news) → (∀ q ∈ news, q.1 < B) → IntsAre vs' ns' → ns'.Perm ns → ns'.Pairwise (· ≤ ·) → Q (.ref B) { s with heap := h' }) :
    wpAny (model prog w) A (call (.builtin "sorted") [.ref l]) Q E s :=
  sorted_N F N (News.isList N hm) hI h64 fun h' vs' ns' e F' N' a1 a2 a3 => h _ h' vs' ns' e F' N' (fun q hq => Nat.lt_succ_of_lt (Heap.lt_size (N q hq).1)) a1 a2 a3
end
section
variable {prog : Program} {w : World} {A : Around} {E : Value → Shared → Prop} {s : Shared} {h₀ : Heap} {L : Addr} {m : Str → Option Value} {news : List (Addr × Obj)}
theorem mk_tuple {vs : List Value} {Q : Value → Shared → Prop} (F : Fr h₀ L s.heap m) (N : News h₀ L s.heap news) (hsz : vs.length ≤ 1000)
    (h : ∀ t h', Fr h₀ L h' m → News h₀ L h' ((t, ({ cls := .type "tuple", data := .seq vs.toArray } : Obj)) :: news) → (∀ p ∈ news, p.1 < t) → Q (.ref t) { s with heap := h' }) : wpAny (model prog w) A (newTuple vs) Q E s :=
  newTuple_N F N (fun h' F' N' => h _ h' F' N' fun p hp => Heap.lt_size (N p hp).1) (Nat.le_trans hsz (by rw [sizeLine_eq]; decide))
end
section
variable {prog : Program} {w : World} {A : Around} {E : Value → Shared → Prop} {s : Shared} {h₀ : Heap} {L D : Addr} {m : Str → Option Value} {news : List (Addr × Obj)} {vs : List Value} {n : Nat} {i : Int} {u : Tok}
theorem cut_at {i : Int} (h0 : 0 ≤ i) (h1 : i < vs.length) : ∃ p y q, vs = p ++ y :: q ∧ p.length = i.toNat ∧ vs[i.toNat]? = some y := by
  have hl : i.toNat < vs.length := by omega
  refine ⟨vs.take i.toNat, vs[i.toNat], vs.drop (i.toNat + 1), ?_, ?_, List.getElem?_eq_getElem hl⟩
  · rw [← List.drop_eq_getElem_cons hl, List.take_append_drop]
  · rw [List.length_take]; omega
theorem item_at {value slice : PySem.Expr} {Q : Value → Shared → Prop} (N : News h₀ L s.heap news) (hm : (D, W.listOf vs.toArray n) ∈ news) (h0 : 0 ≤ i) (h1 : i < vs.length) (hz : vs.length ≤ 1000)
    (h : ∀ p y q, vs = p ++ y :: q → p.length = i.toNat → Q y s)
    (hs : subscripted slice false (.ref D) (.int i u) = operate [.ref D, .int i u] (getItem (.ref D) (.int i u)) := by with_unfolding_all rfl) (hg : ∀ r, letTemporaryGo value (.ref D) r = pure () := by intro _; with_unfolding_all rfl) :
    wpAny (model prog w) A (subscriptTail value slice (.ref D) (.int i u)) Q E s := by
  obtain ⟨p, y, q, e1, e2, e3⟩ := cut_at h0 h1
  exact item_list (News.isList N hm) h0 (by omega) (by simpa using e3) (h p y q e1 e2) hs hg
theorem pop_at {g : Obj → List (Addr × Obj)} {Q : Value → Shared → Prop} (F : Fr h₀ L s.heap m) (N : News h₀ L s.heap news) (U : UpdF D (W.listOf vs.toArray n) news g) (h0 : 0 ≤ i) (h1 : i < vs.length) (hz : vs.length ≤ 1000)
    (h : ∀ h' p y q, vs = p ++ y :: q → p.length = i.toNat → Fr h₀ L h' m → News h₀ L h' (g (W.listOf (p ++ q).toArray (n + 1))) → Q y { s with heap := h' }) :
    wpAny (model prog w) A (call (.builtin "list.pop") [.ref D, .int i u]) Q E s := by
  obtain ⟨p, y, q, e1, e2, e3⟩ := cut_at h0 h1
  obtain ⟨pre, post, rfl, hg, a, b⟩ := U.split
  have z := N (D, W.listOf vs.toArray n) (List.mem_append.mpr (.inr (.head _)))
  have hsz : vs.toArray.size = vs.length := List.size_toArray
  have hk : seqIndex? i vs.toArray.size = some i.toNat := by
    unfold seqIndex?
    have : ¬ i < 0 := by omega
    simp [this, h0, h1]
  refine call_meets PySem.F.slot_list_pop ⟨_, z.1, rfl⟩ PySem.F.entry_list_pop (PySem.F.args_list_pop_2 _ _) (PySem.MeetsSeq.list_pop_at D _ n i u i.toNat y ?_ hk (by simpa using e3) (by rw [hsz, sizeLine_eq]; omega)) ⟨z.1, h _ p y q e1 e2 (F.change (Heap.SameBut.update ..) z.2.1 z.2.2) ?_⟩
  · unfold Builtin.List.listFitsIndex
    simp
    omega
  · rw [hg]
    refine kl_turn _ N a b ?_ ?_
    · show vs.toArray.eraseIdxIfInBounds i.toNat = (p ++ q).toArray
      rw [← e2]
      subst e1
      exact kl_erase p q y
    · rw [List.size_toArray, List.size_toArray, e1, List.length_append, List.length_append, List.length_cons]
      omega
end
end
section
open PySem.Spec PySem.Calls PyProof.Rows.LCt PyProof.Rows.LCg PySem.SeqAt
section
variable {prog : Program} {w : World} {A : Around} {E : Value → Shared → Prop} {h₀ : Heap} {m : Str → Option Value} {env : Env} {news : List (Addr × Obj)}
/-- how a quiet turn ends -/
def TurnEnd (h₀ : Heap) (L : Addr) (m : Str → Option Value) (x : Str) (gn : Array GenState) (dr : Drawn) (os : OsState) (news : List (Addr × Obj)) (R : Prop) (Qr : Value → Shared → Prop) (f : Flow) (s' : Shared) : Prop :=
  match f with
  | .ret v => Qr v s'
  | .brk => False
  | _ => ∃ h' tk' m₂, s' = ⟨h', gn, dr, tk', os⟩ ∧ Fr h₀ L h' m₂ ∧ (∀ y, y ≠ x → m₂ y = m y) ∧ News h₀ L h' news ∧ R
/-- a for over an int-keyed dict whose body changes nothing that was made -/
def ForD (prog : Program) (w : World) (A : Around) (h₀ : Heap) (m : Str → Option Value) (env : Env) (x : Str) (body : List Stmt) (Q : Flow → Shared → Prop) (E : Value → Shared → Prop) (xv : Value) (s : Shared) : Prop :=
  ∃ (d : Addr) (o : Obj) (kvs : List (Int × Value)) (news : List (Addr × Obj)) (R : Int → Prop), xv = .ref d ∧ A.handled = none ∧ Fr h₀ env.locals s.heap m ∧ News h₀ env.locals s.heap news ∧ (d, o) ∈ news ∧ o.IsDictOf (PySem.intKind prog w) kvs ∧ (d == sysModules) = false ∧
    (∀ k v t h tk own, (k, v) ∈ kvs → Fr h₀ env.locals h (fun y => if y = x then some (.int k t) else m y) → News h₀ env.locals h (own ++ news) →
      wpAny (model prog w) A (execs body env) (TurnEnd h₀ env.locals m x s.gens s.drawn s.os (own ++ news) (R k) fun v s' => Q (.ret v) s') E ⟨h, s.gens, s.drawn, tk, s.os⟩) ∧
    (∀ u h tk, Fr h₀ env.locals h (fun y => if y = x then u else m y) → News h₀ env.locals h news → (∀ k ∈ kvs.map (·.1), R k) → Q .next ⟨h, s.gens, s.drawn, tk, s.os⟩)
theorem For_D {s : Shared} {Q : Flow → Shared → Prop} {x : Str} {px pos : Pos} {iter : Expr} {body : List Stmt} (_F : Fr h₀ env.locals s.heap m) (hx : env.kindOf x = some .local)
    (hp : (env.scope.kind == .class || (env.scope.kind == .module && env.locals != env.globals)) = false)
    (h : wpAny (model prog w) A (eval iter env) (ForD prog w A h₀ m env x body Q E) E s)
    (hs : ∀ x, foldedSetIterable iter env x = pure x := by intro _; rfl)
    (hE : PassesOwn (model prog w) A env E := by passes_own) :
    wpAny (model prog w) A (exec (.For (.Name x px) iter body [] pos) env) Q E s := by
  refine For_invV h₀ hx hp (wpAny_mono h (fun xv s₁ h₁ => ?_) fun _ _ e => e) hs hE
  obtain ⟨d, o, kvs, news, R, rfl, hh, F, N, hm, hd, lo, turn, done⟩ := h₁
  obtain ⟨ep, hat⟩ := KdkAt.of hd
  have hD := hat.dictAt (N _ hm).1
  have hlt : d < s₁.heap.objs.size := Heap.lt_size (N _ hm).1
  refine wpAny_pyIter_dict lo hD ?_
  have up : ∀ b x, s₁.heap.get? b = some x → (s₁.heap.push { cls := .type "dict_keyiterator", data := .fields #[.ref d, .int 0 0, .int kvs.length 0, .int ep 0] }).get? b = some x := fun b o e => Heap.get?_push_of_some _ e
  refine ⟨s₁.heap.objs.size, [s₁.heap.objs.size, d], [s₁.heap.objs.size], kvs.length, _, _, m, news, fun i m₁ news₁ => news₁ = news ∧ (∀ y, y ≠ x → m₁ y = m y) ∧ ∀ k ∈ (kvs.take i).map (·.1), R k, rfl, Walks.dictKeys (knd := PySem.intKind prog w) hh s₁.heap.objs.size d (Nat.ne_of_lt hlt) kvs ep, ?_, ?_, ?_, ⟨⟨_, Heap.get?_push_size _ rfl, rfl, rfl⟩, hat.dictAt (up _ _ (N _ hm).1)⟩, F.keeps up, N.grown up, ⟨rfl, fun _ _ => rfl, by simp⟩, ?_, ?_⟩
  · intro hmem
    rcases List.mem_cons.mp hmem with e | hmem
    · exact Nat.lt_irrefl _ (e ▸ F.ns.lt)
    · exact (N _ hm).2.1 (List.mem_singleton.mp hmem).symm
  · intro b hb
    rw [List.mem_singleton.mp hb]; exact next_is_new F
  · intro p hp' hI
    exact absurd (Heap.lt_size (N p hp').1) ((List.mem_singleton.mp hI) ▸ Nat.lt_irrefl _)
  · rintro i v m₁ news₁ s₂ own ⟨hh', tk', rfl⟩ hin hP ⟨rfl, hm₁, hR⟩ hoff _ _ _ _ F₁ N₁
    obtain ⟨k, x', hx', hk'⟩ := hP
    obtain ⟨t, rfl⟩ := Value.isInt_shape hk'
    have e : (fun y => if y = x then some (Value.int k t) else m₁ y) = fun y => if y = x then some (Value.int k t) else m y := by
      funext y
      by_cases hy : y = x
      · simp [hy]
      · simp only [if_neg hy]; exact hm₁ y hy
    rw [e] at F₁
    have hnext : ∀ r, r ∈ (kvs.take (i + 1)).map (·.1) → r ∈ (kvs.take i).map (·.1) ∨ r = k := by
      intro r hr
      rw [List.take_add_one, hx', List.map_append, List.mem_append] at hr
      exact hr.imp id fun q => by simpa using q
    refine wpAny_mono (turn k x' t hh' tk' own (List.mem_of_getElem? hx') F₁ N₁) (fun f s₃ q => ?_) fun _ _ e => e
    have fin : (∃ h' tk' m₂, s₃ = ⟨h', s₁.gens, s₁.drawn, tk', s₁.os⟩ ∧ Fr h₀ env.locals h' m₂ ∧ (∀ y, y ≠ x → m₂ y = m y) ∧ News h₀ env.locals h' (own ++ news₁) ∧ R k) →
        LoopStepU h₀ env.locals [s₁.heap.objs.size] own (fun m₁ nw => nw = news₁ ∧ (∀ y, y ≠ x → m₁ y = m y) ∧ ∀ k ∈ (kvs.take (i + 1)).map (·.1), R k) { heap := hh', gens := s₁.gens, drawn := s₁.drawn, toks := tk', os := s₁.os } .next s₃ := by
      rintro ⟨h', tk'', m₂, rfl, F₂, hm₂, N₂, hr⟩
      exact ⟨rfl, h', tk'', m₂, news₁, rfl, F₂, N₂, hoff, rfl, hm₂, fun r hr' => (hnext r hr').elim (hR r) fun q => q ▸ hr⟩
    cases f with
    | ret v => exact .ret q
    | brk => exact q.elim
    | next => exact .next (fin q)
    | cont => exact .cont (fin q)
  · rintro h' tk' m' news' F' N' _ ⟨rfl, hm', hR⟩
    rw [List.take_length] at hR
    have e : m' = fun y => if y = x then m' x else m y := by
      funext y
      by_cases hy : y = x
      · simp [hy]
      · simp only [if_neg hy]; exact hm' y hy
    rw [e] at F'
    exact done (m' x) h' tk' F' N' hR
end
end
section
open PySem.Spec PySem.Calls PyProof.Rows.LCt PyProof.Rows.LCg PySem.SeqAt
section
variable {prog : Program} {w : World} {A : Around} {E : Value → Shared → Prop} {h₀ : Heap} {m : Str → Option Value} {env : Env} {news : List (Addr × Obj)}
/-- how a turn ends that changes the ledger -/
def TurnEndL (h₀ : Heap) (L : Addr) (m : Str → Option Value) (x : Str) (gn : Array GenState) (dr : Drawn) (os : OsState) (own : List (Addr × Obj)) (I : Addr) (J : List (Addr × Obj) → Prop) (Qr : Value → Shared → Prop) (f : Flow) (s' : Shared) : Prop :=
  match f with
  | .ret v => Qr v s'
  | .brk => False
  | _ => ∃ h' tk' m₂ news₂, s' = ⟨h', gn, dr, tk', os⟩ ∧ Fr h₀ L h' m₂ ∧ (∀ y, y ≠ x → m₂ y = m y) ∧ News h₀ L h' (news₂ ++ own) ∧ (∀ p ∈ news₂, p.1 ≠ I) ∧ J news₂
/-- a for over a made list, by an invariant over the ledger -/
def ForL (prog : Program) (w : World) (A : Around) (h₀ : Heap) (m : Str → Option Value) (env : Env) (x : Str) (body : List Stmt) (Q : Flow → Shared → Prop) (E : Value → Shared → Prop) (xv : Value) (s : Shared) : Prop :=
  ∃ (ax : Addr) (its : Array Value) (c : Nat) (news : List (Addr × Obj)) (J : Nat → List (Addr × Obj) → Prop), xv = .ref ax ∧ A.handled = none ∧ Fr h₀ env.locals s.heap m ∧ News h₀ env.locals s.heap ((ax, W.listOf its c) :: news) ∧ J 0 news ∧
    (∀ i v I own news₁ h tk, its[i]? = some v → J i news₁ → (∀ p ∈ own, p.1 = I ∨ p.1 = ax) → (∀ p ∈ news₁, p.1 ≠ I) → (∀ p ∈ news, @LT.lt Nat _ p.1 I) → @LT.lt Nat _ ax I → Fr h₀ env.locals h (fun y => if y = x then some v else m y) → News h₀ env.locals h (news₁ ++ own) →
      wpAny (model prog w) A (execs body env) (TurnEndL h₀ env.locals m x s.gens s.drawn s.os own I (J (i + 1)) fun v s' => Q (.ret v) s') E ⟨h, s.gens, s.drawn, tk, s.os⟩) ∧
    (∀ u h tk news', J its.size news' → Fr h₀ env.locals h (fun y => if y = x then u else m y) → News h₀ env.locals h news' → Q .next ⟨h, s.gens, s.drawn, tk, s.os⟩)
theorem For_L {s : Shared} {Q : Flow → Shared → Prop} {x : Str} {px pos : Pos} {iter : Expr} {body : List Stmt} (_F : Fr h₀ env.locals s.heap m) (hx : env.kindOf x = some .local)
    (hp : (env.scope.kind == .class || (env.scope.kind == .module && env.locals != env.globals)) = false)
    (h : wpAny (model prog w) A (eval iter env) (ForL prog w A h₀ m env x body Q E) E s)
    (hs : ∀ x, foldedSetIterable iter env x = pure x := by intro _; rfl)
    (hE : PassesOwn (model prog w) A env E := by passes_own) :
    wpAny (model prog w) A (exec (.For (.Name x px) iter body [] pos) env) Q E s := by
  refine For_invV h₀ hx hp (wpAny_mono h (fun xv s₁ h₁ => ?_) fun _ _ e => e) hs hE
  obtain ⟨ax, its, c, news, J, rfl, hh, F, N, hJ0, turn, done⟩ := h₁
  have hA := N (ax, W.listOf its c) List.mem_cons_self
  have hlt : ax < s₁.heap.objs.size := Heap.lt_size hA.1
  have hl : s₁.heap.IsList ax its := News.isList N List.mem_cons_self
  refine wpAny_pyIter_list hl ?_
  have up : ∀ b x, s₁.heap.get? b = some x → (s₁.heap.push { cls := .type "list_iterator", data := .fields #[.ref ax, .int 0 0] }).get? b = some x := fun b o e => Heap.get?_push_of_some _ e
  refine ⟨s₁.heap.objs.size, [s₁.heap.objs.size, ax], [s₁.heap.objs.size], its.size, _, _, m, news, fun i m₁ news₁ => (∀ y, y ≠ x → m₁ y = m y) ∧ J i news₁, rfl, Walks.list hh s₁.heap.objs.size ax (Nat.ne_of_lt hlt) its, ?_, ?_, ?_, ⟨⟨_, Heap.get?_push_size _ rfl, rfl, rfl⟩, hl.push _⟩, F.keeps up, (fun p hp => ⟨up _ _ (N p (List.mem_cons_of_mem _ hp)).1, (N p (List.mem_cons_of_mem _ hp)).2⟩), ⟨fun _ _ => rfl, hJ0⟩, ?_, ?_⟩
  · intro hmem
    rcases List.mem_cons.mp hmem with e | hmem
    · exact Nat.lt_irrefl _ (e ▸ F.ns.lt)
    · exact hA.2.1 (List.mem_singleton.mp hmem).symm
  · intro b hb
    rw [List.mem_singleton.mp hb]; exact next_is_new F
  · intro p hp' hI
    exact absurd (Heap.lt_size (N p (List.mem_cons_of_mem _ hp')).1) ((List.mem_singleton.mp hI) ▸ Nat.lt_irrefl _)
  · rintro i v m₁ news₁ s₂ own ⟨hh', tk', rfl⟩ hin hP ⟨hm₁, hJ⟩ hoff hown _ _ _ F₁ N₁
    have e : (fun y => if y = x then some v else m₁ y) = fun y => if y = x then some v else m y := by
      funext y
      by_cases hy : y = x
      · simp [hy]
      · simp only [if_neg hy]; exact hm₁ y hy
    rw [e] at F₁
    have N₂ : News h₀ env.locals hh' (news₁ ++ own) := fun p hp => N₁ p ((List.mem_append.mp hp).elim (fun q => List.mem_append_right _ q) fun q => List.mem_append_left _ q)
    refine wpAny_mono (turn i v s₁.heap.objs.size own news₁ hh' tk' hP hJ (fun p hp => (List.mem_cons.mp (hown p hp)).imp id fun q => List.mem_singleton.mp q) (fun p hp q => hoff p hp (List.mem_singleton.mpr q)) (fun p hp => Heap.lt_size (N p (List.mem_cons_of_mem _ hp)).1) hlt F₁ N₂) (fun f s₃ q => ?_) fun _ _ e => e
    have fin : (∃ h' tk' m₂ news₂, s₃ = ⟨h', s₁.gens, s₁.drawn, tk', s₁.os⟩ ∧ Fr h₀ env.locals h' m₂ ∧ (∀ y, y ≠ x → m₂ y = m y) ∧ News h₀ env.locals h' (news₂ ++ own) ∧ (∀ p ∈ news₂, p.1 ≠ s₁.heap.objs.size) ∧ J (i + 1) news₂) →
        LoopStepU h₀ env.locals [s₁.heap.objs.size] own (fun m₁ nw => (∀ y, y ≠ x → m₁ y = m y) ∧ J (i + 1) nw) { heap := hh', gens := s₁.gens, drawn := s₁.drawn, toks := tk', os := s₁.os } .next s₃ := by
      rintro ⟨h', tk'', m₂, news₂, rfl, F₂, hm₂, N₃, hne, hj⟩
      exact ⟨rfl, h', tk'', m₂, news₂, rfl, F₂, (fun p hp => N₃ p ((List.mem_append.mp hp).elim (fun q => List.mem_append_right _ q) fun q => List.mem_append_left _ q)), (fun p hp q => hne p hp (List.mem_singleton.mp q)), hm₂, hj⟩
    cases f with
    | ret v => exact .ret q
    | brk => exact q.elim
    | next => exact .next (fin q)
    | cont => exact .cont (fin q)
  · rintro h' tk' m' news' F' N' _ ⟨hm', hJ⟩
    have e : m' = fun y => if y = x then m' x else m y := by
      funext y
      by_cases hy : y = x
      · simp [hy]
      · simp only [if_neg hy]; exact hm' y hy
    rw [e] at F'
    exact done (m' x) h' tk' news' hJ F' N'
end
end
section
open PySem.Spec PySem.Calls PyProof.Rows.LCt PyProof.Rows.LCg
/-- values that are made pairs of a word and these ints -/
inductive RetsAre (news : List (Addr × Obj)) : List Value → List Int → Prop
  | nil : RetsAre news [] []
  | cons {a : Addr} {x : Str} {tk t : Tok} {e : Nat} {n : Int} {ys : List Value} {ns : List Int} : (a, ({ cls := .type "tuple", data := .seq #[.str x tk, .int n t] e } : Obj)) ∈ news → RetsAre news ys ns → RetsAre news (.ref a :: ys) (n :: ns)
theorem RetsAre.mono {news news' : List (Addr × Obj)} {ys : List Value} {ns : List Int} (h : RetsAre news ys ns) (hs : ∀ p ∈ news, p ∈ news') : RetsAre news' ys ns := by
  induction h with
  | nil => exact .nil
  | cons hm _ ih => exact .cons (hs _ hm) ih
theorem RetsAre.snoc {news : List (Addr × Obj)} {ys : List Value} {ns : List Int} (h : RetsAre news ys ns) {a : Addr} {x : Str} {tk t : Tok} {e : Nat} {n : Int} (hm : (a, ({ cls := .type "tuple", data := .seq #[.str x tk, .int n t] e } : Obj)) ∈ news) : RetsAre news (ys ++ [.ref a]) (ns ++ [n]) := by
  induction h with
  | nil => exact .cons hm .nil
  | cons hm' _ ih => exact .cons hm' ih
theorem RetsAre.length {news : List (Addr × Obj)} {ys : List Value} {ns : List Int} (h : RetsAre news ys ns) : ys.length = ns.length := by
  induction h with
  | nil => rfl
  | cons _ _ ih => simp [ih]
theorem RetsAre.at {news : List (Addr × Obj)} : ∀ {ys : List Value} {ns : List Int}, RetsAre news ys ns → ∀ (i : Nat) (v : Value), ys[i]? = some v → ∃ a x tk n t e, v = .ref a ∧ ns[i]? = some n ∧ (a, ({ cls := .type "tuple", data := .seq #[.str x tk, .int n t] e } : Obj)) ∈ news
  | _, _, .nil, _, _, h => by cases h
  | _, _, .cons hm r, 0, v, h => by cases h; exact ⟨_, _, _, _, _, _, rfl, rfl, hm⟩
  | _, _, .cons hm r, i + 1, v, h => r.at i v h
section
variable {prog : Program} {w : World} {A : Around} {E : Value → Shared → Prop} {h₀ : Heap} {L : Addr} {m : Str → Option Value} {env : Env}
/-- a comprehension that makes something of every int of a made list: the turns -/
theorem restL_make {hp : Heap} {gn : Array GenState} {dr : Drawn} {tk₀ : Nat} {os : OsState} {elt : Expr} {x : Str} {scope : Scope} {cl : List (Str × Addr)} {vs : List Value} {ns : List Int} {n : Nat} {S : List (Addr × Obj) → Prop} {news : List (Addr × Obj)} {Fin : List Value → List (Addr × Obj) → Prop} (G : List Value → List Int → List (Addr × Obj) → Prop)
    (hi : IntsAre vs ns) (hn : n = ns.length) (hG : G [] [] news)
    (turn : ∀ k t I oI C oC D oD m₂ h tk ys done nw (E' : Value → Shared → Prop), k ∈ ns → G ys done nw → NsObj oC m₂ → m₂ x = some (.int k t) → Fr h₀ L h m → News h₀ L h ((I, oI) :: (C, oC) :: (D, oD) :: nw) → Off3 I C D nw → ((@Ne Nat I C) ∧ (@Ne Nat I D) ∧ (@Ne Nat C D)) →
      wpAny (model prog w) A (eval elt (compEnvC scope cl C env)) (CompEnd h₀ L m ⟨h, gn, dr, tk, os⟩ I oI C oC D oD S fun y nw' => G (ys ++ [y]) (done ++ [k]) nw') E' ⟨h, gn, dr, tk, os⟩)
    (fin : ∀ ys nw, G ys ns nw → Fin ys nw) :
    CompRest prog w A h₀ L m env elt x scope cl ⟨hp, gn, dr, tk₀, os⟩ S (fun i v => vs.toArray[i]? = some v) Fin n 0 [] news := by
  have key : ∀ j i ys nw, i + j = n → G ys (ns.take i) nw → CompRest prog w A h₀ L m env elt x scope cl ⟨hp, gn, dr, tk₀, os⟩ S (fun i v => vs.toArray[i]? = some v) Fin j i ys nw := by
    intro j
    induction j with
    | zero =>
      intro i ys nw hi' hy
      refine CompRest.zero (fin ys nw ?_)
      rwa [List.take_of_length_le (by omega)] at hy
    | succ j ih =>
      intro i ys nw hi' hy
      refine CompRest.succ ?_
      intro v I oI C oC D m₂ h tk E' hv hC hx F' N' off ne
      obtain ⟨k, t, rfl, hk⟩ := hi.at i v (by simpa using hv)
      refine wpAny_mono (turn k t I oI C oC D _ m₂ h tk ys (ns.take i) nw E' (List.mem_of_getElem? hk) hy hC hx F' N' off ne) (fun y s' hq => ?_) fun _ _ e => e
      obtain ⟨h', tk', nw', rfl, F₂, N₂, off₂, hS₂, hG₂⟩ := hq
      refine ⟨h', tk', nw', rfl, F₂, N₂, off₂, hS₂, ih (i + 1) _ _ (by omega) ?_⟩
      rw [List.take_add_one, hk]
      exact hG₂
  exact key n 0 [] news (by omega) hG
end
theorem allLt_mem {d : Addr} {l : List (Addr × Obj)} (h : AllLt d l) : ∀ p ∈ l, @LT.lt Nat _ p.1 d := by
  induction l with
  | nil => intro p hp; cases hp
  | cons q r ih =>
    intro p hp
    rcases List.mem_cons.mp hp with e | hp
    · rw [e]; exact h.1
    · exact ih h.2 p hp
theorem off1_mem {D : Addr} {l : List (Addr × Obj)} (h : Off1 D l) : ∀ p ∈ l, p.1 ≠ D := by
  induction l with
  | nil => intro p hp; cases hp
  | cons q r ih =>
    intro p hp
    rcases List.mem_cons.mp hp with e | hp
    · rw [e]; exact h.1
    · exact ih h.2 p hp
end
section
local macro_rules | `(tactic| k_room) => `(tactic| ((try simp only [depth_under_make, depth_under_kw, depth_in1, depth_deeper]); (try simp only [recursionLimit]); omega))
local macro_rules | `(tactic| k_mem) => `(tactic| first | with_reducible assumption | exact List.mem_cons_self | (refine' List.mem_cons_of_mem _ ?_; k_mem))
local macro_rules | `(tactic| k_go0) => `(tactic| ((with_reducible rename Frag.In _ _ => X9); revert X9; k_fill; intro X9))
local macro_rules | `(tactic| open_k with $t) => `(tactic| first
  | (refine' code_def (binds := $t) ?k1 ?k2 ?k3 ?k4 ?k5 (by exact rfl) (by first | exact rfl | assumption) (by first | exact rfl | assumption) ?k6 ?k7 ?k8 ?k9 ?kB ?_ ?c2 ?c3 ?c4 ?c5; (case k1 => k_asm); (case k2 => k_asm); (case k3 => k_asm); (case k4 => k_asm); (case k5 => k_asm); (case k6 => k_is); (case k7 => k_is); (case k8 => k_room); (case k9 => first | exact BindsTo.of_eq rfl | exact binds_K (by k_in) rfl (by k_is) rfl rfl rfl | fail "k_enter: no rule for these arguments"); (case c5 => decide); (case kB => exact locs rfl); (case c2 => exact rfl); (case c3 => exact rfl); (case c4 => exact rfl); k_whole; intro g' L' h' FG' F' N' B' X' T'; (try dsimp only); (try k_lift B'); (try k_fold))
  | (refine' code_defC (binds := $t) ?k1 ?k2 ?k3 ?k4 ?k5 (by exact rfl) (by first | exact rfl | assumption) (by first | exact rfl | assumption) ?k6 ?k7 ?k8 ?k9 ?kB ?kD ?_ ?c2 ?c3 ?c4; (case k1 => k_asm); (case k2 => k_asm); (case k3 => k_asm); (case k4 => k_asm); (case k5 => k_asm); (case k6 => k_is); (case k7 => k_is); (case k8 => k_room); (case k9 => first | exact BindsTo.of_eq rfl | exact binds_K (by k_in) rfl (by k_is) rfl rfl rfl | fail "k_enter: no rule for these arguments"); (case kB => exact rfl); (case kD => decide +kernel); (case c2 => exact rfl); (case c3 => exact rfl); (case c4 => exact rfl); k_whole; intro g' L' h' tk' cells' FG' F' N' Y' B' X' T' l1; (try k_lt l1); k_cells Y'; (try simp only [List.cons_append, List.nil_append] at N'); (try dsimp only); (try k_lift B'); (try k_fold)))
local macro_rules | `(tactic| k_steps) => `(tactic| repeat' (first | (k_unfold; (try dsimp only)) | walk1 | (dsimp only; walk1)))
local macro_rules | `(tactic| walk_at "eval ListComp") => `(tactic| (k_here; lct_look; k_dflt (refine ListComp_D (knd := PySem.intKind _ _) (by k_asm) (by with_unfolding_all rfl) (by decide) (by rfl) (by decide) (by rfl) ?_)))
local macro_rules | `(tactic| walk_at "call builtin:len") => `(tactic| (k_here; (with_reducible show wpAny _ _ (call (Value.builtin "len") [Value.ref _]) _ _ _); k_dflt (refine' len_lst (by k_asm) (by k_mem) (by first | assumption | (simp only [List.size_toArray]; omega)) ?_)))
local macro_rules | `(tactic| walk_at "LeaveK") => `(tactic| (k_here; k_dflt (refine' leaveK_ (by k_asm) (by k_asm) ?_; k_whole); intro kF' kN'; dsimp only))
local macro_rules | `(tactic| k_allIn) => `(tactic| first | exact List.forall_mem_nil _ | (refine' List.forall_mem_cons.mpr ⟨?x1, ?x2⟩; (case x1 => k_mem); (case x2 => k_allIn)) | (intro p hp; k_mem))
local macro_rules | `(tactic| k_types) => `(tactic| first | k_asm | (refine' News.of (by k_asm) (by k_allIn)))
local macro_rules | `(tactic| k_units) => `(tactic| (refine' Cx.mk (by k_asm) (by k_asm) (by k_asm) (by first | exact rfl | assumption) (by first | exact rfl | assumption)))
local macro_rules | `(tactic| k_all) => `(tactic| first | assumption | exact List.forall_mem_nil _ | (refine' List.forall_mem_cons.mpr ⟨?a, ?b⟩; (case a => k_ne); (case b => k_all)))
local macro_rules | `(tactic| walk_at "compareOp In bytes ref") => `(tactic| (k_here; k_dflt (refine' in_bytes_fresh (by k_asm) (by k_mem) (by k_asm) ?_)))
local macro_rules | `(tactic| walk_at "compareOp In int ref") => `(tactic| (k_here; k_dflt (refine' dict_in (by k_asm) (by k_mem) (by k_asm) (by k_asm) ?_)))
local macro_rules | `(tactic| walk_at "setItem ref int") => `(tactic| (k_here; k_dflt (refine' dict_set (by k_asm) (by k_asm) (by k_updF) (by k_asm) (by first | k_asm | solve_by_elim) (by first | k_asm | omega) ?_); intro h' o' F' N' hd'; (try dsimp only at N'); (try k_sweep)))
local macro_rules | `(tactic| walk_at "getItem ref int") => `(tactic| (k_here; k_dflt (refine' dict_getItem (by k_asm) (by k_mem) (by k_asm) (by first | assumption | (simp_all; done)) ?_); intro v' hv'))
local macro_rules | `(tactic| walk_at "getMethod ref") => `(tactic| (k_here; (with_reducible show wpAny _ _ (getMethod (Value.ref _) (PySem.Str.ofString "pop") _) _ _ _); k_dflt (refine' kob_method (knd := PySem.intKind _ _) PySem.F.slot_dict_pop PySem.F.type_dict_pop (by k_asm) (by k_mem) (by k_asm) ?_)))
local macro_rules | `(tactic| walk_at "call builtin:dict.pop") => `(tactic| (k_here; k_dflt (first
  | (refine' dict_pop2 (by k_asm) (by k_asm) (by k_updF) (by k_asm) (by k_asm) (by k_asm) ?_; k_whole)
  | (refine' dict_pop1 (by k_asm) (by k_asm) (by k_updF) (by k_asm) (by k_asm) (by k_asm) ?_; k_whole)); intros; (try dsimp only at *); (try k_sweep)))
local macro_rules | `(tactic| walk_at "exec For Name Attribute cons nil") => `(tactic| (k_here; (rename Fr _ _ _ _ => lF'); (with_unfolding_all refine' For_D lF' (by exact rfl) (by exact rfl) ?_; k_whole)))
local macro_rules | `(tactic| walk_at "subscriptTail") => `(tactic| (k_here; (with_reducible show wpAny _ _ (subscriptTail _ _ (Value.ref _) (Value.int _ _)) _ _ _); k_dflt (refine' kdt_tail (knd := PySem.intKind _ _) (by k_asm) (by k_mem) (by k_asm) ?_)))
local macro_rules | `(tactic| walk_at "compareOp In int ref") => `(tactic| (k_here; k_dflt (refine' in_lst (by k_asm) (by k_mem) (by k_asm) ?_)))
local macro_rules | `(tactic| walk_at "compareOp NotIn int ref") => `(tactic| (k_here; k_dflt (refine' notin_lst (by k_asm) (by k_mem) (by k_asm) ?_)))
local macro_rules | `(tactic| walk_at "call builtin:len") => `(tactic| (k_here; (with_reducible show wpAny _ _ (call (Value.builtin "len") [Value.ref _]) _ _ _); k_dflt (refine' len_dict (by k_asm) (by k_mem) (by k_asm) (by k_asm) (by first | with_reducible assumption | (rw [List.length_map]; omega) | (rw [List.length_map]; refine Nat.le_trans (List.length_filter_le _ _) ?_; first | omega | (rw [List.length_append, List.length_singleton]; omega))) ?_)))
local macro_rules | `(tactic| walk_at "call builtin:min") => `(tactic| (k_here; (with_reducible show wpAny _ _ (call (Value.builtin "min") [Value.ref _]) _ _ _); k_dflt (refine' min_dict (by exact rfl) (by k_asm) (by k_asm) (by k_mem) (by k_asm) (by k_asm) (by first | assumption | (simp only [List.length_map] at *; omega)) ?_); intro h' tk' n' t' F' N' hn' hq'))
local macro_rules | `(tactic| walk_at "call builtin:sorted") => `(tactic| (k_here; k_dflt (first
  | (refine' sorted_dict (by exact rfl) (by k_asm) (by k_asm) (by k_mem) (by k_asm) (by k_asm) (by first | assumption | omega) ?_; k_whole; intro b' h' tk' vs' ns' e' F' N' l1 hI' hp' hs')
  | (refine' sorted_lst (by k_asm) (by k_asm) (by k_mem) (by k_asm) (by first | assumption | omega) ?_; k_whole; intro b' h' vs' ns' e' F' N' l1 hI' hp' hs')); (try k_lt l1); (try k_sweep)))
local macro_rules | `(tactic| walk_at "call type:list") => `(tactic| (k_here; k_dflt (refine' list_dict (by exact rfl) (by k_asm) (by k_asm) (by k_mem) (by k_asm) (by k_asm) (by first | assumption | omega) ?_; k_whole; intro b' c' h' tk' vs' F' N' l1 hI'); (try k_lt l1); (try k_sweep)))
local macro_rules | `(tactic| k_ownIn) => `(tactic| first | exact Pick.here | (refine' Pick.there (by k_ownIn)))
local macro_rules | `(tactic| k_memK) => `(tactic| first | exact Picks.nil | (refine' Picks.cons (by k_ownIn) (by k_memK)))
local macro_rules | `(tactic| walk_at "exec For Name Call cons nil") => `(tactic| (k_here; (rename Fr _ _ _ _ => lF'); (with_unfolding_all refine' For_L lF' (by exact rfl) (by exact rfl) ?_; k_whole)))
local macro_rules | `(tactic| walk_at "exec Assign cons ListComp") => `(tactic| (k_here; lct_look; k_dflt (refine LCt.Assign_ListComp_T (F₀ := by k_asm) (by rfl) (by with_unfolding_all rfl) (by with_unfolding_all rfl) (by decide) (by rfl) (by decide) (by rfl) (by rfl) (by rfl) ?_)))
local macro_rules | `(tactic| walk_at "exec Assign cons ListComp") => `(tactic| (k_here; lcg_look; k_dflt (refine LCg.Assign_ListComp_U (F₀ := by k_asm) (by rfl) (by with_unfolding_all rfl) (by with_unfolding_all rfl) (by decide) (by rfl) (by decide) (by rfl) (by rfl) (by rfl) ?_)))
local macro_rules | `(tactic| walk_at "exec If") => `(tactic| (refine wpAny_If ?_))
local macro_rules | `(tactic| walk_at "newTuple") => `(tactic| (k_here; k_dflt (refine' mk_tuple (by k_asm) (by k_asm) (by decide) ?_); intro t' h' F' N' l1; (try k_lt l1); (try k_sweep)))
local macro_rules | `(tactic| walk_at "compareOp NotEq ref ref") => `(tactic| (k_here; k_dflt (refine' ne_pair_same (by k_asm) (by k_mem) (by k_mem) (by exact ⟨_, _, _, rfl, rfl⟩) (by (simp only [units_deeper, units_in1, cLine]; omega)) ?_)))
local macro_rules | `(tactic| walk_at "call builtin:list.pop") => `(tactic| (k_here; k_dflt (refine' pop_at (by k_asm) (by k_asm) (by k_updF) (by first | k_asm | omega) (by first | k_asm | omega) (by first | k_asm | omega) ?_); intro h' p' y' q' e1' e2' F' N'; (try dsimp only at N'); (try k_sweep)))
local macro_rules | `(tactic| walk_at "subscriptTail") => `(tactic| (k_here; (with_reducible show wpAny _ _ (subscriptTail _ _ (Value.ref _) (Value.int _ _)) _ _ _); k_dflt (refine' item_at (by k_asm) (by k_mem) (by first | k_asm | omega) (by first | k_asm | omega) (by first | k_asm | omega) ?_); intro p' y' q' e1' e2'))
local macro_rules | `(tactic| walk_at "call type:bytes") => `(tactic| (k_here; (with_reducible show wpAny _ _ (call (Value.type "bytes") [Value.ref _]) _ _ _); k_dflt (refine' bytes_K (by k_asm) (by k_asm) (by (refine' News.isList (by k_asm) (by k_mem))) (by first | assumption | exact IntsAre.cons _ _ (IntsAre.cons _ _ IntsAre.nil)) (by (intro n hn; simp at hn; omega)) (by (rw [sizeLine_eq]; simp)) (by exact rfl) ?_); intro h' t' k' F' N' hB'; (try k_sweep)))
local macro_rules | `(tactic| walk_at "binaryOp Mult ref int") => `(tactic| (k_here; k_dflt (refine' KM.mul (by k_asm) (by k_asm) (by (refine' News.isList (by k_asm) (by k_mem))) (by exact IntsAre.cons _ _ IntsAre.nil) (by decide) (by decide) (by decide) ?_); intro D' h' F' N' l1 hI' n' e1' e2' e3' e4'; (try k_lt l1); (try k_sweep)))
local macro_rules | `(tactic| walk_at "subscriptTail") => `(tactic| (k_here; (with_reducible show wpAny _ _ (subscriptTail _ _ (Value.ref _) (Value.str _ _)) _ _ _); k_dflt (refine' kda_item (knd := PySem.strKind _ _) (k := _) (by k_asm) (by k_mem) (by k_asm) (by exact strKind_is _ _ _ _) (by with_unfolding_all rfl) ?_)))
section
local macro_rules | `(tactic| walk_at "call ref") => `(tactic| (k_here; (with_reducible show wpAny _ _ (call (Value.ref _) _ _) _ _ _); refine' Stuck.out ?_))
section
section
variable {w : World} {A₀ : Around} {base h₀ : Heap} {env : Env} {outer : List Env} {dp un : Nat} {gs : Option (List Code)} {L : Addr} {m mg mb : Str → Option Value} {mean : ExcName → Option Value} {news post : List (Addr × Obj)} {sh : Heap} {sg : Array GenState} {sd : Drawn} {tk₀ : Nat} {so : OsState} {Q : Value → Shared → Prop} {E : Value → Shared → Prop}
  {xi di iss ev : Nat} {lim nx rp : Int} {k1 k2 k3 k4 k5 k6 k7 k8 t1 t2 t3 t4 t5 t6 t7 t8 : Tok} {oI oK oT : Obj} {kvs kws : List (Int × Value)}
theorem c_kept (C : Cx w A₀ base h₀ env outer L mg mb mean) (F : Fr h₀ L sh m) (N : News h₀ L sh news) (hdep : dp < 500)
  (h1 : (xi, instObj 98 di) ∈ news) (h2 : (di, locD w iss ev lim nx rp k1 k2 k3 k4 k5 k6 t1 t4 t5) ∈ news)
  (h3 : (iss, oI) ∈ news) (hI : oI.IsDictOf (PySem.intKind PySem.Challenge.rw_sj0110_01.row.prog w) kvs) (hlen : kvs.length ≤ 1000) (hlo : (iss == sysModules) = false)
  (h : ∀ h' tk t, Fr h₀ L h' m → News h₀ L h' news → Q (.int (((kvs.map (·.1)).filter (fun k => decide (rp ≤ k))).length : Nat) t) ⟨h', sg, sd, tk, so⟩) :
  wpAny (model PySem.Challenge.rw_sj0110_01.row.prog w) (⟨none, dp, some (env :: outer), gs, un⟩ : Around) (call (.ref 60) [.ref xi] []) Q E ⟨sh, sg, sd, tk₀, so⟩ := by
  obtain ⟨B, X, T, hf, hke⟩ := C
  w_top off
  k_go0
  refine wpAny_call ?_
  open_k with [(("self" : Str), Value.ref xi)]
  k_steps
  refine CompD.filter (fun k => decide (rp ≤ k)) rfl (by k_asm) (by k_asm) (by k_mem) hI (Nat.le_trans hlen (by rw [sizeLine_eq]; decide)) hlo ?_ ⟨rfl, rfl, rfl, by decide⟩ ?_
  · intro g9 k9 t9 I9 oI9 C9 oC9 D9 oD9 m9 h9 tk9 E9 hk9 hC9 hx9 F' N'
    k_steps
    exact TestEnd.intro rfl (by k_asm) (by k_asm) (fun _ h => h)
  · intro D9 ys9 h9 tk9 hy9 F' N'
    have hl9 := hy9.length
    have hl8 := List.length_filter_le (fun k => decide (rp ≤ k)) (kvs.map (·.1))
    rw [List.length_map] at hl8
    k_steps
    rw [List.size_toArray, hl9]
    refine h _ _ _ ?_ ?_
    · k_asm
    · k_types
end
end
section
local macro_rules | `(tactic| walk_at "call ref") => `(tactic| (k_here; k_dflt (refine' c_kept (by k_units) (by k_asm) (by k_asm) (by k_room) (by k_mem) (by k_mem) (by k_mem) (by k_asm) (by k_asm) (by k_asm) ?_); intro h' tk' t' F' N'))
section
variable {w : World} {A₀ : Around} {base h₀ : Heap} {env : Env} {outer : List Env} {dp un : Nat} {gs : Option (List Code)} {L : Addr} {m mg mb : Str → Option Value} {mean : ExcName → Option Value} {news post : List (Addr × Obj)} {sh : Heap} {sg : Array GenState} {sd : Drawn} {tk₀ : Nat} {so : OsState} {Q : Value → Shared → Prop} {E : Value → Shared → Prop}
  {xi di iss ev : Nat} {lim nx rp : Int} {k1 k2 k3 k4 k5 k6 k7 k8 t1 t2 t3 t4 t5 t6 t7 t8 : Tok} {oI oK oT : Obj} {kvs kws : List (Int × Value)}
/-- how many ids are kept -/
abbrev keptN (rp : Int) (ks : List Int) : Int := ((ks.filter (fun k => decide (rp ≤ k))).length : Nat)
theorem c_may (C : Cx w A₀ base h₀ env outer L mg mb mean) (F : Fr h₀ L sh m) (N : News h₀ L sh news) (hdep : dp < 490)
  (h1 : (xi, instObj 98 di) ∈ news) (h2 : (di, locD w iss ev lim nx rp k1 k2 k3 k4 k5 k6 t1 t4 t5) ∈ news)
  (h3 : (iss, oI) ∈ news) (hI : oI.IsDictOf (PySem.intKind PySem.Challenge.rw_sj0110_01.row.prog w) kvs) (hlen : kvs.length ≤ 1000) (hlo : (iss == sysModules) = false)
  (h : ∀ h' tk, Fr h₀ L h' m → News h₀ L h' news → Q (.bool (decide (keptN rp (kvs.map (·.1)) < lim))) ⟨h', sg, sd, tk, so⟩) :
  wpAny (model PySem.Challenge.rw_sj0110_01.row.prog w) (⟨none, dp, some (env :: outer), gs, un⟩ : Around) (call (.ref 67) [.ref xi] []) Q E ⟨sh, sg, sd, tk₀, so⟩ := by
  obtain ⟨B, X, T, hf, hke⟩ := C
  w_top off
  k_go0
  refine wpAny_call ?_
  open_k with [(("self" : Str), Value.ref xi)]
  k_steps
  refine h _ _ ?_ ?_
  · k_asm
  · k_types
end
end
section
local macro_rules | `(tactic| walk_at "no such key") => `(tactic| skip)
local macro_rules | `(tactic| walk_at "call ref") => `(tactic| (k_here; k_dflt (refine' c_may (by k_units) (by k_asm) (by k_asm) (by k_room) (by k_mem) (by k_mem) (by k_mem) (by k_asm) (by k_asm) (by k_asm) ?_); intro h' tk' F' N'))
section
variable {w : World} {A₀ : Around} {base h₀ : Heap} {env : Env} {outer : List Env} {dp un : Nat} {gs : Option (List Code)} {L : Addr} {m mg mb : Str → Option Value} {mean : ExcName → Option Value} {news post : List (Addr × Obj)} {sh : Heap} {sg : Array GenState} {sd : Drawn} {tk₀ : Nat} {so : OsState} {Q : Value → Shared → Prop} {E : Value → Shared → Prop}
  {xi di iss ev : Nat} {lim nx rp : Int} {k1 k2 k3 k4 k5 k6 k7 k8 t1 t2 t3 t4 t5 t6 t7 t8 : Tok} {oI oK oT : Obj} {kvs kws : List (Int × Value)}
theorem c_issue {evs : Array Value} {ne : Nat} {cid tok : Array UInt8} {tc tt : Tok} (C : Cx w A₀ base h₀ env outer L mg mb mean) (F : Fr h₀ L sh m) (N : News h₀ L sh ((di, locD w iss ev lim nx rp k1 k2 k3 k4 k5 k6 t1 t4 t5) :: (xi, instObj 98 di) :: (iss, oI) :: (ev, W.listOf evs ne) :: post)) (hdep : dp < 480)
  (l1 : di < xi) (l2 : xi < iss) (l3 : iss < ev) (p1 : ∀ p ∈ post, p.1 ≠ di) (p2 : ∀ p ∈ post, p.1 ≠ iss) (p3 : ∀ p ∈ post, p.1 ≠ ev)
  (hI : oI.IsDictOf (PySem.intKind PySem.Challenge.rw_sj0110_01.row.prog w) kvs) (hlen : kvs.length ≤ 1000) (hlo : (iss == sysModules) = false) (hev : evs.size ≤ 1000) (hne : ∀ y ∈ evs, ∃ c u, y = .bytes c u ∧ c.toList ≠ cid.toList) (hnx : nx ∉ kvs.map (·.1))
  (hyes : keptN rp (kvs.map (·.1)) < lim → ∀ h' tk t o' ne' ta tb, Fr h₀ L h' m → o'.IsDictOf (PySem.intKind PySem.Challenge.rw_sj0110_01.row.prog w) (kvs ++ [(nx, .bytes cid tc)]) → @LT.lt Nat _ di t → @LT.lt Nat _ xi t → @LT.lt Nat _ iss t → @LT.lt Nat _ ev t → (∀ q ∈ post, @LT.lt Nat _ q.1 t) →
    News h₀ L h' ((t, tupOf #[.str "new_connection_id" ta, .int nx t4, .int rp t5, .bytes cid tc, .bytes tok tt]) :: (di, locD w iss ev lim (nx + 1) rp k1 k2 k3 k4 k5 k6 t1 tb t5) :: (xi, instObj 98 di) :: (iss, o') :: (ev, W.listOf (evs.push (.bytes cid tc)) ne') :: post) → Q (.ref t) ⟨h', sg, sd, tk, so⟩)
  (hno : ¬ keptN rp (kvs.map (·.1)) < lim → ∀ h' tk, Fr h₀ L h' m → News h₀ L h' ((di, locD w iss ev lim nx rp k1 k2 k3 k4 k5 k6 t1 t4 t5) :: (xi, instObj 98 di) :: (iss, oI) :: (ev, W.listOf evs ne) :: post) → Q .none ⟨h', sg, sd, tk, so⟩) :
  wpAny (model PySem.Challenge.rw_sj0110_01.row.prog w) (⟨none, dp, some (env :: outer), gs, un⟩ : Around) (call (.ref 74) [.ref xi, .bytes cid tc, .bytes tok tt] []) Q E ⟨sh, sg, sd, tk₀, so⟩ := by
  obtain ⟨B, X, T, hf, hke⟩ := C
  w_top off
  k_go0
  refine wpAny_call ?_
  open_k with [(("self" : Str), Value.ref xi), (("cid" : Str), .bytes cid tc), (("token" : Str), .bytes tok tt)]
  k_steps
  · with_reducible rename _ ∧ _ => hl
    refine' hyes ?c _ _ _ _ _ _ _ ?F ?D ?l1 ?l2 ?l3 ?l4 ?l5 ?N
    case l1 => exact hl.1
    case l2 => exact hl.2.1
    case l3 => exact hl.2.2.1
    case l4 => exact hl.2.2.2.1
    case l5 => exact fun q hq => allLt_mem hl.2.2.2.2 q hq
    case N => k_types
    case c => omega
    case F => k_asm
    case D => k_asm
  · refine hno (by omega) _ _ ?_ ?_
    · k_asm
    · k_types
end
end
section
section
variable {w : World} {A₀ : Around} {base h₀ : Heap} {env : Env} {outer : List Env} {dp un : Nat} {gs : Option (List Code)} {L : Addr} {m mg mb : Str → Option Value} {mean : ExcName → Option Value} {news post : List (Addr × Obj)} {sh : Heap} {sg : Array GenState} {sd : Drawn} {tk₀ : Nat} {so : OsState} {Q : Value → Shared → Prop} {E : Value → Shared → Prop}
  {xi di iss ev : Nat} {lim nx rp : Int} {k1 k2 k3 k4 k5 k6 k7 k8 t1 t2 t3 t4 t5 t6 t7 t8 : Tok} {oI oK oT : Obj} {kvs kws : List (Int × Value)}
theorem c_ask {pr : Int} {tp : Tok} (C : Cx w A₀ base h₀ env outer L mg mb mean) (F : Fr h₀ L sh m) (N : News h₀ L sh ((di, locD w iss ev lim nx rp k1 k2 k3 k4 k5 k6 t1 t4 t5) :: (xi, instObj 98 di) :: post)) (hdep : dp < 480)
  (l1 : di < xi) (p1 : ∀ p ∈ post, p.1 ≠ di)
  (h : ∀ h' tk rp' tb, rp' = max rp (min pr nx) → Fr h₀ L h' m → News h₀ L h' ((di, locD w iss ev lim nx rp' k1 k2 k3 k4 k5 k6 t1 t4 tb) :: (xi, instObj 98 di) :: post) → Q .none ⟨h', sg, sd, tk, so⟩) :
  wpAny (model PySem.Challenge.rw_sj0110_01.row.prog w) (⟨none, dp, some (env :: outer), gs, un⟩ : Around) (call (.ref 81) [.ref xi, .int pr tp] []) Q E ⟨sh, sg, sd, tk₀, so⟩ := by
  obtain ⟨B, X, T, hf, hke⟩ := C
  w_top off
  k_go0
  refine wpAny_call ?_
  open_k with [(("self" : Str), Value.ref xi), (("prior" : Str), .int pr tp)]
  k_steps
  refine' h _ _ _ _ ?e ?F ?N
  case N => k_types
  case F => k_asm
  case e => omega
theorem c_onret {k : Int} {tk : Tok} {used : Array UInt8} {tu : Tok} (C : Cx w A₀ base h₀ env outer L mg mb mean) (F : Fr h₀ L sh m) (N : News h₀ L sh ((di, locD w iss ev lim nx rp k1 k2 k3 k4 k5 k6 t1 t4 t5) :: (xi, instObj 98 di) :: (iss, oI) :: post)) (hdep : dp < 480)
  (l1 : di < xi) (l2 : xi < iss) (p1 : ∀ p ∈ post, p.1 ≠ di) (p2 : ∀ p ∈ post, p.1 ≠ iss) (hk : k < nx)
  (hI : oI.IsDictOf (PySem.intKind PySem.Challenge.rw_sj0110_01.row.prog w) kvs) (hlen : kvs.length ≤ 1000) (hlo : (iss == sysModules) = false) (hv : ∀ v, (k, v) ∈ kvs → ∃ c t, v = .bytes c t ∧ c.toList ≠ used.toList)
  (h : ∀ h' tk o', o'.IsDictOf (PySem.intKind PySem.Challenge.rw_sj0110_01.row.prog w) (kvs.filter fun p => !decide (p.1 = k)) → Fr h₀ L h' m → News h₀ L h' ((di, locD w iss ev lim nx rp k1 k2 k3 k4 k5 k6 t1 t4 t5) :: (xi, instObj 98 di) :: (iss, o') :: post) → Q .none ⟨h', sg, sd, tk, so⟩) :
  wpAny (model PySem.Challenge.rw_sj0110_01.row.prog w) (⟨none, dp, some (env :: outer), gs, un⟩ : Around) (call (.ref 88) [.ref xi, .int k tk, .bytes used tu] []) Q E ⟨sh, sg, sd, tk₀, so⟩ := by
  obtain ⟨B, X, T, hf, hke⟩ := C
  w_top off
  k_go0
  refine wpAny_call ?_
  open_k with [(("self" : Str), Value.ref xi), (("number" : Str), .int k tk), (("used" : Str), .bytes used tu)]
  k_steps
  · rename_i hv9
    obtain ⟨c9, t9, rfl, hc9⟩ := hv _ hv9
    refine PySem.W.eq_bytes ?_
    rw [show (c9.toList == used.toList) = false from by simpa using hc9]
    k_steps
    refine' h _ _ _ ?D ?F ?N
    case N => k_types
    case F => k_asm
    case D => k_asm
  · refine' h _ _ _ ?D ?F ?N
    case N => k_types
    case F => k_asm
    case D => k_asm
end
end
section
local macro_rules | `(tactic| walk_at "no such key") => `(tactic| skip)
section
variable {w : World} {A₀ : Around} {base h₀ : Heap} {env : Env} {outer : List Env} {dp un : Nat} {gs : Option (List Code)} {L : Addr} {m mg mb : Str → Option Value} {mean : ExcName → Option Value} {news post : List (Addr × Obj)} {sh : Heap} {sg : Array GenState} {sd : Drawn} {tk₀ : Nat} {so : OsState} {Q : Value → Shared → Prop} {E : Value → Shared → Prop}
  {xi di iss ev : Nat} {lim nx rp : Int} {k1 k2 k3 k4 k5 k6 k7 k8 t1 t2 t3 t4 t5 t6 t7 t8 : Tok} {oI oK oT : Obj} {kvs kws : List (Int × Value)}
theorem c_seq {k₀ : Int} {cid : Array UInt8} {tc : Tok} (C : Cx w A₀ base h₀ env outer L mg mb mean) (F : Fr h₀ L sh m) (N : News h₀ L sh news) (hdep : dp < 480)
  (h1 : (xi, instObj 98 di) ∈ news) (h2 : (di, locD w iss ev lim nx rp k1 k2 k3 k4 k5 k6 t1 t4 t5) ∈ news)
  (h3 : (iss, oI) ∈ news) (hI : oI.IsDictOf (PySem.intKind PySem.Challenge.rw_sj0110_01.row.prog w) kvs) (hlen : kvs.length ≤ 1000) (hlo : (iss == sysModules) = false)
  (hv : ∀ k v, (k, v) ∈ kvs → ∃ c t, v = .bytes c t ∧ (c.toList = cid.toList ↔ k = k₀)) (h0 : k₀ ∈ kvs.map (·.1))
  (h : ∀ h' tk t, Fr h₀ L h' m → News h₀ L h' news → Q (.int k₀ t) ⟨h', sg, sd, tk, so⟩) :
  wpAny (model PySem.Challenge.rw_sj0110_01.row.prog w) (⟨none, dp, some (env :: outer), gs, un⟩ : Around) (call (.ref 95) [.ref xi, .bytes cid tc] []) Q E ⟨sh, sg, sd, tk₀, so⟩ := by
  obtain ⟨B, X, T, hf, hke⟩ := C
  w_top off
  k_go0
  refine wpAny_call ?_
  open_k with [(("self" : Str), Value.ref xi), (("cid" : Str), .bytes cid tc)]
  k_steps
  refine' ⟨_, _, _, news, fun k => k ≠ k₀, rfl, rfl, ?F, ?N, h3, hI, hlo, ?turn, ?done⟩
  case F => k_asm
  case N => k_asm
  case turn =>
    intro k9 v9 t9 h9 tk9 own9 hm9 F' N'
    have hk9 : k9 ∈ kvs.map (·.1) := List.mem_map.mpr ⟨_, hm9, rfl⟩
    have h1 : (xi, instObj 98 di) ∈ own9 ++ news := List.mem_append_right _ h1
    have h2 : (di, locD w iss ev lim nx rp k1 k2 k3 k4 k5 k6 t1 t4 t5) ∈ own9 ++ news := List.mem_append_right _ h2
    have h3 : (iss, oI) ∈ own9 ++ news := List.mem_append_right _ h3
    dsimp only
    k_steps
    rename_i v8 hv8
    obtain ⟨c9, u9, rfl, hc9⟩ := hv _ _ hv8
    refine PySem.W.eq_bytes ?_
    by_cases he : k9 = k₀
    · rw [show (c9.toList == cid.toList) = true from by simpa using hc9.mpr he]
      subst he
      k_steps
      dsimp only [TurnEnd]
      k_steps
      refine' h _ _ _ ?F ?N
      case N => exact News.of (by k_asm) (fun p hp => List.mem_append_right _ hp)
      case F => k_asm
    · rw [show (c9.toList == cid.toList) = false from by simpa using fun q => he (hc9.mp q)]
      k_steps
      dsimp only [TurnEnd]
      exact ⟨_, _, _, rfl, by k_asm, fun y hy => by simp [hy], by k_asm, he⟩
  case done =>
    intro u9 h9 tk9 F' N' hR9
    exact absurd rfl (hR9 k₀ h0)
end
end
section
section
variable {w : World} {A₀ : Around} {base h₀ : Heap} {env : Env} {outer : List Env} {dp un : Nat} {gs : Option (List Code)} {L : Addr} {m mg mb : Str → Option Value} {mean : ExcName → Option Value} {news post : List (Addr × Obj)} {sh : Heap} {sg : Array GenState} {sd : Drawn} {tk₀ : Nat} {so : OsState} {Q : Value → Shared → Prop} {E : Value → Shared → Prop}
  {xu du kn us td tr : Nat} {lim cur rp : Int} {k1 k2 k3 k4 k5 k6 k7 k8 t1 t3 t5 : Tok} {oK oT : Obj} {kvs tvs : List (Int × Value)} {uvs rvs : List Value} {uns rns : List Int} {nu nr : Nat}
/-- a list of ints with one that is not in it added -/
abbrev addU (l : List Int) (k : Int) : List Int := if k ∈ l then l else l ++ [k]
theorem c_use {k : Int} {tk : Tok} (C : Cx w A₀ base h₀ env outer L mg mb mean) (F : Fr h₀ L sh m) (N : News h₀ L sh ((du, remD w kn us td tr lim cur rp k1 k2 k3 k4 k5 k6 k7 k8 t1 t3 t5) :: (xu, instObj 190 du) :: (us, W.listOf uvs.toArray nu) :: post)) (hdep : dp < 490)
  (l1 : du < xu) (l2 : xu < us) (p1 : ∀ p ∈ post, p.1 ≠ du) (p2 : ∀ p ∈ post, p.1 ≠ us) (hU : IntsAre uvs uns) (hul : uvs.length ≤ 1000)
  (h : ∀ h' tk' uvs' nu', IntsAre uvs' (addU uns k) → uvs'.length ≤ uvs.length + 1 → Fr h₀ L h' m → News h₀ L h' ((du, remD w kn us td tr lim k rp k1 k2 k3 k4 k5 k6 k7 k8 t1 tk t5) :: (xu, instObj 190 du) :: (us, W.listOf uvs'.toArray nu') :: post) → Q .none ⟨h', sg, sd, tk', so⟩) :
  wpAny (model PySem.Challenge.rw_sj0110_01.row.prog w) (⟨none, dp, some (env :: outer), gs, un⟩ : Around) (call (.ref 156) [.ref xu, .int k tk] []) Q E ⟨sh, sg, sd, tk₀, so⟩ := by
  obtain ⟨B, X, T, hf, hke⟩ := C
  w_top off
  k_go0
  refine wpAny_call ?_
  open_k with [(("self" : Str), Value.ref xu), (("number" : Str), .int k tk)]
  k_steps
  · rename k ∈ uns => hm9
    refine' h _ _ _ _ ?I ?ul ?F ?N
    case N => k_types
    case ul => (try rw [List.length_append, List.length_singleton]); omega
    case F => k_asm
    case I => rw [addU, if_pos hm9]; exact hU
  · rename ¬ k ∈ uns => hm9
    simp only [List.push_toArray] at *
    refine' h _ _ _ _ ?I ?ul ?F ?N
    case N => k_types
    case ul => (try rw [List.length_append, List.length_singleton]); omega
    case F => k_asm
    case I => rw [addU, if_neg hm9]; exact IntsAre.append hU (IntsAre.cons _ _ IntsAre.nil)
theorem addU_mem (l : List Int) (k : Int) : k ∈ addU l k := by unfold addU; split <;> simp_all
theorem addU_sub {l : List Int} {k q : Int} (h : q ∈ l) : q ∈ addU l k := by unfold addU; split <;> simp_all
theorem addU_len (l : List Int) (k : Int) : (addU l k).length ≤ l.length + 1 := by unfold addU; split <;> simp
end
end
section
local macro_rules | `(tactic| walk_at "call ref") => `(tactic| (k_here; k_dflt (refine' c_use (by k_units) (by k_asm) (by (refine' News.picks (xs := [_, _, _]) (by k_asm) (by k_memK))) (by k_room) (by omega) (by omega) (by k_all) (by k_all) (by k_asm) (by k_asm) ?_); intro h' tk' uvs' nu' hU' hul' F' N'; (try k_sweep)))
section
variable {w : World} {A₀ : Around} {base h₀ : Heap} {env : Env} {outer : List Env} {dp un : Nat} {gs : Option (List Code)} {L : Addr} {m mg mb : Str → Option Value} {mean : ExcName → Option Value} {news post : List (Addr × Obj)} {sh : Heap} {sg : Array GenState} {sd : Drawn} {tk₀ : Nat} {so : OsState} {Q : Value → Shared → Prop} {E : Value → Shared → Prop}
  {xu du kn us td tr : Nat} {lim cur rp : Int} {k1 k2 k3 k4 k5 k6 k7 k8 t1 t3 t5 : Tok} {oK oT : Obj} {kvs tvs : List (Int × Value)} {uvs rvs : List Value} {uns rns : List Int} {nu nr : Nat}
theorem c_retire {k : Int} {tk : Tok} (C : Cx w A₀ base h₀ env outer L mg mb mean) (F : Fr h₀ L sh m) (N : News h₀ L sh ((du, remD w kn us td tr lim cur rp k1 k2 k3 k4 k5 k6 k7 k8 t1 t3 t5) :: (xu, instObj 190 du) :: (kn, oK) :: (us, W.listOf uvs.toArray nu) :: (tr, W.listOf rvs.toArray nr) :: post)) (hdep : dp < 480)
  (l1 : du < xu) (l2 : xu < kn) (l3 : kn < us) (l4 : us < tr) (p1 : ∀ p ∈ post, p.1 ≠ du) (p2 : ∀ p ∈ post, p.1 ≠ kn) (p3 : ∀ p ∈ post, p.1 ≠ us) (p4 : ∀ p ∈ post, p.1 ≠ tr)
  (hU : IntsAre uvs uns) (hul : uvs.length ≤ 1000) (hR : IntsAre rvs rns) (hrl : rvs.length ≤ 1000) (hK : oK.IsDictOf (PySem.intKind PySem.Challenge.rw_sj0110_01.row.prog w) kvs) (hkl : kvs.length ≤ 1000) (hlo : (kn == sysModules) = false) (hk : k ∈ kvs.map (·.1))
  (h : ∀ h' tk' oK' cur' t3' uvs' uns' nu' rvs' nr', oK'.IsDictOf (PySem.intKind PySem.Challenge.rw_sj0110_01.row.prog w) (kvs.filter fun p => !decide (p.1 = k)) → IntsAre uvs' uns' → uns'.length ≤ uns.length + 1 → IntsAre rvs' (rns ++ [k]) → (cur ∈ uns → cur' ∈ uns') →
    (cur ∈ kvs.map (·.1) → (kvs.filter fun p => !decide (p.1 = k)) ≠ [] → cur' ∈ (kvs.filter fun p => !decide (p.1 = k)).map (·.1)) → (k ≠ cur → cur' = cur ∧ uns' = uns) → Fr h₀ L h' m →
    News h₀ L h' ((du, remD w kn us td tr lim cur' rp k1 k2 k3 k4 k5 k6 k7 k8 t1 t3' t5) :: (xu, instObj 190 du) :: (kn, oK') :: (us, W.listOf uvs'.toArray nu') :: (tr, W.listOf rvs'.toArray nr') :: post) → Q .none ⟨h', sg, sd, tk', so⟩) :
  wpAny (model PySem.Challenge.rw_sj0110_01.row.prog w) (⟨none, dp, some (env :: outer), gs, un⟩ : Around) (call (.ref 149) [.ref xu, .int k tk] []) Q E ⟨sh, sg, sd, tk₀, so⟩ := by
  obtain ⟨B, X, T, hf, hke⟩ := C
  w_top off
  k_go0
  refine wpAny_call ?_
  open_k with [(("self" : Str), Value.ref xu), (("number" : Str), .int k tk)]
  have hfl9 := List.length_filter_le (fun p : Int × Value => !decide (p.1 = k)) kvs
  k_steps
  all_goals simp only [List.push_toArray] at *
  · rename k = cur => hc9
    rename _ ∈ List.map _ (List.filter _ kvs) => hn9
    refine' h _ _ _ _ _ _ _ _ _ _ ?K ?I ?len ?R ?c1 ?c2 ?c3 ?F ?N
    case N => k_types
    case F => k_asm
    case K => k_asm
    case I => k_asm
    case R => exact IntsAre.append hR (IntsAre.cons _ _ IntsAre.nil)
    case len => exact addU_len _ _
    case c1 => exact fun _ => addU_mem _ _
    case c2 => exact fun _ _ => hn9
    case c3 => exact fun q => absurd hc9 q
  · rename k = cur => hc9
    refine' h _ _ _ _ _ _ _ _ _ _ ?K ?I ?len ?R ?c1 ?c2 ?c3 ?F ?N
    case N => k_types
    case F => k_asm
    case K => k_asm
    case I => exact hU
    case R => exact IntsAre.append hR (IntsAre.cons _ _ IntsAre.nil)
    case len => omega
    case c1 => exact fun q => q
    case c2 =>
      intro _ q
      have := List.length_pos_iff.mpr q
      simp only [List.length_map] at *
      omega
    case c3 => exact fun q => absurd hc9 q
  · rename ¬ k = cur => hc9
    refine' h _ _ _ _ _ _ _ _ _ _ ?K ?I ?len ?R ?c1 ?c2 ?c3 ?F ?N
    case N => k_types
    case F => k_asm
    case K => k_asm
    case I => exact hU
    case R => exact IntsAre.append hR (IntsAre.cons _ _ IntsAre.nil)
    case len => omega
    case c1 => exact fun q => q
    case c2 =>
      intro q _
      obtain ⟨p, hp, rfl⟩ := List.mem_map.mp q
      exact List.mem_map.mpr ⟨p, List.mem_filter.mpr ⟨hp, by simpa using Ne.symm hc9⟩, rfl⟩
    case c3 => exact fun _ => ⟨rfl, rfl⟩
end
end
section
local macro_rules | `(tactic| walk_at "no such key") => `(tactic| skip)
local macro_rules | `(tactic| walk_at "call ref") => `(tactic| (k_here; k_dflt (refine' c_retire (by k_units) (by k_asm) (by (refine' News.picks (xs := [_, _, _, _, _]) (by k_asm) (by k_memK))) (by k_room) (by omega) (by omega) (by omega) (by omega) (by k_all) (by k_all) (by k_all) (by k_all) (by k_asm) (by k_asm) (by k_asm) (by k_asm) (by k_asm) (by k_asm) (by k_asm) (by k_asm) ?_); intro h' tk' oK' cur' t3' uvs' uns' nu' rvs' nr' hK' hU' hul' hR' hc1' hc2' hc3' F' N'; (try k_sweep)))
section
variable {w : World} {A₀ : Around} {base h₀ : Heap} {env : Env} {outer : List Env} {dp un : Nat} {gs : Option (List Code)} {L : Addr} {m mg mb : Str → Option Value} {mean : ExcName → Option Value} {news post : List (Addr × Obj)} {sh : Heap} {sg : Array GenState} {sd : Drawn} {tk₀ : Nat} {so : OsState} {Q : Value → Shared → Prop} {E : Value → Shared → Prop}
  {xu du kn us td tr : Nat} {lim cur rp : Int} {k1 k2 k3 k4 k5 k6 k7 k8 t1 t3 t5 : Tok} {oK oT : Obj} {kvs tvs : List (Int × Value)} {uvs rvs : List Value} {uns rns : List Int} {nu nr : Nat}
/-- what is left of the known ids when so many of the sorted numbers have been looked at -/
abbrev leftK (mx : Int) (done : List Int) (kvs : List (Int × Value)) : List (Int × Value) := kvs.filter fun p => !(decide (p.1 < mx) && decide (p.1 ∈ done))
theorem leftK_nil (mx : Int) (kvs : List (Int × Value)) : leftK mx [] kvs = kvs := by simp [leftK]
theorem leftK_skip {mx k : Int} {done : List Int} {kvs : List (Int × Value)} (h : ¬ k < mx) : leftK mx (done ++ [k]) kvs = leftK mx done kvs := by
  refine List.filter_congr fun p _ => ?_
  by_cases hp : p.1 < mx
  · have : p.1 ≠ k := fun q => h (q ▸ hp)
    simp [this]
  · simp [hp]
theorem leftK_take {mx k : Int} {done : List Int} {kvs : List (Int × Value)} (h : k < mx) : (leftK mx done kvs).filter (fun p => !decide (p.1 = k)) = leftK mx (done ++ [k]) kvs := by
  rw [List.filter_filter]
  refine List.filter_congr fun p _ => ?_
  by_cases hp : p.1 = k
  · subst hp; simp [h]
  · simp [hp]
theorem leftK_all {mx : Int} {done : List Int} {kvs : List (Int × Value)} (h : ∀ k ∈ kvs.map (·.1), k ∈ done) : leftK mx done kvs = kvs.filter fun p => decide (mx ≤ p.1) := by
  refine List.filter_congr fun p hp => ?_
  have : p.1 ∈ done := h _ (List.mem_map.mpr ⟨p, hp, rfl⟩)
  by_cases hq : p.1 < mx
  · simp [hq, this, Int.not_le.mpr hq]
  · simp [hq, Int.not_lt.mp hq]
theorem leftK_in {mx k : Int} {done : List Int} {kvs : List (Int × Value)} (h : k ∈ kvs.map (·.1)) (hn : k ∉ done ∨ ¬ k < mx) : k ∈ (leftK mx done kvs).map (·.1) := by
  obtain ⟨p, hp, rfl⟩ := List.mem_map.mp h
  refine List.mem_map.mpr ⟨p, List.mem_filter.mpr ⟨hp, ?_⟩, rfl⟩
  rcases hn with q | q <;> simp [q]
theorem not_take {ns : List Int} {i : Nat} {n : Int} (hd : ns.Nodup) (h : ns[i]? = some n) : n ∉ ns.take i := fun q => by
  have e := (List.take_append_drop i ns).symm
  rw [e] at hd
  have hm : n ∈ ns.drop i := List.mem_of_getElem? (i := 0) (by rw [List.getElem?_drop]; simpa using h)
  exact (List.nodup_append.mp hd).2.2 n q n hm rfl
theorem c_below {pr : Int} {tp : Tok} (C : Cx w A₀ base h₀ env outer L mg mb mean) (F : Fr h₀ L sh m) (N : News h₀ L sh ((du, remD w kn us td tr lim cur rp k1 k2 k3 k4 k5 k6 k7 k8 t1 t3 t5) :: (xu, instObj 190 du) :: (kn, oK) :: (us, W.listOf uvs.toArray nu) :: (tr, W.listOf rvs.toArray nr) :: post)) (hdep : dp < 470)
  (l1 : du < xu) (l2 : xu < kn) (l3 : kn < us) (l4 : us < tr) (p1 : ∀ p ∈ post, p.1 ≠ du) (p2 : ∀ p ∈ post, p.1 ≠ kn) (p3 : ∀ p ∈ post, p.1 ≠ us) (p4 : ∀ p ∈ post, p.1 ≠ tr)
  (hU : IntsAre uvs uns) (hul : uns.length ≤ 500) (hR : IntsAre rvs rns) (hrl : rns.length ≤ 500) (hK : oK.IsDictOf (PySem.intKind PySem.Challenge.rw_sj0110_01.row.prog w) kvs) (hkl : kvs.length < 64) (hlo : (kn == sysModules) = false)
  (hcu : cur ∈ uns) (hck : cur ∈ kvs.map (·.1)) (hex : ∃ q ∈ kvs.map (·.1), max rp pr ≤ q)
  (h : ∀ h' tk' oK' cur' t3' t5' uvs' uns' nu' rvs' (ns : List Int) nr', oK'.IsDictOf (PySem.intKind PySem.Challenge.rw_sj0110_01.row.prog w) (kvs.filter fun p => decide (max rp pr ≤ p.1)) → IntsAre uvs' uns' → uns'.length ≤ uns.length + kvs.length → ns.Perm (kvs.map (·.1)) → IntsAre rvs' (rns ++ ns.filter fun k => decide (k < max rp pr)) → cur' ∈ uns' →
    cur' ∈ (kvs.filter fun p => decide (max rp pr ≤ p.1)).map (·.1) → Fr h₀ L h' m →
    News h₀ L h' ((du, remD w kn us td tr lim cur' (max rp pr) k1 k2 k3 k4 k5 k6 k7 k8 t1 t3' t5') :: (xu, instObj 190 du) :: (kn, oK') :: (us, W.listOf uvs'.toArray nu') :: (tr, W.listOf rvs'.toArray nr') :: post) → Q .none ⟨h', sg, sd, tk', so⟩) :
  wpAny (model PySem.Challenge.rw_sj0110_01.row.prog w) (⟨none, dp, some (env :: outer), gs, un⟩ : Around) (call (.ref 142) [.ref xu, .int pr tp] []) Q E ⟨sh, sg, sd, tk₀, so⟩ := by
  obtain ⟨B, X, T, hf, hke⟩ := C
  w_top off
  k_go0
  refine wpAny_call ?_
  open_k with [(("self" : Str), Value.ref xu), (("prior" : Str), .int pr tp)]
  k_steps
  rename List.Perm _ _ => hp9
  rename_i ns9 _ _ _ _ _ _
  simp only [show (if rp < pr then pr else rp) = max rp pr from by omega] at *
  have hnd9 : (kvs.map (·.1)).Nodup := by obtain ⟨_, _, _, _, _, _, hnd⟩ := hK; exact hnd
  have hns9 : ns9.Nodup := hp9.nodup_iff.mpr hnd9
  refine' ⟨_, _, _, _, fun i news₁ => ∃ (oK' : Obj) (cur' : Int) (t3' t5' : Tok) (uvs' : List Value) (uns' : List Int) (nu' : Nat) (rvs' : List Value) (nr' : Nat), news₁ = (du, remD w kn us td tr lim cur' (max rp pr) k1 k2 k3 k4 k5 k6 k7 k8 t1 t3' t5') :: (xu, instObj 190 du) :: (kn, oK') :: (us, W.listOf uvs'.toArray nu') :: (tr, W.listOf rvs'.toArray nr') :: post ∧ oK'.IsDictOf (PySem.intKind PySem.Challenge.rw_sj0110_01.row.prog w) (leftK (max rp pr) (ns9.take i) kvs) ∧ IntsAre uvs' uns' ∧ uns'.length ≤ uns.length + i ∧ IntsAre rvs' (rns ++ (ns9.take i).filter fun k => decide (k < max rp pr)) ∧ cur' ∈ uns' ∧ cur' ∈ (leftK (max rp pr) (ns9.take i) kvs).map (·.1), rfl, rfl, ?F, ?N, ?J, ?turn, ?done⟩
  case F => k_asm
  case N => k_asm
  case J => exact ⟨_, _, _, _, _, _, _, _, _, rfl, by rw [List.take_zero, leftK_nil]; exact hK, hU, by omega, by simpa using hR, hcu, by rw [List.take_zero, leftK_nil]; exact hck⟩
  case turn =>
    intro i I' I own news₁ h9 tk9 hv9 hJ9 hown9 hoff9 hlt9 hax9 F' N'
    obtain ⟨oK9, cur9, t39, t59, uvs9, uns9, nu9, rvs9, nr9, rfl, hK9, hU9, hul9, hR9, hc9, hck9⟩ := hJ9
    rename IntsAre _ ns9 => hI9
    obtain ⟨n9, tn9, rfl, hn9⟩ := IntsAre.at hI9 i _ (by simpa using hv9)
    simp only [List.forall_mem_cons] at hlt9 hoff9
    rename _ < _ ∧ _ < _ ∧ _ < _ ∧ _ < _ ∧ _ < _ ∧ AllLt _ _ => hl9
    obtain ⟨m1, m2, m3, m4, m5, _⟩ := hl9
    replace m1 := ltN m1
    replace m3 := ltN m3
    replace m4 := ltN m4
    replace m5 := ltN m5
    have hq9 : ∀ p ∈ own, p.1 ≠ du ∧ p.1 ≠ kn ∧ p.1 ≠ us ∧ p.1 ≠ tr := fun p hp => by
      rcases hown9 p hp with q | q <;> rw [q] <;> refine ⟨neN ?_, neN ?_, neN ?_, neN ?_⟩ <;> omega
    have q1 : ∀ p ∈ post ++ own, p.1 ≠ du := fun p hp => (List.mem_append.mp hp).elim (p1 p) fun q => (hq9 p q).1
    have q2 : ∀ p ∈ post ++ own, p.1 ≠ kn := fun p hp => (List.mem_append.mp hp).elim (p2 p) fun q => (hq9 p q).2.1
    have q3 : ∀ p ∈ post ++ own, p.1 ≠ us := fun p hp => (List.mem_append.mp hp).elim (p3 p) fun q => (hq9 p q).2.2.1
    have q4 : ∀ p ∈ post ++ own, p.1 ≠ tr := fun p hp => (List.mem_append.mp hp).elim (p4 p) fun q => (hq9 p q).2.2.2
    have hi9 : i < ns9.length := by
      have := List.getElem?_eq_some_iff.mp hn9
      exact this.1
    have hlen9 : ns9.length = kvs.length := by rw [hp9.length_eq, List.length_map]
    have hul8 : uvs9.length ≤ 1000 := by have := hU9.length; omega
    have hrl8 : rvs9.length ≤ 1000 := by
      have e1 := hR9.length
      have e2 := List.length_filter_le (fun k => decide (k < max rp pr)) (ns9.take i)
      rw [List.length_append] at e1
      rw [List.length_take] at e2
      omega
    have hkl8 : (leftK (max rp pr) (ns9.take i) kvs).length ≤ 1000 := by
      have : (leftK (max rp pr) (ns9.take i) kvs).length ≤ kvs.length := List.length_filter_le _ _
      omega
    have hnk9 : n9 ∈ kvs.map (·.1) := hp9.mem_iff.mp (List.mem_of_getElem? hn9)
    have hni9 : n9 ∉ ns9.take i := not_take hns9 hn9
    have hk8 : n9 ∈ (leftK (max rp pr) (ns9.take i) kvs).map (·.1) := leftK_in hnk9 (.inl hni9)
    have htk9 : ns9.take (i + 1) = ns9.take i ++ [n9] := by rw [List.take_add_one, hn9]; rfl
    have hne9 : leftK (max rp pr) (ns9.take (i + 1)) kvs ≠ [] := fun q => by
      obtain ⟨q0, hq0, hq1⟩ := hex
      have := leftK_in (mx := max rp pr) (done := ns9.take (i + 1)) hq0 (.inr (by omega))
      rw [q] at this
      simp at this
    dsimp only [List.cons_append] at N' ⊢
    k_steps
    all_goals dsimp only [TurnEndL]
    · rename n9 < max rp pr => hlt8
      rw [htk9] at hne9 ⊢
      refine' ⟨_, _, _, _ :: _ :: _ :: _ :: _ :: post, rfl, ?F, ?y, ?N, ?I, _, _, _, _, _, _, _, _, _, rfl, ?K, ?U, ?ul, ?R, ?c, ?ck⟩
      case N => k_asm
      case F => k_asm
      case y => exact fun y hy => by simp [hy]
      case I => simp only [List.forall_mem_cons]; exact hoff9
      case K => rw [← leftK_take hlt8]; k_asm
      case U => k_asm
      case ul => omega
      case R => rw [List.filter_append, show List.filter (fun k => decide (k < max rp pr)) [n9] = [n9] from by simp [hlt8], ← List.append_assoc]; k_asm
      case c => rename cur9 ∈ uns9 → _ => hz; exact hz hc9
      case ck =>
        rename cur9 ∈ List.map _ _ → _ => hz
        rw [← leftK_take hlt8] at hne9 ⊢
        exact hz hck9 hne9
    · rename ¬ n9 < max rp pr => hlt8
      rw [htk9, leftK_skip hlt8]
      refine' ⟨_, _, _, _ :: _ :: _ :: _ :: _ :: post, rfl, ?F, ?y, ?N, ?I, _, _, _, _, _, _, _, _, _, rfl, hK9, hU9, ?ul, ?R, hc9, hck9⟩
      case N => k_asm
      case F => k_asm
      case y => exact fun y hy => by simp [hy]
      case I => simp only [List.forall_mem_cons]; exact hoff9
      case ul => omega
      case R => rw [List.filter_append, show List.filter (fun k => decide (k < max rp pr)) [n9] = [] from by simp [hlt8], List.append_nil]; exact hR9
  case done =>
    intro u9 h9 tk9 news₁ hJ9 F' N'
    obtain ⟨oK9, cur9, t39, t59, uvs9, uns9, nu9, rvs9, nr9, rfl, hK9, hU9, hul9, hR9, hc9, hck9⟩ := hJ9
    rename IntsAre _ ns9 => hI9
    have hlen9 : ns9.length = kvs.length := by rw [hp9.length_eq, List.length_map]
    have hsz9 := hI9.length
    rw [List.take_of_length_le (by simp only [List.size_toArray]; omega)] at hK9 hR9 hck9
    rw [leftK_all (fun k hk => hp9.mem_iff.mpr hk)] at hK9 hck9
    simp only [List.size_toArray] at hul9
    k_steps
    refine' h _ _ _ _ _ _ _ _ _ _ _ _ hK9 hU9 ?ul hp9 hR9 hc9 hck9 ?F ?N
    case N => k_types
    case F => k_asm
    case ul => omega
end
end
section
section
variable {w : World} {A₀ : Around} {base h₀ : Heap} {env : Env} {outer : List Env} {dp un : Nat} {gs : Option (List Code)} {L : Addr} {m mg mb : Str → Option Value} {mean : ExcName → Option Value} {news post : List (Addr × Obj)} {sh : Heap} {sg : Array GenState} {sd : Drawn} {tk₀ : Nat} {so : OsState} {Q : Value → Shared → Prop} {E : Value → Shared → Prop}
  {xu du kn us td tr : Nat} {lim cur rp : Int} {k1 k2 k3 k4 k5 k6 k7 k8 t1 t3 t5 : Tok} {oK oT : Obj} {kvs tvs : List (Int × Value)} {uvs rvs : List Value} {uns rns : List Int} {nu nr : Nat}
theorem c_present {c : Array UInt8} (C : Cx w A₀ base h₀ env outer L mg mb mean) (F : Fr h₀ L sh m) (N : News h₀ L sh news) (hdep : dp < 490)
  (h1 : (xu, instObj 190 du) ∈ news) (h2 : (du, remD w kn us td tr lim cur rp k1 k2 k3 k4 k5 k6 k7 k8 t1 t3 t5) ∈ news) (h3 : (kn, oK) ∈ news) (hK : oK.IsDictOf (PySem.intKind PySem.Challenge.rw_sj0110_01.row.prog w) kvs) (hlo : (kn == sysModules) = false) (hk : cur ∈ kvs.map (·.1))
  (hv : ∀ v, (cur, v) ∈ kvs → PairAt news v c)
  (h : ∀ h' tk t, Fr h₀ L h' m → News h₀ L h' news → Q (.bytes c t) ⟨h', sg, sd, tk, so⟩) :
  wpAny (model PySem.Challenge.rw_sj0110_01.row.prog w) (⟨none, dp, some (env :: outer), gs, un⟩ : Around) (call (.ref 163) [.ref xu] []) Q E ⟨sh, sg, sd, tk₀, so⟩ := by
  obtain ⟨B, X, T, hf, hke⟩ := C
  w_top off
  k_go0
  refine wpAny_call ?_
  open_k with [(("self" : Str), Value.ref xu)]
  k_steps
  rename_i v9 hv9
  obtain ⟨a9, u9, tv9, e9, rfl, hm9⟩ := hv _ hv9
  k_steps
  refine' h _ _ _ ?F ?N
  case N => k_types
  case F => k_asm
theorem getD_fresh {uns l : List Int} (h : 0 < (l.filter fun k => !decide (k ∈ uns)).length) : (l.filter fun k => !decide (k ∈ uns)).getD (Int.toNat 0) 0 ∈ l ∧ (l.filter fun k => !decide (k ∈ uns)).getD (Int.toNat 0) 0 ∉ uns := by
  have e : (l.filter fun k => !decide (k ∈ uns)).getD (Int.toNat 0) 0 ∈ l.filter fun k => !decide (k ∈ uns) := by
    rw [List.getD_eq_getElem?_getD, show Int.toNat 0 = 0 from rfl, List.getElem?_eq_getElem h, Option.getD_some]
    exact List.getElem_mem h
  have := List.mem_filter.mp e
  exact ⟨this.1, by simpa using this.2⟩
/-- the numbers of the known ids that were not used -/
theorem c_fresh (C : Cx w A₀ base h₀ env outer L mg mb mean) (F : Fr h₀ L sh m) (N : News h₀ L sh news) (hdep : dp < 490)
  (h1 : (xu, instObj 190 du) ∈ news) (h2 : (du, remD w kn us td tr lim cur rp k1 k2 k3 k4 k5 k6 k7 k8 t1 t3 t5) ∈ news) (h3 : (kn, oK) ∈ news) (h4 : (us, W.listOf uvs.toArray nu) ∈ news) (hK : oK.IsDictOf (PySem.intKind PySem.Challenge.rw_sj0110_01.row.prog w) kvs) (hkl : kvs.length < 64) (hlo : (kn == sysModules) = false) (hU : IntsAre uvs uns)
  (hyes : ∀ h' tk n t, n ∈ kvs.map (·.1) → n ∉ uns → Fr h₀ L h' m → News h₀ L h' news → Q (.int n t) ⟨h', sg, sd, tk, so⟩)
  (hno : ∀ h' tk, Fr h₀ L h' m → News h₀ L h' news → Q .none ⟨h', sg, sd, tk, so⟩) :
  wpAny (model PySem.Challenge.rw_sj0110_01.row.prog w) (⟨none, dp, some (env :: outer), gs, un⟩ : Around) (call (.ref 168) [.ref xu] []) Q E ⟨sh, sg, sd, tk₀, so⟩ := by
  obtain ⟨B, X, T, hf, hke⟩ := C
  w_top off
  k_go0
  refine wpAny_call ?_
  open_k with [(("self" : Str), Value.ref xu)]
  k_steps
  rename IntsAre _ _ => hI9
  rename List.Perm _ _ => hp9
  have hlen9 := hp9.length_eq
  have hsz9 := hI9.length
  rw [List.length_map] at hlen9
  refine LCt.CompSrcT.ledger (by rfl) (by k_asm) (by k_asm) List.mem_cons_self (by rw [List.size_toArray, sizeLine_eq]; omega) ?_
  intro g9
  dsimp only
  refine restL_filter (fun k => !decide (k ∈ uns)) hI9 (by rw [List.size_toArray]; exact hsz9) (.inr ⟨_, List.mem_cons_self, rfl, _, rfl⟩) ?test ⟨rfl, rfl, rfl, by decide⟩ ?fin
  case test =>
    intro k9 t9 I9 oI9 C9 oC9 D9 oD9 m9 h9 tk9 E9 hk9 hC9 hx9 F' N'
    k_steps
    exact TestEnd.intro rfl (by k_asm) (by k_asm) (fun _ h => h)
  case fin =>
    intro ys9 hy9 D9 h9 tk9 F' N' _
    replace N' : News _ _ h9 ((D9, W.listOf ys9.toArray ys9.length) :: _) := N'
    have hl9 := hy9.length
    have hl7 : ys9.toArray.size = ys9.length := List.size_toArray
    have hl8 := List.length_filter_le (fun k => !decide (k ∈ uns)) (by assumption : List Int)
    dsimp only
    k_steps
    · refine' hyes _ _ _ _ ?a ?b ?F ?N
      case N => k_types
      case F => k_asm
      case a =>
        refine hp9.mem_iff.mp (And.left (getD_fresh ?_))
        omega
      case b =>
        refine And.right (getD_fresh ?_)
        omega
    · refine' hno _ _ ?F ?N
      case N => k_types
      case F => k_asm
end
end
section
local macro_rules | `(tactic| walk_at "call ref") => `(tactic| (k_here; k_dflt (refine' c_use (by k_units) (by k_asm) (by (refine' News.picks (xs := [_, _, _]) (by k_asm) (by k_memK))) (by k_room) (by omega) (by omega) (by k_all) (by k_all) (by k_asm) (by (first | k_asm | omega | (simp only [List.length_append, List.length_singleton, List.length_map]; omega))) ?_; k_whole); intro h' tk' uvs' nu' hU' hul' F' N'; (try k_sweep)))
local macro_rules | `(tactic| walk_at "call ref") => `(tactic| (k_here; k_dflt (refine' c_retire (by k_units) (by k_asm) (by (refine' News.picks (xs := [_, _, _, _, _]) (by k_asm) (by k_memK))) (by k_room) (by omega) (by omega) (by omega) (by omega) (by k_all) (by k_all) (by k_all) (by k_all) (by k_asm) (by (first | k_asm | omega | (simp only [List.length_append, List.length_singleton, List.length_map]; omega))) (by k_asm) (by (first | k_asm | omega | (simp only [List.length_append, List.length_singleton, List.length_map]; omega))) (by k_asm) (by (first | k_asm | omega | (simp only [List.length_append, List.length_singleton, List.length_map]; omega))) (by k_asm) (by k_asm) ?_; k_whole); intro h' tk' oK' cur' t3' uvs' uns' nu' rvs' nr' hK' hU' hul' hR' hc1' hc2' hc3' F' N'; (try k_sweep)))
local macro_rules | `(tactic| walk_at "call ref") => `(tactic| (k_here; k_dflt (refine' c_fresh (by k_units) (by k_asm) (by k_asm) (by k_room) (by k_mem) (by k_mem) (by k_mem) (by k_mem) (by k_asm) (by k_asm) (by k_asm) (by k_asm) ?_ ?_); all_goals (intros; (try k_sweep))))
section
variable {w : World} {A₀ : Around} {base h₀ : Heap} {env : Env} {outer : List Env} {dp un : Nat} {gs : Option (List Code)} {L : Addr} {m mg mb : Str → Option Value} {mean : ExcName → Option Value} {news post : List (Addr × Obj)} {sh : Heap} {sg : Array GenState} {sd : Drawn} {tk₀ : Nat} {so : OsState} {Q : Value → Shared → Prop} {E : Value → Shared → Prop}
  {xu du kn us td tr : Nat} {lim cur rp : Int} {k1 k2 k3 k4 k5 k6 k7 k8 t1 t3 t5 : Tok} {oK oT : Obj} {kvs tvs : List (Int × Value)} {uvs rvs : List Value} {uns rns : List Int} {nu nr : Nat}
theorem c_change (C : Cx w A₀ base h₀ env outer L mg mb mean) (F : Fr h₀ L sh m) (N : News h₀ L sh ((du, remD w kn us td tr lim cur rp k1 k2 k3 k4 k5 k6 k7 k8 t1 t3 t5) :: (xu, instObj 190 du) :: (kn, oK) :: (us, W.listOf uvs.toArray nu) :: (tr, W.listOf rvs.toArray nr) :: post)) (hdep : dp < 470)
  (l1 : du < xu) (l2 : xu < kn) (l3 : kn < us) (l4 : us < tr) (p1 : ∀ p ∈ post, p.1 ≠ du) (p2 : ∀ p ∈ post, p.1 ≠ kn) (p3 : ∀ p ∈ post, p.1 ≠ us) (p4 : ∀ p ∈ post, p.1 ≠ tr)
  (hU : IntsAre uvs uns) (hul : uns.length ≤ 500) (hR : IntsAre rvs rns) (hrl : rns.length ≤ 500) (hK : oK.IsDictOf (PySem.intKind PySem.Challenge.rw_sj0110_01.row.prog w) kvs) (hkl : kvs.length < 64) (hlo : (kn == sysModules) = false)
  (hcu : cur ∈ uns) (hck : cur ∈ kvs.map (·.1))
  (h : ∀ h' tk' b oK' cur' t3' uvs' uns' nu' rvs' rns' nr' kvs', oK'.IsDictOf (PySem.intKind PySem.Challenge.rw_sj0110_01.row.prog w) kvs' → IntsAre uvs' uns' → uns'.length ≤ uns.length + 2 → IntsAre rvs' rns' → ((kvs' = kvs ∧ rns' = rns) ∨ (kvs' = kvs.filter (fun p => !decide (p.1 = cur)) ∧ rns' = rns ++ [cur])) → cur' ∈ uns' →
    cur' ∈ kvs'.map (·.1) → Fr h₀ L h' m →
    News h₀ L h' ((du, remD w kn us td tr lim cur' rp k1 k2 k3 k4 k5 k6 k7 k8 t1 t3' t5) :: (xu, instObj 190 du) :: (kn, oK') :: (us, W.listOf uvs'.toArray nu') :: (tr, W.listOf rvs'.toArray nr') :: post) → Q (.bool b) ⟨h', sg, sd, tk', so⟩) :
  wpAny (model PySem.Challenge.rw_sj0110_01.row.prog w) (⟨none, dp, some (env :: outer), gs, un⟩ : Around) (call (.ref 175) [.ref xu] []) Q E ⟨sh, sg, sd, tk₀, so⟩ := by
  obtain ⟨B, X, T, hf, hke⟩ := C
  w_top off
  k_go0
  refine wpAny_call ?_
  open_k with [(("self" : Str), Value.ref xu)]
  have hul8 : uvs.length ≤ 501 := by have := hU.length; omega
  have hrl8 : rvs.length ≤ 501 := by have := hR.length; omega
  k_steps
  · rename ¬ _ ∈ uns => hn2
    rename _ ∈ List.map _ kvs => hn1
    rename cur ≠ _ → _ => hz3
    have hne9 := fun q => hn2 (Eq.subst (motive := fun z => z ∈ uns) q hcu)
    obtain ⟨rfl, rfl⟩ := hz3 hne9
    refine' h _ _ _ _ _ _ _ _ _ _ _ _ _ ?K ?U ?ul ?R (.inr ⟨rfl, rfl⟩) ?c ?ck ?F ?N
    case N => k_types
    case F => k_asm
    case K => k_asm
    case U => k_asm
    case R => k_asm
    case ul => exact Nat.le_succ_of_le (addU_len uns _)
    case c => exact addU_mem _ _
    case ck =>
      obtain ⟨p, hp, e⟩ := List.mem_map.mp hn1
      exact List.mem_map.mpr ⟨p, List.mem_filter.mpr ⟨hp, by rw [e]; simpa using fun q => hne9 (Eq.symm q)⟩, e⟩
  · refine' h _ _ _ _ _ _ _ _ _ _ _ _ _ ?K ?U ?ul ?R (.inl ⟨rfl, rfl⟩) hcu hck ?F ?N
    case N => k_types
    case F => k_asm
    case K => exact hK
    case U => exact hU
    case R => exact hR
    case ul => omega
end
end
section
section
variable {w : World} {A₀ : Around} {base h₀ : Heap} {env : Env} {outer : List Env} {dp un : Nat} {gs : Option (List Code)} {L : Addr} {m mg mb : Str → Option Value} {mean : ExcName → Option Value} {news post : List (Addr × Obj)} {sh : Heap} {sg : Array GenState} {sd : Drawn} {tk₀ : Nat} {so : OsState} {Q : Value → Shared → Prop} {E : Value → Shared → Prop}
  {xu du kn us td tr : Nat} {lim cur rp : Int} {k1 k2 k3 k4 k5 k6 k7 k8 t1 t3 t5 : Tok} {oK oT : Obj} {kvs tvs : List (Int × Value)} {uvs rvs : List Value} {uns rns : List Int} {nu nr : Nat}
theorem c_frames (C : Cx w A₀ base h₀ env outer L mg mb mean) (F : Fr h₀ L sh m) (N : News h₀ L sh ((du, remD w kn us td tr lim cur rp k1 k2 k3 k4 k5 k6 k7 k8 t1 t3 t5) :: (xu, instObj 190 du) :: (tr, W.listOf rvs.toArray nr) :: post)) (hdep : dp < 480)
  (l1 : du < xu) (l4 : xu < tr) (p1 : ∀ p ∈ post, p.1 ≠ du) (hR : IntsAre rvs rns) (hrl : rns.length ≤ 500)
  (h : ∀ h' tk' D c ys tups (tr' : Nat) nr', RetsAre tups ys rns → (∀ p ∈ tups, ∀ q ∈ ((du, remD w kn us td tr lim cur rp k1 k2 k3 k4 k5 k6 k7 k8 t1 t3 t5) :: (xu, instObj 190 du) :: (tr, W.listOf rvs.toArray nr) :: post), @LT.lt Nat _ q.1 p.1) → (∀ q ∈ ((du, remD w kn us td tr lim cur rp k1 k2 k3 k4 k5 k6 k7 k8 t1 t3 t5) :: (xu, instObj 190 du) :: (tr, W.listOf rvs.toArray nr) :: post), @LT.lt Nat _ q.1 tr') →
    (∀ p ∈ tups, @LT.lt Nat _ p.1 tr') → (∀ p ∈ tups, p.1 ≠ D) → @LT.lt Nat _ D tr' → (∀ q ∈ ((du, remD w kn us td tr lim cur rp k1 k2 k3 k4 k5 k6 k7 k8 t1 t3 t5) :: (xu, instObj 190 du) :: (tr, W.listOf rvs.toArray nr) :: post), q.1 ≠ D) → Fr h₀ L h' m →
    News h₀ L h' ((D, W.listOf ys.toArray c) :: (du, remD w kn us td tr' lim cur rp k1 k2 k3 k4 k5 k6 k7 k8 t1 t3 t5) :: (xu, instObj 190 du) :: (tr', W.listOf (#[] : Array Value) nr') :: (tups ++ post)) → Q (.ref D) ⟨h', sg, sd, tk', so⟩) :
  wpAny (model PySem.Challenge.rw_sj0110_01.row.prog w) (⟨none, dp, some (env :: outer), gs, un⟩ : Around) (call (.ref 180) [.ref xu] []) Q E ⟨sh, sg, sd, tk₀, so⟩ := by
  obtain ⟨B, X, T, hf, hke⟩ := C
  w_top off
  k_go0
  refine wpAny_call ?_
  open_k with [(("self" : Str), Value.ref xu)]
  k_steps
  have hl9 := hR.length
  refine LCg.CompSrc.ledger (by rfl) (by k_asm) (by k_asm) (List.mem_cons_of_mem _ (List.mem_cons_of_mem _ List.mem_cons_self)) (by rw [List.size_toArray, sizeLine_eq]; omega) ?_
  intro g9
  dsimp only
  refine restL_make (fun ys done nw => ∃ tups, nw = tups ++ ((du, remD w kn us td tr lim cur rp k1 k2 k3 k4 k5 k6 k7 k8 t1 t3 t5) :: (xu, instObj 190 du) :: (tr, W.listOf rvs.toArray nr) :: post) ∧ RetsAre tups ys done ∧ ∀ p ∈ tups, ∀ q ∈ ((du, remD w kn us td tr lim cur rp k1 k2 k3 k4 k5 k6 k7 k8 t1 t3 t5) :: (xu, instObj 190 du) :: (tr, W.listOf rvs.toArray nr) :: post), @LT.lt Nat _ q.1 p.1) hR (by rw [List.size_toArray]; exact hl9) ⟨[], rfl, .nil, fun _ h => nomatch h⟩ ?turn ?fin
  case turn =>
    rintro k9 t9 I9 oI9 C9 oC9 D9 oD9 m9 h9 tk9 ys9 done9 nw9 E9 hk9 ⟨tups9, rfl, hy9, ht9⟩ hC9 hx9 F' N' off9 ne9
    k_steps
    rename _ ∧ _ ∧ _ ∧ AllLt _ _ => hl8
    obtain ⟨a1, a2, a3, a4⟩ := hl8
    rename Addr => t8
    refine LCg.CompEnd.intro (by k_asm) (by k_asm) ((t8, tupE #[.str (Str.ofString "retire_connection_id") tk9, .int k9 t9] 0) :: (tups9 ++ ((du, remD w kn us td tr lim cur rp k1 k2 k3 k4 k5 k6 k7 k8 t1 t3 t5) :: (xu, instObj 190 du) :: (tr, W.listOf rvs.toArray nr) :: post))) ?_ ⟨⟨Ne.symm (Nat.ne_of_lt a1), Ne.symm (Nat.ne_of_lt a2), Ne.symm (Nat.ne_of_lt a3)⟩, off9⟩ (.inr ⟨W.listOf rvs.toArray nr, ?_, rfl, _, rfl⟩) ⟨_ :: tups9, rfl, ?_, ?_⟩
    · intro p hp
      simp only [List.mem_cons] at hp ⊢
      rcases hp with h | h | h | h | h
      · exact .inr (.inl h)
      · exact .inr (.inr (.inl h))
      · exact .inr (.inr (.inr (.inl h)))
      · exact .inl h
      · exact .inr (.inr (.inr (.inr h)))
    · exact List.mem_cons_of_mem _ (List.mem_append_right _ (List.mem_cons_of_mem _ (List.mem_cons_of_mem _ List.mem_cons_self)))
    · exact (hy9.mono fun p hp => List.mem_cons_of_mem _ hp).snoc List.mem_cons_self
    · intro p hp q hq
      rcases List.mem_cons.mp hp with rfl | hp
      · exact allLt_mem a4 q (List.mem_append_right _ hq)
      · exact ht9 p hp q hq
  case fin =>
    rintro ys9 nw9 ⟨tups9, rfl, hy9, ht9⟩ D9 h9 tk9 F' N' off9
    replace N' : News _ _ h9 ((D9, W.listOf ys9.toArray ys9.length) :: (du, remD w kn us td tr lim cur rp k1 k2 k3 k4 k5 k6 k7 k8 t1 t3 t5) :: (xu, instObj 190 du) :: (tr, W.listOf rvs.toArray nr) :: (tups9 ++ post)) := News.of N' (fun p hp => by
      simp only [List.mem_cons, List.mem_append] at hp ⊢
      rcases hp with h | h | h | h | h | h <;> simp only [h, true_or, or_true])
    have o1 := off1_mem off9
    have o2 : @Ne Nat du D9 := o1 (du, remD w kn us td tr lim cur rp k1 k2 k3 k4 k5 k6 k7 k8 t1 t3 t5) (List.mem_append_right _ List.mem_cons_self)
    have p1' : ∀ p ∈ tups9 ++ post, p.1 ≠ du := fun p hp => (List.mem_append.mp hp).elim (fun q => Ne.symm (Nat.ne_of_lt (ht9 p q (du, remD w kn us td tr lim cur rp k1 k2 k3 k4 k5 k6 k7 k8 t1 t3 t5) List.mem_cons_self))) (p1 p)
    k_steps
    rename _ ∧ _ ∧ _ ∧ _ ∧ AllLt _ _ => hl8
    obtain ⟨b1, b2, b3, b4, b5⟩ := hl8
    refine' h _ _ _ _ _ tups9 _ _ hy9 ht9 ?l ?u ?D b1 ?O ?F ?N
    case N => k_types
    case F => k_asm
    case l => exact List.forall_mem_cons.mpr ⟨b2, List.forall_mem_cons.mpr ⟨b3, List.forall_mem_cons.mpr ⟨b4, fun q hq => allLt_mem b5 q (List.mem_append_right _ hq)⟩⟩⟩
    case u => exact fun p hp => allLt_mem b5 p (List.mem_append_left _ hp)
    case D => exact fun p hp => o1 p (List.mem_append_left _ hp)
    case O => exact fun p hp => o1 p (List.mem_append_right _ hp)
end
end
section
local macro_rules | `(tactic| walk_at "no such key") => `(tactic| skip)
section
variable {w : World} {A₀ : Around} {base h₀ : Heap} {env : Env} {outer : List Env} {dp un : Nat} {gs : Option (List Code)} {L : Addr} {m mg mb : Str → Option Value} {mean : ExcName → Option Value} {news post : List (Addr × Obj)} {sh : Heap} {sg : Array GenState} {sd : Drawn} {tk₀ : Nat} {so : OsState} {Q : Value → Shared → Prop} {E : Value → Shared → Prop}
  {xu du kn us td tr : Nat} {lim cur rp : Int} {k1 k2 k3 k4 k5 k6 k7 k8 t1 t3 t5 : Tok} {oK oT : Obj} {kvs tvs : List (Int × Value)} {uvs rvs : List Value} {uns rns : List Int} {nu nr : Nat}
theorem c_check {k : Int} {tk : Tok} {cid tok : Array UInt8} {tc tt : Tok} (C : Cx w A₀ base h₀ env outer L mg mb mean) (F : Fr h₀ L sh m) (N : News h₀ L sh news) (hdep : dp < 480) (hun : un < 5000)
  (h1 : (xu, instObj 190 du) ∈ news) (h2 : (du, remD w kn us td tr lim cur rp k1 k2 k3 k4 k5 k6 k7 k8 t1 t3 t5) ∈ news) (h3 : (td, oT) ∈ news) (hT : oT.IsDictOf (PySem.intKind PySem.Challenge.rw_sj0110_01.row.prog w) tvs) (hlo : (td == sysModules) = false)
  (hsub : ∀ p ∈ post, p ∈ news) (hs' : ∀ v, (k, v) ∈ tvs → ∃ a e t u, v = .ref a ∧ (a, tupE #[.bytes cid t, .bytes tok u] e) ∈ post)
  (hd' : k ∉ tvs.map (·.1) → ∀ k' v, (k', v) ∈ tvs → ∃ a c t tv e, v = .ref a ∧ (a, tupE #[.bytes c t, tv] e) ∈ post ∧ c.toList ≠ cid.toList)
  (h : ∀ h' tk', Fr h₀ L h' m → News h₀ L h' news → Q (.bool (decide (k ∈ tvs.map (·.1)))) ⟨h', sg, sd, tk', so⟩) :
  wpAny (model PySem.Challenge.rw_sj0110_01.row.prog w) (⟨none, dp, some (env :: outer), gs, un⟩ : Around) (call (.ref 130) [.ref xu, .int k tk, .bytes cid tc, .bytes tok tt] []) Q E ⟨sh, sg, sd, tk₀, so⟩ := by
  have hs : ∀ v, (k, v) ∈ tvs → ∃ a e t u, v = .ref a ∧ (a, tupE #[.bytes cid t, .bytes tok u] e) ∈ news := fun v hv => by
    obtain ⟨a, e, t, u, h1, h2⟩ := hs' v hv
    exact ⟨a, e, t, u, h1, hsub _ h2⟩
  have hd : k ∉ tvs.map (·.1) → ∀ k' v, (k', v) ∈ tvs → ∃ a c t tv e, v = .ref a ∧ (a, tupE #[.bytes c t, tv] e) ∈ news ∧ c.toList ≠ cid.toList := fun hk k' v hv => by
    obtain ⟨a, c, t, tv, e, h1, h2, h3⟩ := hd' hk k' v hv
    exact ⟨a, c, t, tv, e, h1, hsub _ h2, h3⟩
  obtain ⟨B, X, T, hf, hke⟩ := C
  w_top off
  k_go0
  refine wpAny_call ?_
  open_k with [(("self" : Str), Value.ref xu), (("number" : Str), .int k tk), (("cid" : Str), .bytes cid tc), (("token" : Str), .bytes tok tt)]
  k_steps
  · with_reducible rename k ∈ List.map _ tvs => hk9
    with_reducible rename (k, _) ∈ tvs => hv9
    obtain ⟨a9, e9, t9, u9, rfl, hm9⟩ := hs _ hv9
    k_steps
    rw [show (true : Bool) = decide (k ∈ tvs.map (·.1)) from by simp [hk9]]
    refine' h _ _ ?F ?N
    case N => k_types
    case F => k_asm
  · with_reducible rename ¬ k ∈ List.map _ tvs => hk9
    refine' ⟨_, _, _, news, fun _ => True, rfl, rfl, ?F, ?N, h3, hT, hlo, ?turn, ?done⟩
    case F => k_asm
    case N => k_asm
    case turn =>
      intro q9 w9 s9 h9 tk9 own9 hm9 F' N'
      obtain ⟨b9, c9, u9, tv9, e9, rfl, hb9, hc9⟩ := hd hk9 _ _ hm9
      have hq9 : q9 ∈ tvs.map (·.1) := List.mem_map.mpr ⟨_, hm9, rfl⟩
      have h1 : (xu, instObj 190 du) ∈ own9 ++ news := List.mem_append_right _ h1
      have h2 : (du, remD w kn us td tr lim cur rp k1 k2 k3 k4 k5 k6 k7 k8 t1 t3 t5) ∈ own9 ++ news := List.mem_append_right _ h2
      have h3 : (td, oT) ∈ own9 ++ news := List.mem_append_right _ h3
      dsimp only
      k_steps
      with_reducible rename (q9, _) ∈ tvs => hv8
      obtain ⟨b9, c9, u9, tv9, e9, rfl, hb9, hc9⟩ := hd hk9 _ _ hv8
      have hb9 := List.mem_append_right own9 hb9
      k_steps
      · exfalso
        with_reducible rename (_ == _) = true => hx9
        exact hc9 (by simpa using hx9)
      · dsimp only [TurnEnd]
        exact ⟨_, _, _, rfl, by k_asm, fun y hy => by simp [hy], by k_asm, trivial⟩
    case done =>
      intro u9 h9 tk9 F' N' hR9
      k_steps
      rw [show (false : Bool) = decide (k ∈ tvs.map (·.1)) from by simp [hk9]]
      refine' h _ _ ?F ?N
      case N => k_types
      case F => k_asm
end
end
section
local macro_rules | `(tactic| walk_at "no such key") => `(tactic| skip)
local macro_rules | `(tactic| walk_at "call ref") => `(tactic| (k_here; k_dflt (refine' c_check (by k_units) (by k_asm) (by k_asm) (by k_room) (by ((try simp only [units_deeper, units_in1, cLine]); omega)) (by k_mem) (by k_mem) (by k_mem) (by k_asm) (by k_asm) ?q10 (by k_asm) (by k_asm) ?_; (case q10 => (intro p hp; k_mem)); k_whole); intro h' tk' F' N'; (try k_sweep)))
section
variable {w : World} {A₀ : Around} {base h₀ : Heap} {env : Env} {outer : List Env} {dp un : Nat} {gs : Option (List Code)} {L : Addr} {m mg mb : Str → Option Value} {mean : ExcName → Option Value} {news post : List (Addr × Obj)} {sh : Heap} {sg : Array GenState} {sd : Drawn} {tk₀ : Nat} {so : OsState} {Q : Value → Shared → Prop} {E : Value → Shared → Prop}
  {xu du kn us td tr : Nat} {lim cur rp : Int} {k1 k2 k3 k4 k5 k6 k7 k8 t1 t3 t5 : Tok} {oK oT : Obj} {kvs tvs : List (Int × Value)} {uvs rvs : List Value} {uns rns : List Int} {nu nr : Nat}
theorem map_filter_fst (mx : Int) (l : List (Int × Value)) : (l.filter fun p => decide (mx ≤ p.1)).map (·.1) = (l.map (·.1)).filter fun q => decide (mx ≤ q) := by
  rw [List.filter_map]; rfl
theorem c_onnew {k pr : Int} {tk tp : Tok} {cid tok : Array UInt8} {tc tt : Tok} (C : Cx w A₀ base h₀ env outer L mg mb mean) (F : Fr h₀ L sh m) (N : News h₀ L sh ((du, remD w kn us td tr lim cur rp k1 k2 k3 k4 k5 k6 k7 k8 t1 t3 t5) :: (xu, instObj 190 du) :: (kn, oK) :: (us, W.listOf uvs.toArray nu) :: (td, oT) :: (tr, W.listOf rvs.toArray nr) :: post)) (hdep : dp < 460) (hun : un < 4000)
  (l1 : du < xu) (l2 : xu < kn) (l3 : kn < us) (l4 : us < td) (l5 : td < tr) (p1 : ∀ p ∈ post, p.1 ≠ du) (p2 : ∀ p ∈ post, p.1 ≠ kn) (p3 : ∀ p ∈ post, p.1 ≠ us) (p4 : ∀ p ∈ post, p.1 ≠ td) (p5 : ∀ p ∈ post, p.1 ≠ tr)
  (hU : IntsAre uvs uns) (hul : uns.length ≤ 500) (hR : IntsAre rvs rns) (hrl : rns.length ≤ 500) (hK : oK.IsDictOf (PySem.intKind PySem.Challenge.rw_sj0110_01.row.prog w) kvs) (hkl : kvs.length < 60) (hlo : (kn == sysModules) = false) (hT : oT.IsDictOf (PySem.intKind PySem.Challenge.rw_sj0110_01.row.prog w) tvs) (htl : tvs.length ≤ 500) (hlt : (td == sysModules) = false)
  (hcu : cur ∈ uns) (hck : cur ∈ kvs.map (·.1)) (hkk : k ∉ tvs.map (·.1) → k ∉ kvs.map (·.1)) (hpk : pr ≤ k)
  (hlim : k ∉ tvs.map (·.1) → rp ≤ k → ((((kvs.map (·.1)) ++ [k]).filter fun q => decide (max rp pr ≤ q)).length : Int) ≤ lim)
  (hs : ∀ v, (k, v) ∈ tvs → ∃ a e t u, v = .ref a ∧ (a, tupE #[.bytes cid t, .bytes tok u] e) ∈ post)
  (hd : k ∉ tvs.map (·.1) → ∀ k' v, (k', v) ∈ tvs → ∃ a c t tv e, v = .ref a ∧ (a, tupE #[.bytes c t, tv] e) ∈ post ∧ c.toList ≠ cid.toList)
  (h : ∀ h' tk' (oK' oT' : Obj) (cur' rp' : Int) t3' t5' uvs' (uns' : List Int) nu' rvs' (rns' : List Int) nr' (kvs' tvs' : List (Int × Value)) (tups : List (Addr × Obj)), oK'.IsDictOf (PySem.intKind PySem.Challenge.rw_sj0110_01.row.prog w) kvs' → oT'.IsDictOf (PySem.intKind PySem.Challenge.rw_sj0110_01.row.prog w) tvs' → IntsAre uvs' uns' → uns'.length ≤ uns.length + kvs.length + 1 → IntsAre rvs' rns' →
    OnNew k pr rp (kvs.map (·.1)) rns (tvs.map (·.1)) (kvs'.map (·.1)) rns' (tvs'.map (·.1)) rp' → cur' ∈ uns' → cur' ∈ kvs'.map (·.1) →
    (∀ p ∈ kvs', p ∈ kvs ∨ (p.1 = k ∧ PairAt2 tups p.2 cid tok)) → (∀ p ∈ tvs', p ∈ tvs ∨ (p.1 = k ∧ PairAt2 tups p.2 cid tok)) → (∀ p ∈ tups, (∃ its, p.2 = tupOf its) ∧ @LT.lt Nat _ tr p.1 ∧ ∀ q ∈ post, @LT.lt Nat _ q.1 p.1) → Fr h₀ L h' m →
    News h₀ L h' ((du, remD w kn us td tr lim cur' rp' k1 k2 k3 k4 k5 k6 k7 k8 t1 t3' t5') :: (xu, instObj 190 du) :: (kn, oK') :: (us, W.listOf uvs'.toArray nu') :: (td, oT') :: (tr, W.listOf rvs'.toArray nr') :: (tups ++ post)) → Q .none ⟨h', sg, sd, tk', so⟩) :
  wpAny (model PySem.Challenge.rw_sj0110_01.row.prog w) (⟨none, dp, some (env :: outer), gs, un⟩ : Around) (call (.ref 135) [.ref xu, .int k tk, .int pr tp, .bytes cid tc, .bytes tok tt] []) Q E ⟨sh, sg, sd, tk₀, so⟩ := by
  obtain ⟨B, X, T, hf, hke⟩ := C
  w_top off
  k_go0
  refine wpAny_call ?_
  open_k with [(("self" : Str), Value.ref xu), (("number" : Str), .int k tk), (("prior" : Str), .int pr tp), (("cid" : Str), .bytes cid tc), (("token" : Str), .bytes tok tt)]
  have hul8 : uvs.length ≤ 501 := by have := hU.length; omega
  have hrl8 : rvs.length ≤ 501 := by have := hR.length; omega
  k_steps
  · with_reducible rename k ∈ List.map _ tvs => hk9
    simp only [show (if pr > rp then pr else rp) = max rp pr from by omega] at *
    refine CompD.filter (fun q => decide (max rp pr ≤ q)) rfl (by k_asm) (by k_asm) (by k_mem) hK (Nat.le_trans (Nat.le_of_lt hkl) (by rw [sizeLine_eq]; decide)) hlo ?_ ⟨rfl, rfl, rfl, by decide⟩ ?_
    · intro g9 k9 t9 I9 oI9 C9 oC9 D9 oD9 m9 h9 tk9 E9 hk9 hC9 hx9 F' N'
      k_steps
      exact TestEnd.intro rfl (by k_asm) (by k_asm) (fun _ h => h)
    · intro D9 ys9 h9 tk9 hy9 F' N'
      have hl9 := hy9.length
      have hl7 : ys9.toArray.size = ys9.length := List.size_toArray
      have hl6 := List.length_filter_le (fun q => decide (max rp pr ≤ q)) (kvs.map (·.1))
      rw [List.length_map] at hl6
      by_cases hex : ∃ q ∈ kvs.map (·.1), max rp pr ≤ q
      · have hpos : 0 < ((kvs.map (·.1)).filter fun q => decide (max rp pr ≤ q)).length := by
          obtain ⟨q, hq, hle⟩ := hex
          exact List.length_pos_of_mem (List.mem_filter.mpr ⟨hq, by simpa using hle⟩)
        k_steps
        unfold Stuck
        refine' c_below ?q0 ?q1 ?q2 ?q3 ?q4 ?q5 ?q6 ?q7 ?q8 ?q9 ?q10 ?q11 ?q12 ?q13 ?q14 ?q15 ?q16 ?q17 ?q18 ?q19 ?q20 ?q21 ?_
        case q0 => k_units
        case q1 => k_asm
        case q2 => (refine' News.picks (xs := [_, _, _, _, _]) ?aa ?bb; (case aa => exact News.of (by k_asm) (fun p hp => List.mem_cons_of_mem (D9, W.listOf ys9.toArray ys9.length) hp)); (case bb => k_memK))
        case q3 => k_room
        case q4 => omega
        case q5 => omega
        case q6 => omega
        case q7 => omega
        case q8 => k_all
        case q9 => k_all
        case q10 => k_all
        case q11 => k_all
        case q12 => exact hU
        case q13 => omega
        case q14 => exact hR
        case q15 => omega
        case q16 => exact hK
        case q17 => omega
        case q18 => exact hlo
        case q19 => exact hcu
        case q20 => exact hck
        case q21 => obtain ⟨q, hq, hle⟩ := hex; exact ⟨q, hq, by omega⟩
        intro h' tk' oK' cur' t3' t5' uvs' uns' nu' rvs' ns' nr' hK' hU' hul' hp' hR' hc1' hc2' F' N'
        simp only [show max (max rp pr) pr = max rp pr from by omega] at hK' hR' hc2' N'
        k_steps
        refine' h _ _ _ _ _ _ _ _ _ _ _ _ _ _ _ tvs [] hK' hT hU' ?ul hR' ?on hc1' hc2' ?k1 ?k2 ?tp ?F ?N
        case N =>
          refine' News.of ?x1 ?y1
          case x1 => k_asm
          simp only [List.nil_append]
          k_allIn
        case F => k_asm
        case ul => omega
        case on =>
          rw [map_filter_fst]
          exact .againIn hk9 hex hp'
        case k1 => exact fun p hp => .inl (List.mem_filter.mp hp).1
        case k2 => exact fun p hp => .inl hp
        case tp => exact fun p hp => nomatch hp
      · have hz : ((kvs.map (·.1)).filter fun q => decide (max rp pr ≤ q)).length = 0 := by
          rw [List.length_eq_zero_iff, List.filter_eq_nil_iff]
          intro q hq hle
          exact hex ⟨q, hq, by simpa using hle⟩
        k_steps
        refine' h _ _ _ _ _ _ _ _ _ _ _ _ _ _ kvs tvs [] hK hT hU ?ul hR ?on hcu hck ?k1 ?k2 ?tp ?F ?N
        case N =>
          refine' News.of ?x2 ?y2
          case x2 => k_asm
          simp only [List.nil_append]
          k_allIn
        case F => k_asm
        case ul => omega
        case on => exact .againOut hk9 (fun q hq hle => hex ⟨q, hq, hle⟩)
        case k1 => exact fun p hp => .inl hp
        case k2 => exact fun p hp => .inl hp
        case tp => exact fun p hp => nomatch hp
  · rename_i D8 h8z l8 h8a o8 hT8 tk8 hlt8 tk9 h9 F8 N8 kF8 kN8
    obtain ⟨a1, a2, a3, a4, a5, a6, a7, a8⟩ := l8
    simp only [List.push_toArray] at kN8
    refine' h _ _ _ _ _ _ _ _ _ _ _ _ _ _ kvs (tvs ++ [(k, .ref D8)]) [(D8, tupOf #[.bytes cid tc, .bytes tok tt])] hK hT8 hU ?ul ?R ?on hcu hck ?k1 ?k2 ?tp ?F ?N
    case N =>
      refine News.of kN8 ?_
      simp only [List.cons_append, List.nil_append]
      k_allIn
    case F => k_asm
    case ul => omega
    case R => exact IntsAre.append hR (IntsAre.cons _ _ IntsAre.nil)
    case on =>
      rw [List.map_append]
      exact .late (by assumption) hlt8
    case k1 => exact fun p hp => .inl hp
    case k2 =>
      intro p hp
      rcases List.mem_append.mp hp with q | q
      · exact .inl q
      · rw [List.mem_singleton.mp q]; exact .inr ⟨rfl, _, _, _, _, rfl, List.mem_cons_self⟩
    case tp =>
      intro p hp
      rw [List.mem_singleton.mp hp]
      exact ⟨⟨_, rfl⟩, a7, allLt_mem a8⟩
  · rename_i D8 h8a l8 h8b o8 hT8 tk8a hnl8 tk8b D9 h9a l9 h9b o9 F9 N9 hK9
    obtain ⟨a1, a2, a3, a4, a5, a6, a7, a8⟩ := l8
    obtain ⟨b1, b2, b3, b4, b5, b6, b7, b8, b9⟩ := l9
    unfold Stuck
    refine' c_below ?r0 ?r1 ?r2 ?r3 ?r4 ?r5 ?r6 ?r7 ?r8 ?r9 ?r10 ?r11 ?r12 ?r13 ?r14 ?r15 ?r16 ?r17 ?r18 ?r19 ?r20 ?r21 ?_
    case r0 => k_units
    case r1 => exact F9
    case r2 => (refine' News.picks (xs := [_, _, _, _, _]) ?cc ?dd; (case cc => exact N9); (case dd => k_memK))
    case r3 => k_room
    case r4 => omega
    case r5 => omega
    case r6 => omega
    case r7 => omega
    case r8 => k_all
    case r9 => k_all
    case r10 => k_all
    case r11 => k_all
    case r12 => exact hU
    case r13 => omega
    case r14 => exact hR
    case r15 => omega
    case r16 => exact hK9
    case r17 => rw [List.length_append, List.length_singleton]; omega
    case r18 => exact hlo
    case r19 => exact hcu
    case r20 => rw [List.map_append]; exact List.mem_append_left _ hck
    case r21 => exact ⟨k, by simp, by omega⟩
    intro h' tk' oK' cur' t3' t5' uvs' uns' nu' rvs' ns' nr' hK' hU' hul' hp' hR' hc1' hc2' F' N'
    have e1 : (List.filter (fun p => decide (max rp pr ≤ p.1)) (kvs ++ [(k, Value.ref D9)])).map (·.1) = ((kvs.map (·.1)) ++ [k]).filter fun q => decide (max rp pr ≤ q) := by rw [map_filter_fst, List.map_append]; rfl
    have e2 := hlim (by assumption) (by omega)
    have e3 : ((List.filter (fun p => decide (max rp pr ≤ p.1)) (kvs ++ [(k, Value.ref D9)])).map (·.1)).length ≤ 1000 := by
      rw [List.length_map]
      refine Nat.le_trans (List.length_filter_le _ _) ?_
      rw [List.length_append, List.length_singleton]; omega
    have e4 : (((List.filter (fun p => decide (max rp pr ≤ p.1)) (kvs ++ [(k, Value.ref D9)])).map (·.1)).length : Int) ≤ lim := by rw [e1]; exact e2
    k_steps
    refine' h _ _ _ _ _ _ _ _ _ _ _ _ _ _ _ (tvs ++ [(k, .ref D8)]) [(D9, tupOf #[.bytes cid tc, .bytes tok tt]), (D8, tupOf #[.bytes cid tc, .bytes tok tt])] hK' hT8 hU' ?ul hR' ?on hc1' hc2' ?k1 ?k2 ?tp ?F ?N
    case N =>
      refine' News.of ?x3 ?y3
      case x3 => k_asm
      simp only [List.cons_append, List.nil_append]
      k_allIn
    case F => k_asm
    case ul => rw [List.length_append, List.length_singleton] at hul'; omega
    case on =>
      rw [e1, List.map_append]
      exact .new (by assumption) (by omega) (by simpa using hp')
    case k1 =>
      intro p hp
      rcases List.mem_append.mp (List.mem_filter.mp hp).1 with q | q
      · exact .inl q
      · rw [List.mem_singleton.mp q]; exact .inr ⟨rfl, _, _, _, _, rfl, List.mem_cons_self⟩
    case k2 =>
      intro p hp
      rcases List.mem_append.mp hp with q | q
      · exact .inl q
      · rw [List.mem_singleton.mp q]; exact .inr ⟨rfl, _, _, _, _, rfl, List.mem_cons_of_mem _ List.mem_cons_self⟩
    case tp =>
      intro p hp
      rcases List.mem_cons.mp hp with q | q
      · rw [q]; exact ⟨⟨_, rfl⟩, b8, allLt_mem b9⟩
      · rw [List.mem_singleton.mp q]; exact ⟨⟨_, rfl⟩, a7, allLt_mem a8⟩
end
end
section
section
variable {w : World} {A₀ : Around} {base h₀ : Heap} {env : Env} {outer : List Env} {dp un : Nat} {gs : Option (List Code)} {L : Addr} {m mg mb : Str → Option Value} {mean : ExcName → Option Value} {news post : List (Addr × Obj)} {sh : Heap} {sg : Array GenState} {sd : Drawn} {tk₀ : Nat} {so : OsState} {Q : Value → Shared → Prop} {E : Value → Shared → Prop}
theorem c_take {bx ls : Nat} {c many : Int} {tc tm : Tok} {nb nl : Nat} {ws : List Value} {ns : List Int} (C : Cx w A₀ base h₀ env outer L mg mb mean) (F : Fr h₀ L sh m) (N : News h₀ L sh ((bx, W.listOf #[.ref ls, .int c tc] nb) :: post)) (hdep : dp < 480)
  (p1 : ∀ p ∈ post, p.1 ≠ bx) (hm : (ls, W.listOf ws.toArray nl) ∈ post) (hI : IntsAre ws ns) (hwl : ws.length ≤ 64) (h0 : 0 ≤ c) (h1 : c ≤ 1000) (hm0 : 1 ≤ many) (hm1 : many ≤ 100)
  (h : ∀ h' tk r t t' nb', 0 ≤ r → r < many → Fr h₀ L h' m → News h₀ L h' ((bx, W.listOf #[.ref ls, .int (c + 1) t'] nb') :: post) → Q (.int r t) ⟨h', sg, sd, tk, so⟩) :
  wpAny (model PySem.Challenge.rw_sj0110_01.row.prog w) (⟨none, dp, some (env :: outer), gs, un⟩ : Around) (call (.ref 201) [.ref bx, .int many tm] []) Q E ⟨sh, sg, sd, tk₀, so⟩ := by
  obtain ⟨B, X, T, hf, hke⟩ := C
  w_top off
  k_go0
  refine wpAny_call ?_
  open_k with [(("box" : Str), Value.ref bx), (("many" : Str), .int many tm)]
  k_steps
  · refine' h _ _ _ _ _ _ ?a ?b ?F ?N
    case N => k_types
    case F => k_asm
    case a => exact Int.fmod_nonneg_of_pos _ (by omega)
    case b => exact Int.fmod_lt_of_pos _ (by omega)
  · refine' h _ _ _ _ _ _ ?c ?d ?G ?O
    case O => k_types
    case G => k_asm
    case c => exact Int.fmod_nonneg_of_pos _ (by omega)
    case d => exact Int.fmod_lt_of_pos _ (by omega)
theorem c_picked {fo nf : Nat} {vs : List Value} {pk : Int} {tp : Tok} (C : Cx w A₀ base h₀ env outer L mg mb mean) (F : Fr h₀ L sh m) (N : News h₀ L sh ((fo, W.listOf vs.toArray nf) :: post)) (hdep : dp < 480)
  (p1 : ∀ p ∈ post, p.1 ≠ fo) (hv : vs ≠ []) (hvl : vs.length ≤ 1000) (h0 : 0 ≤ pk) (h1 : pk ≤ 1000)
  (h : ∀ h' tk p y q vs' nf', vs = p ++ y :: q → (vs' = vs ∨ vs' = p ++ q) → (pk = 0 → p = [] ∧ vs' = q) → Fr h₀ L h' m → News h₀ L h' ((fo, W.listOf vs'.toArray nf') :: post) → Q y ⟨h', sg, sd, tk, so⟩) :
  wpAny (model PySem.Challenge.rw_sj0110_01.row.prog w) (⟨none, dp, some (env :: outer), gs, un⟩ : Around) (call (.ref 208) [.ref fo, .int pk tp] []) Q E ⟨sh, sg, sd, tk₀, so⟩ := by
  obtain ⟨B, X, T, hf, hke⟩ := C
  w_top off
  k_go0
  refine wpAny_call ?_
  open_k with [(("some" : Str), Value.ref fo), (("pick" : Str), .int pk tp)]
  have hpos : 0 < vs.length := List.length_pos_iff.mpr hv
  have hsz : vs.toArray.size = vs.length := List.size_toArray
  have hne : (vs.toArray.size : Int) ≠ 0 := by omega
  have hb0 : 0 ≤ (pk.fdiv 2).fmod (vs.toArray.size : Int) := Int.fmod_nonneg_of_pos _ (by omega)
  have hb1 : (pk.fdiv 2).fmod (vs.toArray.size : Int) < (vs.toArray.size : Int) := Int.fmod_lt_of_pos _ (by omega)
  k_steps
  · with_reducible rename vs = _ => e1
    with_reducible rename _ = (1 : Int) => e3
    refine' h _ _ _ _ _ _ _ e1 (.inl rfl) ?z ?F ?N
    case N => k_types
    case F => k_asm
    case z => intro hz; rw [hz] at e3; exact absurd e3 (by decide)
  · with_reducible rename vs = _ => e1
    with_reducible rename List.length _ = Int.toNat _ => e2
    refine' h _ _ _ _ _ _ _ e1 (.inr rfl) ?y ?G ?O
    case O => k_types
    case G => k_asm
    case y =>
      intro hz
      rw [hz] at e2
      have e4 : ((0 : Int).fdiv 2).fmod (vs.toArray.size : Int) = 0 := by rw [Int.zero_fdiv, Int.zero_fmod]
      rw [e4] at e2
      have e5 := List.length_eq_zero_iff.mp e2
      rw [e5]
      exact ⟨rfl, rfl⟩
end
end
section
section
variable {prog : Program} {w : World} {A : Around} {E : Value → Shared → Prop} {s : Shared} {h₀ : Heap} {L D : Addr} {m : Str → Option Value} {news : List (Addr × Obj)} {vs : List Value} {n : Nat}
theorem append_lst {x : Value} {g : Obj → List (Addr × Obj)} {Q : Value → Shared → Prop} (F : Fr h₀ L s.heap m) (N : News h₀ L s.heap news) (U : UpdF D (W.listOf vs.toArray n) news g) (hz : vs.length ≤ 1000)
    (h : ∀ h', Fr h₀ L h' m → News h₀ L h' (g (W.listOf (vs ++ [x]).toArray (n + 1))) → Q .none { s with heap := h' }) :
    wpAny (model prog w) A (call (.builtin "list.append") [.ref D, x]) Q E s := by
  obtain ⟨pre, post, rfl, hg, a, b⟩ := U.split
  have z := N (D, W.listOf vs.toArray n) (List.mem_append.mpr (.inr (.head _)))
  refine wpAny_call_entry slot_list_append ⟨_, z.1, rfl⟩ entry_list_append ?_ (args_list_append _ _)
  show wpAny _ _ (updateSeq D (·.push x) >>= fun _ => ret .none) _ _ s
  refine wpAny_bind ?_
  refine wpAny_updateSeq z.1 rfl (wpAny_pure ⟨.none, rfl, h _ (F.change (Heap.SameBut.update ..) z.2.1 z.2.2) ?_⟩) (by rw [List.size_toArray, sizeLine_eq]; omega)
  rw [hg]
  refine kl_turn (fun a => a.push x) N a b ?_ ?_
  · show vs.toArray.push x = (vs ++ [x]).toArray
    simp
  · simp
end
end
section
open PySem.Spec PySem.Calls PyProof.Rows.LCt PyProof.Rows.LCg PySem.SeqAt
section
variable {prog : Program} {w : World} {A : Around} {E : Value → Shared → Prop} {h₀ : Heap} {m : Str → Option Value} {env : Env} {news : List (Addr × Obj)}
/-- how a turn over pairs ends -/
def TurnEndT (h₀ : Heap) (L : Addr) (m : Str → Option Value) (x1 x2 : Str) (gn : Array GenState) (dr : Drawn) (os : OsState) (own : List (Addr × Obj)) (I : Addr) (J : List (Addr × Obj) → Prop) (f : Flow) (s' : Shared) : Prop :=
  f = .next ∧ ∃ h' tk' m₂ news₂, s' = ⟨h', gn, dr, tk', os⟩ ∧ Fr h₀ L h' m₂ ∧ (∀ y, y ≠ x1 → y ≠ x2 → m₂ y = m y) ∧ News h₀ L h' (news₂ ++ own) ∧ (∀ p ∈ news₂, p.1 ≠ I) ∧ J news₂
/-- a for over a made list of pairs, by an invariant over the ledger -/
def ForLT (prog : Program) (w : World) (A : Around) (h₀ : Heap) (m : Str → Option Value) (env : Env) (target : Expr) (body : List Stmt) (Q : Flow → Shared → Prop) (E : Value → Shared → Prop) (xv : Value) (s : Shared) : Prop :=
  ∃ (x1 x2 : Str) (ax : Addr) (its : Array Value) (c : Nat) (news : List (Addr × Obj)) (J : Nat → List (Addr × Obj) → Prop), xv = .ref ax ∧ A.handled = none ∧ Fr h₀ env.locals s.heap m ∧ News h₀ env.locals s.heap ((ax, W.listOf its c) :: news) ∧ J 0 news ∧
    (∀ i v I own news₁ h gn dr tk os u1 u2, its[i]? = some v → J i news₁ → (∀ p ∈ own, p.1 = I ∨ p.1 = ax) → (∀ p ∈ news₁, p.1 ≠ I) → (∀ p ∈ news, @LT.lt Nat _ p.1 I) → @LT.lt Nat _ ax I → (∃ o, (I, o) ∈ own) → Fr h₀ env.locals h (fun y => if y = x2 then u2 else if y = x1 then u1 else m y) → News h₀ env.locals h (news₁ ++ own) →
      wpAny (model prog w) A (assign target env v) (fun _ s₃ => wpAny (model prog w) A (execs body env) (TurnEndT h₀ env.locals m x1 x2 gn dr os own I (J (i + 1))) E s₃) E ⟨h, gn, dr, tk, os⟩) ∧
    (∀ u1 u2 h tk news', J its.size news' → Fr h₀ env.locals h (fun y => if y = x2 then u2 else if y = x1 then u1 else m y) → News h₀ env.locals h news' → Q .next ⟨h, s.gens, s.drawn, tk, s.os⟩)
theorem two_names {m m₁ : Str → Option Value} {x1 x2 : Str} (hm : ∀ y, y ≠ x1 → y ≠ x2 → m₁ y = m y) : m₁ = fun y => if y = x2 then m₁ x2 else if y = x1 then m₁ x1 else m y := by
  funext y
  by_cases h2 : y = x2
  · simp [h2]
  · by_cases h1 : y = x1
    · subst h1; simp [h2]
    · simp only [if_neg h2, if_neg h1]; exact hm y h1 h2
theorem For_LT {s : Shared} {Q : Flow → Shared → Prop} {target : Expr} {pos : Pos} {iter : Expr} {body : List Stmt} (_F : Fr h₀ env.locals s.heap m)
    (h : wpAny (model prog w) A (eval iter env) (ForLT prog w A h₀ m env target body Q E) E s)
    (hs : ∀ x, foldedSetIterable iter env x = pure x := by intro _; rfl)
    (hE : PassesOwn (model prog w) A env E := by passes_own) :
    wpAny (model prog w) A (exec (.For target iter body [] pos) env) Q E s := by
  refine For_invT h₀ (wpAny_mono h (fun xv s₁ h₁ => ?_) fun _ _ e => e) hs hE
  obtain ⟨x1, x2, ax, its, c, news, J, rfl, hh, F, N, hJ0, turn, done⟩ := h₁
  have hA := N (ax, W.listOf its c) List.mem_cons_self
  have hlt : ax < s₁.heap.objs.size := Heap.lt_size hA.1
  have hl : s₁.heap.IsList ax its := News.isList N List.mem_cons_self
  refine wpAny_pyIter_list hl ?_
  have up : ∀ b x, s₁.heap.get? b = some x → (s₁.heap.push { cls := .type "list_iterator", data := .fields #[.ref ax, .int 0 0] }).get? b = some x := fun b o e => Heap.get?_push_of_some _ e
  refine ⟨s₁.heap.objs.size, [s₁.heap.objs.size, ax], [s₁.heap.objs.size], its.size, _, _, m, news, fun i m₁ news₁ => (∀ y, y ≠ x1 → y ≠ x2 → m₁ y = m y) ∧ J i news₁, rfl, Walks.list hh s₁.heap.objs.size ax (Nat.ne_of_lt hlt) its, ?_, ?_, ?_, ⟨⟨_, Heap.get?_push_size _ rfl, rfl, rfl⟩, hl.push _⟩, F.keeps up, (fun p hp => ⟨up _ _ (N p (List.mem_cons_of_mem _ hp)).1, (N p (List.mem_cons_of_mem _ hp)).2⟩), (fun i s' v Q' st hQ' => letGo_listiter st.1 hQ'), ⟨fun _ _ _ => rfl, hJ0⟩, ?_, ?_⟩
  · intro hmem
    rcases List.mem_cons.mp hmem with e | hmem
    · exact Nat.lt_irrefl _ (e ▸ F.ns.lt)
    · exact hA.2.1 (List.mem_singleton.mp hmem).symm
  · intro b hb
    rw [List.mem_singleton.mp hb]; exact next_is_new F
  · intro p hp' hI
    exact absurd (Heap.lt_size (N p (List.mem_cons_of_mem _ hp')).1) ((List.mem_singleton.mp hI) ▸ Nat.lt_irrefl _)
  · rintro i v m₁ news₁ ⟨hh', gn, dr, tk', os⟩ own hin hP ⟨hm₁, hJ⟩ hoff hown _ hall hst₁ F₁ N₁
    obtain ⟨oi, hoi, _⟩ := hst₁.1
    have hin' := hall _ List.mem_cons_self (next_is_new F) oi hoi
    rw [two_names hm₁] at F₁
    have N₂ : News h₀ env.locals hh' (news₁ ++ own) := fun p hp => N₁ p ((List.mem_append.mp hp).elim (fun q => List.mem_append_right _ q) fun q => List.mem_append_left _ q)
    refine wpAny_mono (turn i v s₁.heap.objs.size own news₁ hh' gn dr tk' os _ _ hP hJ (fun p hp => (List.mem_cons.mp (hown p hp)).imp id fun q => List.mem_singleton.mp q) (fun p hp q => hoff p hp (List.mem_singleton.mpr q)) (fun p hp => Heap.lt_size (N p (List.mem_cons_of_mem _ hp)).1) hlt ⟨oi, hin'⟩ F₁ N₂) (fun _ s₃ q => wpAny_mono q (fun f s₄ r => ?_) fun _ _ e => e) fun _ _ e => e
    obtain ⟨rfl, h', tk'', m₂, news₂, rfl, F₂, hm₂, N₃, hne, hj⟩ := r
    exact ⟨rfl, h', tk'', m₂, news₂, rfl, F₂, (fun p hp => N₃ p ((List.mem_append.mp hp).elim (fun q => List.mem_append_right _ q) fun q => List.mem_append_left _ q)), (fun p hp q => hne p hp (List.mem_singleton.mp q)), hm₂, hj⟩
  · rintro h' tk' m' news' F' N' _ ⟨hm', hJ⟩
    rw [two_names hm'] at F'
    exact done _ _ h' tk' news' hJ F' N'
end
end
section
local macro_rules | `(tactic| walk_at "call builtin:list.append") => `(tactic| (k_here; k_dflt (refine' append_lst (by k_asm) (by k_asm) (by k_updF) (by first | k_asm | omega) ?_); intro h' F' N'; (try dsimp only at N'); (try k_sweep)))
local macro_rules | `(tactic| walk_at "subscriptTail Name") => `(tactic| (k_here; (with_reducible show wpAny _ _ (subscriptTail _ _ (Value.ref _) (Value.str _ _)) _ _ _); k_dflt (refine' kda_item (knd := PySem.strKind _ _) (k := _) (by k_asm) (by k_mem) (by k_asm) (by exact strKind_is _ _ _ _) (by with_unfolding_all rfl) ?_)))
section
local macro_rules | `(tactic| walk_at "call ref") => `(tactic| (k_here; k_dflt (refine' c_issue (by k_units) (by k_asm) (by (refine' News.picks (xs := [_, _, _, _]) (by k_asm) (by k_memK))) (by k_room) (by omega) (by omega) (by omega) (by k_all) (by k_all) (by k_all) (by k_asm) (by (first | k_asm | omega | (simp only [List.length_append, List.length_singleton, List.length_map]; omega))) (by k_asm) (by (first | k_asm | omega | (simp only [List.length_append, List.length_singleton, List.length_map]; omega))) (by k_asm) (by k_asm) ?_ ?_); all_goals (intros; (try k_sweep))))
section
variable {w : World} {A₀ : Around} {base h₀ : Heap} {env : Env} {outer : List Env} {dp un : Nat} {gs : Option (List Code)} {L : Addr} {m mg mb : Str → Option Value} {mean : ExcName → Option Value} {news post : List (Addr × Obj)} {sh : Heap} {sg : Array GenState} {sd : Drawn} {tk₀ : Nat} {so : OsState} {Q : Value → Shared → Prop} {E : Value → Shared → Prop}
  {xi di iss ev fo nt ba he tl dn as : Nat} {lim nx rp ll : Int} {k1 k2 k3 k4 k5 k6 k7 k8 t1 t2 t3 t4 t5 t6 t7 t8 : Tok} {oI oN : Obj} {kvs : List (Int × Value)}
theorem frameAt_mk {nx pr : Int} {t : Addr} {s : Str} {ta tb tc td te : Tok} (h : 1 ≤ nx) : FrameAt [(t, tupOf #[.str s ta, .int nx tb, .int pr tc, .bytes (([nx, 7] : List Int).map fun n => n.toNat.toUInt8).toArray td, .bytes (((List.replicate (16 : Int).toNat [nx]).flatten.map fun n => n.toNat.toUInt8).toArray) te])] (.ref t) (nx, pr) := by
  refine ⟨t, 0, s, ta, tb, tc, td, te, rfl, ?_⟩
  rw [cidA_pos h]
  exact List.mem_singleton.mpr rfl
theorem c_issued {evs : Array Value} {ne nf : Nat} {fvs : List Value} (C : Cx w A₀ base h₀ env outer L mg mb mean) (F : Fr h₀ L sh m) (N : News h₀ L sh ((di, locD w iss ev lim nx rp k1 k2 k3 k4 k5 k6 t1 t4 t5) :: (xi, instObj 98 di) :: (iss, oI) :: (ev, W.listOf evs ne) :: (fo, W.listOf fvs.toArray nf) :: post)) (hdep : dp < 470)
  (l1 : di < xi) (l2 : xi < iss) (l3 : iss < ev) (l4 : fo < di) (p1 : ∀ p ∈ post, p.1 ≠ di) (p2 : ∀ p ∈ post, p.1 ≠ iss) (p3 : ∀ p ∈ post, p.1 ≠ ev) (p4 : ∀ p ∈ post, p.1 ≠ fo)
  (hn : (nt, oN) ∈ post) (hN : oN.IsDictOf (PySem.strKind PySem.Challenge.rw_sj0110_01.row.prog w) (netL fo ba he tl dn as ll t8)) (hI : oI.IsDictOf (PySem.intKind PySem.Challenge.rw_sj0110_01.row.prog w) kvs) (hlen : kvs.length ≤ 500) (hlo : (iss == sysModules) = false) (hev : evs.size ≤ 500)
  (hnx1 : 1 ≤ nx) (hnx2 : nx < 200) (hne : ∀ y ∈ evs, ∃ c u, y = .bytes c u ∧ c.toList ≠ (([nx, 7] : List Int).map fun n => n.toNat.toUInt8)) (hnx : nx ∉ kvs.map (·.1)) (hfl : fvs.length ≤ 500)
  (hyes : keptN rp (kvs.map (·.1)) < lim → ∀ h' tk t o' ne' nf' tb tc v tup, Fr h₀ L h' m → o'.IsDictOf (PySem.intKind PySem.Challenge.rw_sj0110_01.row.prog w) (kvs ++ [(nx, .bytes (([nx, 7] : List Int).map fun n => n.toNat.toUInt8).toArray tc)]) → FrameAt [(t, tupOf tup)] v (nx, rp) → @LT.lt Nat _ ev t → (∀ q ∈ post, @LT.lt Nat _ q.1 t) →
    News h₀ L h' ((t, tupOf tup) :: (di, locD w iss ev lim (nx + 1) rp k1 k2 k3 k4 k5 k6 t1 tb t5) :: (xi, instObj 98 di) :: (iss, o') :: (ev, W.listOf (evs.push (.bytes (([nx, 7] : List Int).map fun n => n.toNat.toUInt8).toArray tc)) ne') :: (fo, W.listOf (fvs ++ [v]).toArray nf') :: post) → Q .none ⟨h', sg, sd, tk, so⟩)
  (hno : ¬ keptN rp (kvs.map (·.1)) < lim → ∀ h' tk, Fr h₀ L h' m → News h₀ L h' ((di, locD w iss ev lim nx rp k1 k2 k3 k4 k5 k6 t1 t4 t5) :: (xi, instObj 98 di) :: (iss, oI) :: (ev, W.listOf evs ne) :: (fo, W.listOf fvs.toArray nf) :: post) → Q .none ⟨h', sg, sd, tk, so⟩) :
  wpAny (model PySem.Challenge.rw_sj0110_01.row.prog w) (⟨none, dp, some (env :: outer), gs, un⟩ : Around) (call (.ref 215) [.ref nt, .ref xi] []) Q E ⟨sh, sg, sd, tk₀, so⟩ := by
  obtain ⟨B, X, T, hf, hke⟩ := C
  w_top off
  k_go0
  refine wpAny_call ?_
  open_k with [(("net" : Str), Value.ref nt), (("issuer" : Str), Value.ref xi)]
  k_steps
  · with_reducible rename ∀ q ∈ List.append _ _, _ => hq'
    refine' hyes ?c _ _ _ _ _ _ _ _ _ _ ?F ?D ?fa ?l1 ?l2 ?N
    case N => k_types
    case c => k_asm
    case F => k_asm
    case D => k_asm
    case fa => exact frameAt_mk hnx1
    case l1 => k_asm
    case l2 => exact fun q hq => hq' q (List.mem_cons_of_mem _ (List.mem_cons_of_mem _ (List.mem_cons_of_mem _ (List.mem_cons_of_mem _ hq))))
  · refine hno (by omega) _ _ ?_ ?_
    · k_asm
    · k_types
end
end
section
section
variable {w : World} {A₀ : Around} {base h₀ : Heap} {env : Env} {outer : List Env} {dp un : Nat} {gs : Option (List Code)} {L : Addr} {m mg mb : Str → Option Value} {mean : ExcName → Option Value} {news post : List (Addr × Obj)} {sh : Heap} {sg : Array GenState} {sd : Drawn} {tk₀ : Nat} {so : OsState} {Q : Value → Shared → Prop} {E : Value → Shared → Prop}
  {xu du kn us td tr : Nat} {lim cur rp : Int} {k1 k2 k3 k4 k5 k6 k7 k8 t1 t3 t5 : Tok} {oK oT : Obj} {kvs tvs : List (Int × Value)} {uvs rvs : List Value} {uns rns : List Int} {nu nr : Nat}
  {fo nt ba he tl dn as : Nat} {ll pk : Int} {t8 tp : Tok} {oN : Obj} {fvs hvs : List Value} {fs : List (Int × Int)} {hns : List Int} {nf nh : Nat} {fr : List (Addr × Obj)}
theorem c_comes (C : Cx w A₀ base h₀ env outer L mg mb mean) (F : Fr h₀ L sh m) (N : News h₀ L sh ((du, remD w kn us td tr lim cur rp k1 k2 k3 k4 k5 k6 k7 k8 t1 t3 t5) :: (xu, instObj 190 du) :: (kn, oK) :: (us, W.listOf uvs.toArray nu) :: (td, oT) :: (tr, W.listOf rvs.toArray nr) :: (fo, W.listOf fvs.toArray nf) :: (he, W.listOf hvs.toArray nh) :: post)) (hdep : dp < 440) (hun : un < 3500)
  (l1 : du < xu) (l2 : xu < kn) (l3 : kn < us) (l4 : us < td) (l5 : td < tr) (l6 : fo < du) (l7 : fo < he) (l8 : he < du) (p1 : ∀ p ∈ post, p.1 ≠ du) (p2 : ∀ p ∈ post, p.1 ≠ kn) (p3 : ∀ p ∈ post, p.1 ≠ us) (p4 : ∀ p ∈ post, p.1 ≠ td) (p5 : ∀ p ∈ post, p.1 ≠ tr) (p6 : ∀ p ∈ post, p.1 ≠ fo) (p7 : ∀ p ∈ post, p.1 ≠ he)
  (hn : (nt, oN) ∈ post) (hN : oN.IsDictOf (PySem.strKind PySem.Challenge.rw_sj0110_01.row.prog w) (netL fo ba he tl dn as ll t8))
  (hU : IntsAre uvs uns) (hul : uns.length ≤ 500) (hR : IntsAre rvs rns) (hrl : rns.length ≤ 500) (hK : oK.IsDictOf (PySem.intKind PySem.Challenge.rw_sj0110_01.row.prog w) kvs) (hkl : kvs.length < 60) (hlo : (kn == sysModules) = false) (hT : oT.IsDictOf (PySem.intKind PySem.Challenge.rw_sj0110_01.row.prog w) tvs) (htl : tvs.length ≤ 500) (hlt : (td == sysModules) = false)
  (hcu : cur ∈ uns) (hck : cur ∈ kvs.map (·.1)) (hf1 : fvs ≠ []) (hfl : fvs.length ≤ 500) (hfr : ∀ p ∈ fr, p ∈ post) (hfa : ValsAre (FrameAt fr) fvs fs) (hH : IntsAre hvs hns) (hhl : hns.length ≤ 500) (hp0 : 0 ≤ pk) (hp1 : pk ≤ 1000)
  (hfk : ∀ f ∈ fs, 1 ≤ f.1 ∧ f.1 < 256 ∧ f.2 ≤ f.1)
  (hkk : ∀ f ∈ fs, f.1 ∉ tvs.map (·.1) → f.1 ∉ kvs.map (·.1))
  (hlim : ∀ f ∈ fs, f.1 ∉ tvs.map (·.1) → rp ≤ f.1 → ((((kvs.map (·.1)) ++ [f.1]).filter fun q => decide (max rp f.2 ≤ q)).length : Int) ≤ lim)
  (ht : ∀ p ∈ tvs, 0 ≤ p.1 ∧ p.1 < 256 ∧ PairAt post p.2 (cidA p.1) ∧ (1 ≤ p.1 → PairAt2 post p.2 (cidA p.1) (tokA p.1)))
  (h : ∀ h' tk' (oK' oT' : Obj) (cur' rp' : Int) t3' t5' uvs' (uns' : List Int) nu' rvs' (rns' : List Int) nr' (kvs' tvs' : List (Int × Value)) (tups : List (Addr × Obj)) fvs' fs' nf' hvs' hns' nh' (k pr : Int) (a b : List (Int × Int)),
    fs = a ++ (k, pr) :: b → (fs' = fs ∨ fs' = a ++ b) → (pk = 0 → a = [] ∧ fs' = b) → ValsAre (FrameAt fr) fvs' fs' → IntsAre hvs' hns' → hns' = (if k ∈ hns then hns else hns ++ [k]) →
    oK'.IsDictOf (PySem.intKind PySem.Challenge.rw_sj0110_01.row.prog w) kvs' → oT'.IsDictOf (PySem.intKind PySem.Challenge.rw_sj0110_01.row.prog w) tvs' → IntsAre uvs' uns' → uns'.length ≤ uns.length + kvs.length + 1 → IntsAre rvs' rns' →
    OnNew k pr rp (kvs.map (·.1)) rns (tvs.map (·.1)) (kvs'.map (·.1)) rns' (tvs'.map (·.1)) rp' → cur' ∈ uns' → cur' ∈ kvs'.map (·.1) →
    (∀ p ∈ kvs', p ∈ kvs ∨ (p.1 = k ∧ PairAt2 tups p.2 (cidA k) (tokA k))) → (∀ p ∈ tvs', p ∈ tvs ∨ (p.1 = k ∧ PairAt2 tups p.2 (cidA k) (tokA k))) → (∀ p ∈ tups, (∃ its, p.2 = tupOf its) ∧ @LT.lt Nat _ tr p.1 ∧ ∀ q ∈ post, @LT.lt Nat _ q.1 p.1) → Fr h₀ L h' m →
    News h₀ L h' ((du, remD w kn us td tr lim cur' rp' k1 k2 k3 k4 k5 k6 k7 k8 t1 t3' t5') :: (xu, instObj 190 du) :: (kn, oK') :: (us, W.listOf uvs'.toArray nu') :: (td, oT') :: (tr, W.listOf rvs'.toArray nr') :: (fo, W.listOf fvs'.toArray nf') :: (he, W.listOf hvs'.toArray nh') :: (tups ++ post)) → Q .none ⟨h', sg, sd, tk', so⟩) :
  wpAny (model PySem.Challenge.rw_sj0110_01.row.prog w) (⟨none, dp, some (env :: outer), gs, un⟩ : Around) (call (.ref 222) [.ref nt, .ref xu, .int pk tp] []) Q E ⟨sh, sg, sd, tk₀, so⟩ := by
  obtain ⟨B, X, T, hf, hke⟩ := C
  w_top off
  k_go0
  refine wpAny_call ?_
  open_k with [(("net" : Str), Value.ref nt), (("user" : Str), Value.ref xu), (("pick" : Str), .int pk tp)]
  k_steps
  unfold Stuck
  refine' c_picked ?a0 ?a1 ?a2 ?a3 ?a4 ?a5 ?a6 ?a7 ?a8 ?_
  case a0 => k_units
  case a1 => k_asm
  case a2 => (refine' News.picks (xs := [_]) ?aa ?bb; (case aa => k_asm); (case bb => k_memK))
  case a3 => k_room
  case a4 => k_all
  case a5 => exact hf1
  case a6 => omega
  case a7 => exact hp0
  case a8 => omega
  intro h7 tk7 p7' y7 q7 vs7 nf7 e7 f7 g7 F7 N7
  rw [e7] at hfa
  obtain ⟨a, ⟨k, pr⟩, b, efs, hpa, hy, hqb⟩ := hfa.cut
  have hkp := hfk (k, pr) (by rw [efs]; exact List.mem_append_right _ List.mem_cons_self)
  obtain ⟨a5, e5, s5, u1, u2, u3, u4, u5, rfl, hmem⟩ := hy
  replace hmem := hfr _ hmem
  dsimp only at hmem hkp
  k_steps
  unfold Stuck
  refine' c_onnew ?b0 ?b1 ?b2 ?b3 ?b4 ?b5 ?b6 ?b7 ?b8 ?b9 ?b10 ?b11 ?b12 ?b13 ?b14 ?b15 ?b16 ?b17 ?b18 ?b19 ?b20 ?b21 ?b22 ?b23 ?b24 ?b25 ?b26 ?b27 ?b28 ?b29 ?b30 ?b31 ?_
  case b0 => k_units
  case b1 => k_asm
  case b2 => (refine' News.picks (xs := [_, _, _, _, _, _]) ?cc ?dd; (case cc => k_asm); (case dd => k_memK))
  case b3 => k_room
  case b4 => simp only [units_deeper, units_in1, cLine]; omega
  case b5 => exact l1
  case b6 => exact l2
  case b7 => exact l3
  case b8 => exact l4
  case b9 => exact l5
  case b10 => k_all
  case b11 => k_all
  case b12 => k_all
  case b13 => k_all
  case b14 => k_all
  case b15 => exact hU
  case b16 => exact hul
  case b17 => exact hR
  case b18 => exact hrl
  case b19 => exact hK
  case b20 => exact hkl
  case b21 => exact hlo
  case b22 => exact hT
  case b23 => exact htl
  case b24 => exact hlt
  case b25 => exact hcu
  case b26 => exact hck
  case b27 => exact hkk (k, pr) (by rw [efs]; exact List.mem_append_right _ List.mem_cons_self)
  case b28 => exact hkp.2.2
  case b29 => exact hlim (k, pr) (by rw [efs]; exact List.mem_append_right _ List.mem_cons_self)
  case b30 =>
    intro v hv
    obtain ⟨x1, x2, x3, x4⟩ := ht _ hv
    obtain ⟨a8, e8, t8', u8, r1, r2⟩ := x4 hkp.1
    exact ⟨a8, e8, t8', u8, r1, by k_mem⟩
  case b31 =>
    intro hnk k' v hv
    obtain ⟨x1, x2, ⟨a8, t8', tv8, e8, r1, r2⟩, x4⟩ := ht _ hv
    refine ⟨a8, _, t8', tv8, e8, r1, by k_mem, fun z => hnk ?_⟩
    have z2 := cidA_inj x1 (by omega) x2 hkp.2.1 z
    dsimp only at z2
    rw [← z2]
    exact List.mem_map.mpr ⟨_, hv, rfl⟩
  intro h' tk' oK' oT' cur' rp' t3' t5' uvs' uns' nu' rvs' rns' nr' kvs' tvs' tups hK' hT' hU' hul' hR' hon hcu' hck' hkv' htv' htp F' N'
  obtain ⟨post2, hpost2⟩ : ∃ l, l = tups ++ post := ⟨_, rfl⟩
  have hq2 : ∀ p ∈ post2, p.1 ≠ he ∧ p ∈ tups ++ post := by
    intro p hp
    rw [hpost2] at hp
    refine ⟨?_, hp⟩
    rcases List.mem_append.mp hp with q | q
    · have z := (htp p q).2.1
      intro e
      rw [e] at z
      exact Nat.lt_irrefl he (Nat.lt_trans l8 (Nat.lt_trans l1 (Nat.lt_trans l2 (Nat.lt_trans l3 (Nat.lt_trans l4 (Nat.lt_trans l5 z))))))
    · exact p7 p q
  have hq3 : ∀ p ∈ post2, p.1 ≠ he := fun p hp => (hq2 p hp).1
  have hn2 : (nt, oN) ∈ post2 := by rw [hpost2]; exact List.mem_append_right _ hn
  have N2 := News.of (news := (he, W.listOf hvs.toArray nh) :: (fo, W.listOf vs7.toArray nf7) :: (du, remD w kn us td tr lim cur' rp' k1 k2 k3 k4 k5 k6 k7 k8 t1 t3' t5') :: (xu, instObj 190 du) :: (kn, oK') :: (us, W.listOf uvs'.toArray nu') :: (td, oT') :: (tr, W.listOf rvs'.toArray nr') :: post2) N' (by
    intro p hp
    simp only [List.mem_cons, List.mem_append, hpost2, List.append_eq, List.nil_append] at hp ⊢
    rcases hp with hp | hp | hp | hp | hp | hp | hp | hp | hp | hp <;> simp [hp])
  clear N'
  have hvf : ∃ fs', (fs' = fs ∨ fs' = a ++ b) ∧ (pk = 0 → a = [] ∧ fs' = b) ∧ ValsAre (FrameAt fr) vs7 fs' := by
    have za : p7' = [] → a = [] := by
      intro z
      rw [z] at hpa
      cases hpa
      rfl
    rcases f7 with f7 | f7
    · by_cases hpk : pk = 0
      · obtain ⟨g1, g2⟩ := g7 hpk
        refine ⟨b, ?_, fun _ => ⟨za g1, rfl⟩, g2 ▸ hqb⟩
        right
        rw [za g1, List.nil_append]
      · refine ⟨fs, .inl rfl, fun z => absurd z hpk, ?_⟩
        rw [f7, e7]
        exact hfa
    · refine ⟨a ++ b, .inr rfl, fun z => ?_, ?_⟩
      · rw [za (g7 z).1, List.nil_append]; exact ⟨rfl, rfl⟩
      · rw [f7]; exact hpa.append hqb
  obtain ⟨fs', w1, w2, w3⟩ := hvf
  k_steps
  · refine' h _ _ _ _ _ _ _ _ _ _ _ _ _ _ _ _ tups _ fs' _ _ _ _ k pr a b efs w1 w2 w3 hH ?g1 hK' hT' hU' hul' hR' hon hcu' hck' hkv' htv' ?g2 ?g3 ?g4
    case g4 =>
      rw [← hpost2]
      refine' News.of ?g5 ?g6
      case g5 => k_asm
      k_allIn
    case g1 => rw [if_pos (by k_asm)]
    case g2 => exact fun p hp => ⟨(htp p hp).1, (htp p hp).2.1, fun q hq => (htp p hp).2.2 q (by k_mem)⟩
    case g3 => k_asm
  · refine' h _ _ _ _ _ _ _ _ _ _ _ _ _ _ _ _ tups _ fs' _ _ _ _ k pr a b efs w1 w2 w3 ?i7 ?i1 hK' hT' hU' hul' hR' hon hcu' hck' hkv' htv' ?i2 ?i3 ?i4
    case i4 =>
      rw [← hpost2]
      refine' News.of ?i5 ?i6
      case i5 => k_asm
      k_allIn
    case i7 =>
      rw [show hvs.toArray.toList.concat (Value.int k u2) = hvs ++ [Value.int k u2] from by simp]
      exact IntsAre.append hH (IntsAre.cons k u2 IntsAre.nil)
    case i1 => rw [if_neg (by k_asm)]
    case i2 => exact fun p hp => ⟨(htp p hp).1, (htp p hp).2.1, fun q hq => (htp p hp).2.2 q (by k_mem)⟩
    case i3 => k_asm
end
end
section
local macro_rules | `(tactic| walk_at "no such key") => `(tactic| skip)
section
variable {w : World} {A₀ : Around} {base h₀ : Heap} {env : Env} {outer : List Env} {dp un : Nat} {gs : Option (List Code)} {L : Addr} {m mg mb : Str → Option Value} {mean : ExcName → Option Value} {news post : List (Addr × Obj)} {sh : Heap} {sg : Array GenState} {sd : Drawn} {tk₀ : Nat} {so : OsState} {Q : Value → Shared → Prop} {E : Value → Shared → Prop}
  {xi di iss ev : Nat} {lim nx rp : Int} {k1 k2 k3 k4 k5 k6 k7 k8 t1 t2 t3 t4 t5 t6 t7 t8 : Tok} {oI oK oT : Obj} {kvs kws : List (Int × Value)}
  {fo nt ba he tl dn as : Nat} {ll pk : Int} {t8 tp : Tok} {oN : Obj} {bvs dvs : List Value} {bs : List (Int × Int)} {dns : List Int} {nb nd : Nat} {fr : List (Addr × Obj)}
theorem c_word (C : Cx w A₀ base h₀ env outer L mg mb mean) (F : Fr h₀ L sh m) (N : News h₀ L sh ((di, locD w iss ev lim nx rp k1 k2 k3 k4 k5 k6 t1 t4 t5) :: (xi, instObj 98 di) :: (iss, oI) :: (ba, W.listOf bvs.toArray nb) :: (dn, W.listOf dvs.toArray nd) :: post)) (hdep : dp < 450)
  (l1 : di < xi) (l2 : xi < iss) (l6 : ba < di) (l7 : ba < dn) (l8 : dn < di) (p1 : ∀ p ∈ post, p.1 ≠ di) (p2 : ∀ p ∈ post, p.1 ≠ iss) (p6 : ∀ p ∈ post, p.1 ≠ ba) (p7 : ∀ p ∈ post, p.1 ≠ dn)
  (hn : (nt, oN) ∈ post) (hN : oN.IsDictOf (PySem.strKind PySem.Challenge.rw_sj0110_01.row.prog w) (netL fo ba he tl dn as ll t8))
  (hI : oI.IsDictOf (PySem.intKind PySem.Challenge.rw_sj0110_01.row.prog w) kvs) (hlen : kvs.length ≤ 500) (hlo : (iss == sysModules) = false)
  (hf1 : bvs ≠ []) (hfl : bvs.length ≤ 500) (hfr : ∀ p ∈ fr, p ∈ post) (hfa : ValsAre (BackAt fr) bvs bs) (hD : IntsAre dvs dns) (hdl : dns.length ≤ 500) (hp0 : 0 ≤ pk) (hp1 : pk ≤ 1000)
  (hbk : ∀ b ∈ bs, 0 ≤ b.1 ∧ b.1 < 256 ∧ 0 ≤ b.2 ∧ b.2 < 256 ∧ b.1 < nx ∧ b.1 ≠ b.2)
  (hkv : ∀ p ∈ kvs, ∃ t, p.2 = .bytes (cidA p.1) t)
  (h : ∀ h' tk' o' bvs' bs' nb' dvs' dns' nd' (n u : Int) (a b : List (Int × Int)),
    bs = a ++ (n, u) :: b → (bs' = bs ∨ bs' = a ++ b) → (pk = 0 → a = [] ∧ bs' = b) → ValsAre (BackAt fr) bvs' bs' → IntsAre dvs' dns' → dns' = (if n ∈ dns then dns else dns ++ [n]) →
    o'.IsDictOf (PySem.intKind PySem.Challenge.rw_sj0110_01.row.prog w) (kvs.filter fun p => !decide (p.1 = n)) → Fr h₀ L h' m →
    News h₀ L h' ((di, locD w iss ev lim nx rp k1 k2 k3 k4 k5 k6 t1 t4 t5) :: (xi, instObj 98 di) :: (iss, o') :: (ba, W.listOf bvs'.toArray nb') :: (dn, W.listOf dvs'.toArray nd') :: post) → Q .none ⟨h', sg, sd, tk', so⟩) :
  wpAny (model PySem.Challenge.rw_sj0110_01.row.prog w) (⟨none, dp, some (env :: outer), gs, un⟩ : Around) (call (.ref 236) [.ref nt, .ref xi, .int pk tp] []) Q E ⟨sh, sg, sd, tk₀, so⟩ := by
  obtain ⟨B, X, T, hf, hke⟩ := C
  w_top off
  k_go0
  refine wpAny_call ?_
  open_k with [(("net" : Str), Value.ref nt), (("issuer" : Str), Value.ref xi), (("pick" : Str), .int pk tp)]
  k_steps
  unfold Stuck
  refine' c_picked ?a0 ?a1 ?a2 ?a3 ?a4 ?a5 ?a6 ?a7 ?a8 ?_
  case a0 => k_units
  case a1 => k_asm
  case a2 => (refine' News.picks (xs := [_]) ?aa ?bb; (case aa => k_asm); (case bb => k_memK))
  case a3 => k_room
  case a4 => k_all
  case a5 => exact hf1
  case a6 => omega
  case a7 => exact hp0
  case a8 => omega
  intro h7 tk7 p7' y7 q7 vs7 nf7 e7 f7 g7 F7 N7
  rw [e7] at hfa
  obtain ⟨a, ⟨n, u⟩, b, efs, hpa, hy, hqb⟩ := hfa.cut
  have hkp := hbk (n, u) (by rw [efs]; exact List.mem_append_right _ List.mem_cons_self)
  obtain ⟨a5, e5, u1, u2, rfl, hmem⟩ := hy
  replace hmem := hfr _ hmem
  dsimp only at hmem hkp
  have hvf : ∃ bs', (bs' = bs ∨ bs' = a ++ b) ∧ (pk = 0 → a = [] ∧ bs' = b) ∧ ValsAre (BackAt fr) vs7 bs' := by
    have za : p7' = [] → a = [] := by
      intro z
      rw [z] at hpa
      cases hpa
      rfl
    rcases f7 with f7 | f7
    · by_cases hpk : pk = 0
      · obtain ⟨g1, g2⟩ := g7 hpk
        refine ⟨b, ?_, fun _ => ⟨za g1, rfl⟩, g2 ▸ hqb⟩
        right
        rw [za g1, List.nil_append]
      · refine ⟨bs, .inl rfl, fun z => absurd z hpk, ?_⟩
        rw [f7, e7]
        exact hfa
    · refine ⟨a ++ b, .inr rfl, fun z => ?_, ?_⟩
      · rw [za (g7 z).1, List.nil_append]; exact ⟨rfl, rfl⟩
      · rw [f7]; exact hpa.append hqb
  obtain ⟨bs', w1, w2, w3⟩ := hvf
  k_steps
  unfold Stuck
  refine' c_onret ?b0 ?b1 ?b2 ?b3 ?b4 ?b5 ?b6 ?b7 ?b8 ?b9 ?b10 ?b11 ?b12 ?_
  case b0 => k_units
  case b1 => k_asm
  case b2 => (refine' News.picks (xs := [_, _, _]) ?cc ?dd; (case cc => k_asm); (case dd => k_memK))
  case b3 => k_room
  case b4 => exact l1
  case b5 => exact l2
  case b6 => k_all
  case b7 => k_all
  case b8 => omega
  case b9 => exact hI
  case b10 => omega
  case b11 => exact hlo
  case b12 =>
    intro v hv
    obtain ⟨t9, z⟩ := hkv _ hv
    refine ⟨_, t9, z, fun q => hkp.2.2.2.2.2 (cidA_inj hkp.1 hkp.2.2.1 hkp.2.1 hkp.2.2.2.1 q)⟩
  intro h8 tk8 o8 hI8 F8 N8
  k_steps
  · refine' h _ _ _ _ bs' _ _ _ _ n u a b efs w1 w2 w3 hD ?g1 hI8 ?g3 ?g4
    case g4 => k_types
    case g1 => rw [if_pos (by k_asm)]
    case g3 => k_asm
  · refine' h _ _ _ _ bs' _ _ _ _ n u a b efs w1 w2 w3 ?i7 ?i1 hI8 ?i3 ?i4
    case i4 => k_types
    case i7 =>
      first
      | exact IntsAre.append hD (IntsAre.cons n u1 IntsAre.nil)
      | (rw [show (dvs.toArray.push (Value.int n u1)).toList = dvs ++ [Value.int n u1] from by simp]
         exact IntsAre.append hD (IntsAre.cons n u1 IntsAre.nil))
    case i1 => rw [if_neg (by k_asm)]
    case i3 => k_asm
end
end
section
local macro_rules | `(tactic| walk_at "no such key") => `(tactic| skip)
local macro_rules | `(tactic| walk_at "exec For Tuple Call cons nil") => `(tactic| (k_here; (rename Fr _ _ _ _ => lF'); (with_unfolding_all refine' For_LT lF' ?_; k_whole)))
section
variable {w : World} {A₀ : Around} {base h₀ : Heap} {env : Env} {outer : List Env} {dp un : Nat} {gs : Option (List Code)} {L : Addr} {m mg mb : Str → Option Value} {mean : ExcName → Option Value} {news post : List (Addr × Obj)} {sh : Heap} {sg : Array GenState} {sd : Drawn} {tk₀ : Nat} {so : OsState} {Q : Value → Shared → Prop} {E : Value → Shared → Prop}
  {xu du kn us td tr : Nat} {lim cur rp : Int} {k1 k2 k3 k4 k5 k6 k7 k8 t1 t3 t5 : Tok} {oK oT : Obj} {kvs tvs : List (Int × Value)} {uvs rvs : List Value} {uns rns : List Int} {nu nr : Nat}
  {fo nt ba he tl dn as : Nat} {ll : Int} {t8 : Tok} {oN : Obj} {bvs tlvs : List Value} {bs : List (Int × Int)} {tlns : List Int} {nb nl : Nat} {fr : List (Addr × Obj)}
theorem AllLt.name {d : Addr} {l : List (Addr × Obj)} (_h : AllLt d l) : ∃ t : Addr, t = d := ⟨d, rfl⟩
theorem c_tells (C : Cx w A₀ base h₀ env outer L mg mb mean) (F : Fr h₀ L sh m) (N : News h₀ L sh ((du, remD w kn us td tr lim cur rp k1 k2 k3 k4 k5 k6 k7 k8 t1 t3 t5) :: (xu, instObj 190 du) :: (tr, W.listOf rvs.toArray nr) :: (ba, W.listOf bvs.toArray nb) :: (tl, W.listOf tlvs.toArray nl) :: post)) (hdep : dp < 440)
  (l1 : du < xu) (l2 : xu < tr) (l6 : ba < tl) (l7 : tl < du) (p1 : ∀ p ∈ post, p.1 ≠ du) (p2 : ∀ p ∈ post, p.1 ≠ ba) (p3 : ∀ p ∈ post, p.1 ≠ tl)
  (hn : (nt, oN) ∈ post) (hN : oN.IsDictOf (PySem.strKind PySem.Challenge.rw_sj0110_01.row.prog w) (netL fo ba he tl dn as ll t8)) (hkm : (kn, oK) ∈ post)
  (hR : IntsAre rvs rns) (hrl : rns.length ≤ 500) (hK : oK.IsDictOf (PySem.intKind PySem.Challenge.rw_sj0110_01.row.prog w) kvs) (hkl : kvs.length < 60) (hlo : (kn == sysModules) = false) (hck : cur ∈ kvs.map (·.1))
  (hkv : ∀ p ∈ kvs, PairAt post p.2 (cidA p.1))
  (hfl : bvs.length ≤ 400) (hfa : ValsAre (BackAt fr) bvs bs) (hH : IntsAre tlvs tlns) (hhl : tlns.length ≤ 400)
  (h : ∀ h' tk' (tr' : Nat) nr' bvs' nb' tlvs' nl' (tups : List (Addr × Obj)), IntsAre tlvs' (tlns ++ rns) → ValsAre (BackAt (tups ++ fr)) bvs' (bs ++ rns.map fun n => (n, cur)) → @LT.lt Nat _ xu tr' → (∀ q ∈ post, @LT.lt Nat _ q.1 tr') →
    (∀ p ∈ tups, (∃ its, p.2 = tupOf its) ∧ @LT.lt Nat _ tr' p.1) → Fr h₀ L h' m →
    News h₀ L h' ((du, remD w kn us td tr' lim cur rp k1 k2 k3 k4 k5 k6 k7 k8 t1 t3 t5) :: (xu, instObj 190 du) :: (tr', W.listOf (#[] : Array Value) nr') :: (ba, W.listOf bvs'.toArray nb') :: (tl, W.listOf tlvs'.toArray nl') :: (tups ++ post)) → Q .none ⟨h', sg, sd, tk', so⟩) :
  wpAny (model PySem.Challenge.rw_sj0110_01.row.prog w) (⟨none, dp, some (env :: outer), gs, un⟩ : Around) (call (.ref 229) [.ref nt, .ref xu] []) Q E ⟨sh, sg, sd, tk₀, so⟩ := by
  obtain ⟨B, X, T, hf, hke⟩ := C
  w_top off
  k_go0
  refine wpAny_call ?_
  open_k with [(("net" : Str), Value.ref nt), (("user" : Str), Value.ref xu)]
  k_steps
  unfold Stuck
  refine' c_frames ?b0 ?b1 ?b2 ?b3 ?b4 ?b5 ?b6 ?b7 ?b8 ?_
  case b0 => k_units
  case b1 => k_asm
  case b2 => k_asm
  case b3 => k_room
  case b4 => exact l1
  case b5 => exact l2
  case b6 => k_all
  case b7 => exact hR
  case b8 => exact hrl
  intro h7 tk7 D c ys tups0 tr' nr' hy g1 g2 g3 g4 g5 g6 F7 N7
  k_steps
  have hyl := hy.length
  have o1 : @LT.lt Nat _ tl tr' := g2 (tl, W.listOf tlvs.toArray nl) (by k_mem)
  have o2 : @LT.lt Nat _ ba tr' := g2 (ba, W.listOf bvs.toArray nb) (by k_mem)
  have o3 : @LT.lt Nat _ du tr' := g2 (du, remD w kn us td tr lim cur rp k1 k2 k3 k4 k5 k6 k7 k8 t1 t3 t5) (by k_mem)
  have o4 : @LT.lt Nat _ xu tr' := g2 (xu, instObj 190 du) (by k_mem)
  have o5 : @Ne Nat tl D := g6 (tl, W.listOf tlvs.toArray nl) (by k_mem)
  have o6 : @Ne Nat ba D := g6 (ba, W.listOf bvs.toArray nb) (by k_mem)
  have hrl0 := hR.length
  refine ⟨(Str.ofString "kind"), (Str.ofString "number"), D, ys.toArray, c, _, fun i nw => ∃ (tups : List (Addr × Obj)) (bvs' : List Value) (nb' : Nat) (tlvs' : List Value) (nl' : Nat), nw = (du, remD w kn us td tr' lim cur rp k1 k2 k3 k4 k5 k6 k7 k8 t1 t3 t5) :: (xu, instObj 190 du) :: (tr', W.listOf (#[] : Array Value) nr') :: (ba, W.listOf bvs'.toArray nb') :: (tl, W.listOf tlvs'.toArray nl') :: (tups ++ (tups0 ++ post)) ∧ IntsAre tlvs' (tlns ++ rns.take i) ∧ ValsAre (BackAt (tups ++ fr)) bvs' (bs ++ (rns.take i).map fun n => (n, cur)) ∧ ∀ p ∈ tups, (∃ its, p.2 = tupOf its) ∧ @LT.lt Nat _ tr' p.1, rfl, by exact rfl, by k_asm, ?N, ⟨[], bvs, nb, tlvs, nl, rfl, ?j1, ?j2, fun _ h => nomatch h⟩, ?turn, ?done⟩
  case N =>
    refine News.of N7 ?_
    intro p hp
    simp only [List.mem_cons, List.mem_append, List.nil_append] at hp ⊢
    rcases hp with hp | hp | hp | hp | hp | hp | hp | hp <;> simp [hp]
  case j1 => rw [List.take_zero, List.append_nil]; exact hH
  case j2 => rw [List.take_zero, List.map_nil, List.append_nil, List.nil_append]; exact hfa
  case turn =>
    rintro i v I own news₁ h9 gn9 dr9 tk9 os9 u1 u2 hv ⟨tups, bvs9, nb9, tlvs9, nl9, rfl, hT9, hB9, ht9⟩ hown hoff hlt9 hlD ⟨oi9, hoi9⟩ F9 N9
    obtain ⟨a5, x5, tk5, n5, t5', e5, rfl, hn5, hm5⟩ := hy.at i v (by simpa using hv)
    have hi5 : i < rns.length := (List.getElem?_eq_some_iff.mp hn5).1
    obtain ⟨X, hX⟩ : ∃ X, X = (tups ++ (tups0 ++ post)) ++ own := ⟨_, rfl⟩
    replace N9 := News.of (news := (du, remD w kn us td tr' lim cur rp k1 k2 k3 k4 k5 k6 k7 k8 t1 t3 t5) :: (xu, instObj 190 du) :: (tr', W.listOf (#[] : Array Value) nr') :: (ba, W.listOf bvs9.toArray nb9) :: (tl, W.listOf tlvs9.toArray nl9) :: X) N9 (by
      rw [hX]; exact fun p hp => hp)
    have hm6 : (a5, ({ cls := .type "tuple", data := .seq #[.str x5 tk5, .int n5 t5'] e5 } : Obj)) ∈ X := by
      rw [hX]; exact List.mem_append_left _ (List.mem_append_right _ (List.mem_append_left _ hm5))
    have hpX : ∀ p ∈ post, p ∈ X := fun p hp => by
      rw [hX]; exact List.mem_append_left _ (List.mem_append_right _ (List.mem_append_right _ hp))
    have hn6 := hpX _ hn
    have hk6 := hpX _ hkm
    simp only [List.forall_mem_cons] at hlt9 hoff
    obtain ⟨ni3, ni4, ni5, ni1, ni2, ni6⟩ := hoff
    have hXba : ∀ p ∈ X, p.1 ≠ ba ∧ p.1 ≠ tl := by
      intro p hp
      rw [hX] at hp
      rcases List.mem_append.mp hp with hp | hp
      · rcases List.mem_append.mp hp with hp | hp
        · have z := (ht9 p hp).2
          refine ⟨neN ?_, neN ?_⟩ <;> omega
        · rcases List.mem_append.mp hp with hp | hp
          · exact ⟨Ne.symm (Nat.ne_of_lt (g1 p hp (ba, W.listOf bvs.toArray nb) (by k_mem))), Ne.symm (Nat.ne_of_lt (g1 p hp (tl, W.listOf tlvs.toArray nl) (by k_mem)))⟩
          · exact ⟨p2 p hp, p3 p hp⟩
      · rcases hown p hp with e | e <;> rw [e]
        · exact ⟨Ne.symm ni1, Ne.symm ni2⟩
        · exact ⟨Ne.symm o6, Ne.symm o5⟩
    have q2 : ∀ p ∈ X, p.1 ≠ ba := fun p hp => (hXba p hp).1
    have q3 : ∀ p ∈ X, p.1 ≠ tl := fun p hp => (hXba p hp).2
    have hl5 : tlvs9.length ≤ 1000 := by
      have e1 := hT9.length
      rw [List.length_append, List.length_take] at e1
      omega
    have hl6 : bvs9.length ≤ 1000 := by
      have e1 := hB9.length
      have e2 := hfa.length
      rw [List.length_append, List.length_map, List.length_take] at e1
      omega
    k_steps
    unfold Stuck
    refine' c_present (c := cidA cur) ?c0 ?c1 ?c2 ?c3 ?c4 ?c5 ?c6 ?c7 ?c8 ?c9 ?c10 ?_
    case c0 => k_units
    case c1 => k_asm
    case c2 => k_asm
    case c3 => k_room
    case c4 => k_mem
    case c5 => k_mem
    case c6 => k_mem
    case c7 => exact hK
    case c8 => exact hlo
    case c9 => exact hck
    case c10 => exact fun v hv => (hkv _ hv).mono fun p hp => by have := hpX p hp; k_mem
    intro h8 tk8 t8 F8 N8
    k_steps
    rename _ ∧ _ ∧ _ ∧ _ ∧ _ ∧ AllLt _ X => hl8
    obtain ⟨b1, b2, b3, b4, b5, b6⟩ := hl8
    obtain ⟨t9, ht9e⟩ := AllLt.name b6
    subst ht9e
    have hX9 := allLt_mem b6
    have htk : rns.take (i + 1) = rns.take i ++ [n5] := by rw [List.take_add_one, hn5]; rfl
    refine' ⟨rfl, _, _, _, (du, remD w kn us td tr' lim cur rp k1 k2 k3 k4 k5 k6 k7 k8 t1 t3 t5) :: (xu, instObj 190 du) :: (tr', W.listOf (#[] : Array Value) nr') :: (ba, W.listOf (bvs9 ++ [Value.ref t9]).toArray (nb9 + 1)) :: (tl, W.listOf (tlvs9 ++ [Value.int n5 t5']).toArray (nl9 + 1)) :: (((t9, tupOf #[Value.int n5 t5', Value.bytes (cidA cur) t8]) :: tups) ++ (tups0 ++ post)), rfl, ?e1, ?e2, ?e3, ?e4, ⟨_, _, _, _, _, rfl, ?e5, ?e6, ?e7⟩⟩
    case e1 => k_asm
    case e2 => exact fun y h1 h2 => by simp [h1, h2]
    case e3 =>
      refine' News.of ?e8 ?e9
      case e8 => k_asm
      intro p hp
      simp only [hX, List.mem_cons, List.mem_append, List.cons_append] at hp ⊢
      rcases hp with hp | hp | hp | hp | hp | hp | (hp | hp | hp) | hp <;> simp [hp]
    case e4 =>
      have ni7 : @Ne Nat t9 I := Ne.symm (Nat.ne_of_lt (hX9 (I, oi9) (by rw [hX]; exact List.mem_append_right _ hoi9)))
      exact List.forall_mem_cons.mpr ⟨ni3, List.forall_mem_cons.mpr ⟨ni4, List.forall_mem_cons.mpr ⟨ni5, List.forall_mem_cons.mpr ⟨ni1, List.forall_mem_cons.mpr ⟨ni2, List.forall_mem_cons.mpr ⟨ni7, ni6⟩⟩⟩⟩⟩⟩
    case e5 => rw [htk, ← List.append_assoc]; exact IntsAre.append hT9 (IntsAre.cons n5 t5' IntsAre.nil)
    case e6 =>
      rw [htk, List.map_append, ← List.append_assoc]
      refine (hB9.mono fun v x hx => hx.mono fun p hp => List.mem_cons_of_mem _ hp).append (.cons ⟨t9, 0, t5', t8, rfl, List.mem_cons_self⟩ .nil)
    case e7 => exact List.forall_mem_cons.mpr ⟨⟨⟨_, rfl⟩, b3⟩, ht9⟩
  case done =>
    intro u1 u2 h9 tk9 nw9 hJ9 F9 N9
    obtain ⟨tups, bvs9, nb9, tlvs9, nl9, rfl, hT9, hB9, ht9⟩ := hJ9
    rw [List.take_of_length_le (by simp only [List.size_toArray]; omega)] at hT9 hB9
    k_steps
    refine' h _ _ tr' nr' bvs9 nb9 tlvs9 nl9 tups hT9 hB9 o4 ?d1 ht9 ?F ?N
    case N =>
      refine' News.of ?n1 ?n2
      case n1 => k_asm
      intro p hp
      simp only [List.mem_cons, List.mem_append] at hp ⊢
      rcases hp with hp | hp | hp | hp | hp | hp | hp <;> simp [hp]
    case F => k_asm
    case d1 => exact fun q hq => g2 q (by k_mem)
end
end
section
/-- the law's state, as plain data -/
structure St where
  lim : Int
  nx : Int
  rpI : Int
  cur : Int
  rpU : Int
  iss : List Int
  kn : List Int
  tr : List Int
  he : List Int
  tl : List Int
  dn : List Int
  us : List Int
  fo : List (Int × Int)
  ba : List (Int × Int)
def AskS (σ σ' : St) : Prop := ∃ p : Int, 0 ≤ p ∧ σ' = { σ with rpI := max σ.rpI (min p σ.nx) }
def ChangeS (σ σ' : St) : Prop := ∃ cur' us' kn' tr', σ' = { σ with cur := cur', us := us', kn := kn', tr := tr' } ∧ us'.length ≤ σ.us.length + 2 ∧ ((kn' = σ.kn ∧ tr' = σ.tr) ∨ (kn' = σ.kn.filter (fun q => !decide (q = σ.cur)) ∧ tr' = σ.tr ++ [σ.cur])) ∧ cur' ∈ us' ∧ cur' ∈ kn'
def ComesS (pk : Int) (σ σ' : St) : Prop := ∃ k pr a b fs' cur' rp' us' kn' tr' he', σ.fo = a ++ (k, pr) :: b ∧ (fs' = σ.fo ∨ fs' = a ++ b) ∧ (pk = 0 → a = [] ∧ fs' = b) ∧ OnNew k pr σ.rpU σ.kn σ.tr σ.he kn' tr' he' rp' ∧ cur' ∈ us' ∧ cur' ∈ kn' ∧ us'.length ≤ σ.us.length + σ.kn.length + 1 ∧ σ' = { σ with fo := fs', cur := cur', rpU := rp', us := us', kn := kn', tr := tr', he := he' }
def TellsS (σ σ' : St) : Prop := σ' = { σ with tl := σ.tl ++ σ.tr, ba := σ.ba ++ σ.tr.map fun n => (n, σ.cur), tr := [] }
def IssuedS (σ σ' : St) : Prop := (keptN σ.rpI σ.iss < σ.lim ∧ σ' = { σ with iss := σ.iss ++ [σ.nx], fo := σ.fo ++ [(σ.nx, σ.rpI)], nx := σ.nx + 1 }) ∨ (¬ keptN σ.rpI σ.iss < σ.lim ∧ σ' = σ)
def WordS (pk : Int) (σ σ' : St) : Prop := ∃ n u a b bs', σ.ba = a ++ (n, u) :: b ∧ (bs' = σ.ba ∨ bs' = a ++ b) ∧ (pk = 0 → a = [] ∧ bs' = b) ∧ σ' = { σ with ba := bs', iss := σ.iss.filter (fun q => !decide (q = n)), dn := if n ∈ σ.dn then σ.dn else σ.dn ++ [n] }
/-- the numbers from 0 on -/
def upTo (n : Int) : List Int := (List.range n.toNat).map Int.ofNat
/-- what holds behind each deed; pr: what was asked back when an id was issued -/
structure Inv (pr : Int → Int) (σ : St) : Prop where
  lim1 : 2 ≤ σ.lim
  lim2 : σ.lim ≤ 4
  nx1 : 1 ≤ σ.nx
  stand : (σ.kn ++ σ.tr ++ σ.tl).Perm σ.he
  hnd : σ.he.Nodup
  rng : (σ.iss ++ σ.dn).Perm (upTo σ.nx)
  dtl : ∀ n ∈ σ.dn, n ∈ σ.tl
  ck : σ.cur ∈ σ.kn
  cu : σ.cur ∈ σ.us
  kept : keptN σ.rpI σ.iss ≤ σ.lim
  hlt : ∀ n ∈ σ.he, 0 ≤ n ∧ n < σ.nx
  way : ∀ n, 1 ≤ n → n < σ.nx → n ∈ σ.he ∨ (n, pr n) ∈ σ.fo
  fos : ∀ f ∈ σ.fo, 1 ≤ f.1 ∧ f.1 < σ.nx ∧ f.2 = pr f.1
  prm : ∀ n n', 0 ≤ n → n ≤ n' → n' < σ.nx → pr n ≤ pr n'
  prn : ∀ n, 0 ≤ n → n < σ.nx → 0 ≤ pr n ∧ pr n ≤ n ∧ pr n ≤ σ.rpI
  rnx : σ.rpI ≤ σ.nx
  rp1 : ∀ n ∈ σ.he, pr n ≤ σ.rpU
  rp2 : ∃ n ∈ σ.he, σ.rpU = pr n
  bas : ∀ b ∈ σ.ba, b.1 ∈ σ.tl ∧ b.1 ≠ b.2 ∧ 0 ≤ b.2 ∧ b.2 < σ.nx
  tld : ∀ n ∈ σ.tl, n ∈ σ.dn ∨ ∃ u, (n, u) ∈ σ.ba
  room : ∀ g, 0 ≤ g → g < σ.nx → ((σ.iss.filter fun n => decide (pr g ≤ n ∧ n ≤ g)).length : Int) ≤ σ.lim
  klen : (σ.kn.length : Int) ≤ σ.lim
end
section
theorem cnt_split (a : Int) (p : Int → Bool) (l : List Int) : (l.filter p).count a + (l.filter fun x => !p x).count a = l.count a := by
  induction l with
  | nil => rfl
  | cons x l ih =>
    by_cases h : p x = true
    · rw [List.filter_cons_of_pos h, List.filter_cons_of_neg (by simpa using h), List.count_cons, List.count_cons]; omega
    · rw [List.filter_cons_of_neg h, List.filter_cons_of_pos (by simpa using h), List.count_cons, List.count_cons]; omega
theorem len_mono {p q : Int → Bool} {l : List Int} (h : ∀ x ∈ l, p x = true → q x = true) : (l.filter p).length ≤ (l.filter q).length := by
  rw [← List.countP_eq_length_filter, ← List.countP_eq_length_filter]
  exact List.countP_mono_left h
theorem cnt_ne (a c : Int) (l : List Int) : (l.filter fun q => !decide (q = c)).count a = if a = c then 0 else l.count a := by
  split
  · rename_i h
    subst h
    exact List.count_eq_zero.mpr fun z => by simpa using (List.mem_filter.mp z).2
  · rename_i h
    exact List.count_filter (by simpa using h)
theorem cnt_nodup {l : List Int} (h : l.Nodup) (a : Int) : l.count a = if a ∈ l then 1 else 0 := h.count
theorem onNew_told {k pr rp : Int} {K R T K' R' T' : List Int} {rp' : Int} (h : OnNew k pr rp K R T K' R' T' rp') : T' = if k ∈ T then T else T ++ [k] := by
  cases h with
  | againIn a => rw [if_pos a]
  | againOut a => rw [if_pos a]
  | late a => rw [if_neg a]
  | new a => rw [if_neg a]
theorem onNew_rp {k pr rp : Int} {K R T K' R' T' : List Int} {rp' : Int} (h : OnNew k pr rp K R T K' R' T' rp') (hp : pr ≤ k) : rp' = max rp pr := by
  cases h with
  | againIn a => rfl
  | againOut a => rfl
  | late a b => omega
  | new a => rfl
theorem onNew_count {k pr rp : Int} {K R T K' R' T' : List Int} {rp' : Int} (h : OnNew k pr rp K R T K' R' T' rp') (a : Int) : K'.count a + R'.count a + T.count a = K.count a + R.count a + T'.count a := by
  cases h with
  | @againIn ns h1 h2 h3 =>
    have e := cnt_split a (fun q => decide (max rp pr ≤ q)) K
    have e2 : (ns.filter fun q => decide (q < max rp pr)).count a = (K.filter fun q => !decide (max rp pr ≤ q)).count a := by
      rw [show (fun q : Int => !decide (max rp pr ≤ q)) = fun q => decide (q < max rp pr) from by funext q; by_cases z : q < max rp pr <;> simp [z] <;> omega]
      exact (h3.filter _).count_eq a
    rw [List.count_append]
    omega
  | againOut => rfl
  | late => rw [List.count_append, List.count_append]; omega
  | @new ns h1 h2 h3 =>
    have e := cnt_split a (fun q => decide (max rp pr ≤ q)) (K ++ [k])
    have e2 : (ns.filter fun q => decide (q < max rp pr)).count a = ((K ++ [k]).filter fun q => !decide (max rp pr ≤ q)).count a := by
      rw [show (fun q : Int => !decide (max rp pr ≤ q)) = fun q => decide (q < max rp pr) from by funext q; by_cases z : q < max rp pr <;> simp [z] <;> omega]
      exact (h3.filter _).count_eq a
    rw [List.count_append] at e
    rw [List.count_append, List.count_append]
    omega
/-- what is told next lies below the bound -/
theorem onNew_low {k pr rp : Int} {K R T K' R' T' : List Int} {rp' : Int} (h : OnNew k pr rp K R T K' R' T' rp') (n : Int) (hn : n ∈ R') : n ∈ R ∨ n < rp' := by
  cases h with
  | againIn => rcases List.mem_append.mp hn with z | z
               · exact .inl z
               · exact .inr (by simpa using (List.mem_filter.mp z).2)
  | againOut => exact .inl hn
  | late h1 h2 => rcases List.mem_append.mp hn with z | z
                  · exact .inl z
                  · exact .inr (by rw [List.mem_singleton.mp z]; exact h2)
  | new => rcases List.mem_append.mp hn with z | z
           · exact .inl z
           · exact .inr (by simpa using (List.mem_filter.mp z).2)
theorem inv_ask {pr : Int → Int} {σ σ' : St} (I : Inv pr σ) (h : AskS σ σ') : Inv pr σ' := by
  obtain ⟨p, hp, rfl⟩ := h
  exact { I with
    kept := Int.le_trans (Int.ofNat_le.mpr (len_mono fun x _ hx => by simp only [decide_eq_true_eq] at hx ⊢; omega)) I.kept
    prn := fun n h1 h2 => by have := I.prn n h1 h2; refine ⟨this.1, this.2.1, ?_⟩; dsimp only; omega
    rnx := by have := I.rnx; dsimp only; omega }
theorem inv_change {pr : Int → Int} {σ σ' : St} (I : Inv pr σ) (h : ChangeS σ σ') : Inv pr σ' := by
  obtain ⟨cur', us', kn', tr', rfl, h1, h2, h3, h4⟩ := h
  refine { I with stand := ?_, ck := h4, cu := h3, klen := ?klen }
  case klen =>
    rcases h2 with ⟨rfl, rfl⟩ | ⟨rfl, rfl⟩
    · exact I.klen
    · have := List.length_filter_le (fun q => !decide (q = σ.cur)) σ.kn
      have := I.klen
      dsimp only
      omega
  dsimp only
  rcases h2 with ⟨rfl, rfl⟩ | ⟨rfl, rfl⟩
  · exact I.stand
  · refine List.Perm.trans (List.perm_iff_count.mpr fun a => ?_) I.stand
    have nd : (σ.kn ++ σ.tr ++ σ.tl).Nodup := I.stand.nodup_iff.mpr I.hnd
    have e1 := cnt_nodup (List.nodup_append.mp (List.nodup_append.mp nd).1).1 a
    simp only [List.count_append, cnt_ne]
    have ck := I.ck
    by_cases z : a = σ.cur
    · subst z
      rw [if_pos ck] at e1
      simp only [if_true, List.count_singleton_self]
      omega
    · rw [if_neg z, List.count_singleton, if_neg (by simpa using Ne.symm z)]
      omega
theorem inv_tells {pr : Int → Int} {σ σ' : St} (I : Inv pr σ) (h : TellsS σ σ') : Inv pr σ' := by
  cases h
  have nd : (σ.kn ++ σ.tr ++ σ.tl).Nodup := I.stand.nodup_iff.mpr I.hnd
  refine { I with stand := ?_, dtl := ?_, bas := ?_, tld := ?_ }
  · refine List.Perm.trans (List.perm_iff_count.mpr fun a => ?_) I.stand
    simp only [List.count_append, List.count_nil]
    omega
  · exact fun n hn => List.mem_append_left _ (I.dtl n hn)
  · intro b hb
    rcases List.mem_append.mp hb with hb | hb
    · have := I.bas b hb
      exact ⟨List.mem_append_left _ this.1, this.2⟩
    · obtain ⟨n, hn, rfl⟩ := List.mem_map.mp hb
      have hc := I.hlt σ.cur (I.stand.mem_iff.mp (by simp [I.ck]))
      refine ⟨List.mem_append_right _ hn, fun z => ?_, hc.1, hc.2⟩
      have := (List.nodup_append.mp (List.nodup_append.mp nd).1).2.2 σ.cur I.ck n hn
      exact this z.symm
  · intro n hn
    rcases List.mem_append.mp hn with hn | hn
    · rcases I.tld n hn with z | ⟨u, z⟩
      · exact .inl z
      · exact .inr ⟨u, List.mem_append_left _ z⟩
    · exact .inr ⟨σ.cur, List.mem_append_right _ (List.mem_map.mpr ⟨n, hn, rfl⟩)⟩
end
section
theorem upTo_succ {n : Int} (h : 0 ≤ n) : upTo (n + 1) = upTo n ++ [n] := by
  unfold upTo
  rw [show (n + 1).toNat = n.toNat + 1 from by omega, List.range_succ, List.map_append]
  simp only [List.map_cons, List.map_nil, Int.ofNat_eq_natCast]
  rw [Int.toNat_of_nonneg h]
theorem mem_upTo {n k : Int} : k ∈ upTo n ↔ 0 ≤ k ∧ k < n := by
  unfold upTo
  simp only [List.mem_map, List.mem_range, Int.ofNat_eq_natCast]
  constructor
  · rintro ⟨a, h, rfl⟩; omega
  · rintro ⟨h1, h2⟩; exact ⟨k.toNat, by omega, by omega⟩
theorem upTo_nodup (n : Int) : (upTo n).Nodup := by
  unfold upTo
  rw [List.nodup_iff_pairwise_ne, List.pairwise_map]
  exact (List.nodup_iff_pairwise_ne.mp List.nodup_range).imp fun h z => h (Int.ofNat.inj z)
theorem Inv.iss_nodup {pr : Int → Int} {σ : St} (I : Inv pr σ) : σ.iss.Nodup := (List.nodup_append.mp (I.rng.nodup_iff.mpr (upTo_nodup _))).1
theorem Inv.all_nodup {pr : Int → Int} {σ : St} (I : Inv pr σ) : (σ.kn ++ σ.tr ++ σ.tl).Nodup := I.stand.nodup_iff.mpr I.hnd
theorem Inv.iss_lt {pr : Int → Int} {σ : St} (I : Inv pr σ) {n : Int} (h : n ∈ σ.iss) : 0 ≤ n ∧ n < σ.nx := mem_upTo.mp (I.rng.mem_iff.mp (List.mem_append_left _ h))
theorem Inv.dn_lt {pr : Int → Int} {σ : St} (I : Inv pr σ) {n : Int} (h : n ∈ σ.dn) : 0 ≤ n ∧ n < σ.nx := mem_upTo.mp (I.rng.mem_iff.mp (List.mem_append_right _ h))
theorem Inv.in_iss {pr : Int → Int} {σ : St} (I : Inv pr σ) {n : Int} (h0 : 0 ≤ n) (h1 : n < σ.nx) (h : n ∉ σ.dn) : n ∈ σ.iss := by
  have := I.rng.mem_iff.mpr (mem_upTo.mpr ⟨h0, h1⟩)
  exact (List.mem_append.mp this).resolve_right h
theorem Inv.iss_dn {pr : Int → Int} {σ : St} (I : Inv pr σ) {n : Int} (h0 : n ∈ σ.iss) : n ∉ σ.dn := fun h => (List.nodup_append.mp (I.rng.nodup_iff.mpr (upTo_nodup _))).2.2 n h0 n h rfl
theorem Inv.kn_tl {pr : Int → Int} {σ : St} (I : Inv pr σ) {n : Int} (h0 : n ∈ σ.kn) : n ∉ σ.tl := fun h => (List.nodup_append.mp I.all_nodup).2.2 n (List.mem_append_left _ h0) n h rfl
theorem Inv.kn_he {pr : Int → Int} {σ : St} (I : Inv pr σ) {n : Int} (h0 : n ∈ σ.kn) : n ∈ σ.he := I.stand.mem_iff.mp (by simp [h0])
theorem Inv.kn_iss {pr : Int → Int} {σ : St} (I : Inv pr σ) {n : Int} (h0 : n ∈ σ.kn) : n ∈ σ.iss := by
  have := I.hlt n (I.kn_he h0)
  exact I.in_iss this.1 this.2 fun z => I.kn_tl h0 (I.dtl n z)
theorem Inv.tl_he {pr : Int → Int} {σ : St} (I : Inv pr σ) {n : Int} (h0 : n ∈ σ.tl) : n ∈ σ.he := I.stand.mem_iff.mp (by simp [h0])
theorem Inv.rpUI {pr : Int → Int} {σ : St} (I : Inv pr σ) : σ.rpU ≤ σ.rpI := by
  obtain ⟨n, h1, h2⟩ := I.rp2
  have := I.hlt n h1
  have := (I.prn n this.1 this.2).2.2
  omega
theorem inv_issued {pr : Int → Int} {σ σ' : St} (I : Inv pr σ) (h : IssuedS σ σ') : ∃ pr', Inv pr' σ' := by
  rcases h with ⟨hlt, rfl⟩ | ⟨_, rfl⟩
  · refine ⟨fun n => if n = σ.nx then σ.rpI else pr n, ?_⟩
    have n1 := I.nx1
    have old : ∀ n, n < σ.nx → (if n = σ.nx then σ.rpI else pr n) = pr n := fun n hn => if_neg (by omega)
    have p0 := I.prn 0 (by omega) (by omega)
    have rnx := I.rnx
    have key : ((σ.iss ++ [σ.nx]).filter fun k => decide (σ.rpI ≤ k)).length ≤ ((σ.iss).filter fun k => decide (σ.rpI ≤ k)).length + 1 := by
      rw [List.filter_append, List.length_append]
      have := List.length_filter_le (fun k => decide (σ.rpI ≤ k)) [σ.nx]
      simp only [List.length_singleton] at this
      omega
    refine { lim1 := I.lim1, lim2 := I.lim2, nx1 := ?_, stand := I.stand, hnd := I.hnd, rng := ?_, dtl := I.dtl, ck := I.ck, cu := I.cu, kept := ?_, hlt := ?_, way := ?_, fos := ?_, prm := ?_, prn := ?_, rnx := ?_, rp1 := ?_, rp2 := ?_, bas := ?_, tld := I.tld, room := ?_, klen := I.klen }
    · dsimp only; omega
    · dsimp only
      rw [upTo_succ (by omega)]
      refine List.perm_iff_count.mpr fun a => ?_
      have := I.rng.count_eq a
      simp only [List.count_append] at this ⊢
      omega
    · dsimp only at hlt ⊢
      unfold keptN at hlt ⊢
      omega
    · intro n hn; have := I.hlt n hn; dsimp only; omega
    · intro n h1 h2
      dsimp only at h2 ⊢
      by_cases z : n = σ.nx
      · rw [if_pos z, z]; exact .inr (List.mem_append_right _ List.mem_cons_self)
      · rw [if_neg z]
        rcases I.way n h1 (by omega) with q | q
        · exact .inl q
        · exact .inr (List.mem_append_left _ q)
    · intro f hf
      dsimp only
      rcases List.mem_append.mp hf with q | q
      · have := I.fos f q
        rw [old _ this.2.1]
        exact ⟨this.1, by omega, this.2.2⟩
      · rw [List.mem_singleton.mp q]
        exact ⟨by dsimp only; omega, by dsimp only; omega, by dsimp only; rw [if_pos rfl]⟩
    · intro n n' h1 h2 h3
      dsimp only at h3 ⊢
      by_cases z' : n' = σ.nx
      · rw [if_pos z']
        by_cases z : n = σ.nx
        · rw [if_pos z]; exact Int.le_refl _
        · rw [if_neg z]; exact (I.prn n h1 (by omega)).2.2
      · rw [if_neg z', if_neg (by omega)]
        exact I.prm n n' h1 h2 (by omega)
    · intro n h1 h2
      dsimp only at h2 ⊢
      by_cases z : n = σ.nx
      · rw [if_pos z]; omega
      · rw [if_neg z]; exact I.prn n h1 (by omega)
    · dsimp only; omega
    · intro n hn
      dsimp only
      rw [old _ (I.hlt n hn).2]
      exact I.rp1 n hn
    · obtain ⟨n, hn, e⟩ := I.rp2
      exact ⟨n, hn, by dsimp only; rw [old _ (I.hlt n hn).2]; exact e⟩
    · intro b hb; have := I.bas b hb; exact ⟨this.1, this.2.1, this.2.2.1, by dsimp only; omega⟩
    · intro g h1 h2
      dsimp only at h2 ⊢
      by_cases z : g = σ.nx
      · rw [if_pos z]
        have := len_mono (p := fun n => decide (σ.rpI ≤ n ∧ n ≤ g)) (q := fun n => decide (σ.rpI ≤ n)) (l := σ.iss ++ [σ.nx]) fun x _ hx => by simp only [decide_eq_true_eq] at hx ⊢; exact hx.1
        unfold keptN at hlt
        omega
      · rw [if_neg z, List.filter_append, List.filter_cons_of_neg (by simp; omega), List.filter_nil, List.append_nil]
        exact I.room g h1 (by omega)
  · exact ⟨pr, I⟩
theorem inv_word {pr : Int → Int} {σ σ' : St} {pk : Int} (I : Inv pr σ) (h : WordS pk σ σ') : Inv pr σ' := by
  obtain ⟨n, u, a, b, bs', e1, e2, e3, rfl⟩ := h
  have hin : (n, u) ∈ σ.ba := by rw [e1]; exact List.mem_append_right _ List.mem_cons_self
  have hb := I.bas _ hin
  have hn := I.hlt n (I.tl_he hb.1)
  have hsub : ∀ x ∈ bs', x ∈ σ.ba := by
    rcases e2 with rfl | rfl
    · exact fun x hx => hx
    · intro x hx
      rw [e1]
      rcases List.mem_append.mp hx with q | q
      · exact List.mem_append_left _ q
      · exact List.mem_append_right _ (List.mem_cons_of_mem _ q)
  have hdn : ∀ x, x ∈ (if n ∈ σ.dn then σ.dn else σ.dn ++ [n]) ↔ x ∈ σ.dn ∨ x = n := by
    intro x
    split
    · rename_i z; exact ⟨.inl, fun q => q.elim id fun q => q ▸ z⟩
    · simp
  refine { I with rng := ?_, dtl := ?_, kept := ?_, bas := fun x hx => I.bas x (hsub x hx), tld := ?_, room := ?_ }
  · refine List.Perm.trans (List.perm_iff_count.mpr fun x => ?_) I.rng
    dsimp only
    rw [List.count_append, List.count_append, cnt_ne]
    have c1 := cnt_nodup I.iss_nodup x
    by_cases z : n ∈ σ.dn
    · rw [if_pos z]
      by_cases q : x = n
      · rw [if_pos q]
        rw [if_neg (fun w => I.iss_dn w (q ▸ z))] at c1
        omega
      · rw [if_neg q]
    · rw [if_neg z, List.count_append]
      by_cases q : x = n
      · rw [if_pos q, q, List.count_singleton_self]
        rw [q, if_pos (I.in_iss hn.1 hn.2 z)] at c1
        omega
      · rw [if_neg q, List.count_singleton, if_neg (by simpa using Ne.symm q)]
        omega
  · intro x hx
    rcases (hdn x).mp hx with q | q
    · exact I.dtl x q
    · rw [q]; exact hb.1
  · refine Int.le_trans (Int.ofNat_le.mpr ?_) I.kept
    dsimp only
    rw [List.filter_filter]
    exact len_mono fun x _ hx => by simp only [Bool.and_eq_true] at hx; exact hx.1
  · intro x hx
    rcases I.tld x hx with q | ⟨u', q⟩
    · exact .inl ((hdn x).mpr (.inl q))
    · rcases e2 with r | r
      · exact .inr ⟨u', by dsimp only; rw [r]; exact q⟩
      · by_cases w : x = n
        · exact .inl ((hdn x).mpr (.inr w))
        · refine .inr ⟨u', ?_⟩
          dsimp only
          rw [r]
          rw [e1] at q
          rcases List.mem_append.mp q with q | q
          · exact List.mem_append_left _ q
          · rcases List.mem_cons.mp q with q | q
            · exact absurd (congrArg Prod.fst q) w
            · exact List.mem_append_right _ q
  · intro g h1 h2
    refine Int.le_trans (Int.ofNat_le.mpr ?_) (I.room g h1 h2)
    dsimp only
    rw [List.filter_filter]
    exact len_mono fun x _ hx => by simp only [Bool.and_eq_true] at hx; exact hx.1
end
section
theorem greatest : ∀ (l : List Int), l ≠ [] → ∃ g ∈ l, ∀ x ∈ l, x ≤ g := by
  intro l
  induction l with
  | nil => intro h; exact absurd rfl h
  | cons a l ih =>
    intro _
    by_cases hl : l = []
    · exact ⟨a, List.mem_cons_self, by simp [hl]⟩
    · obtain ⟨g, h1, h2⟩ := ih hl
      by_cases z : g ≤ a
      · refine ⟨a, List.mem_cons_self, fun x hx => ?_⟩
        rcases List.mem_cons.mp hx with q | q
        · omega
        · have := h2 x q; omega
      · refine ⟨g, List.mem_cons_of_mem _ h1, fun x hx => ?_⟩
        rcases List.mem_cons.mp hx with q | q
        · omega
        · exact h2 x q
theorem sub_len : ∀ {l l' : List Int}, l.Nodup → (∀ x ∈ l, x ∈ l') → l.length ≤ l'.length := by
  intro l
  induction l with
  | nil => intro l' _ _; exact Nat.zero_le _
  | cons a l ih =>
    intro l' h1 h2
    have ha := h2 a List.mem_cons_self
    have h3 := ih (l' := l'.erase a) (List.nodup_cons.mp h1).2 fun x hx => by
      have hne : x ≠ a := fun z => (List.nodup_cons.mp h1).1 (z ▸ hx)
      exact (List.mem_erase_of_ne hne).mpr (h2 x (List.mem_cons_of_mem _ hx))
    have h4 := List.length_erase_of_mem ha
    have h5 := List.length_pos_of_mem ha
    rw [List.length_cons]
    omega
theorem Inv.new_room {pr : Int → Int} {σ : St} (I : Inv pr σ) {k : Int} (h1 : 1 ≤ k) (h2 : k < σ.nx) (hk : k ∉ σ.he) : (((σ.kn ++ [k]).filter fun q => decide (max σ.rpU (pr k) ≤ q)).length : Int) ≤ σ.lim := by
  obtain ⟨g, hg, hmax⟩ := greatest (σ.he ++ [k]) (by simp)
  have hgl : 0 ≤ g ∧ g < σ.nx := by
    rcases List.mem_append.mp hg with q | q
    · exact I.hlt g q
    · rw [List.mem_singleton.mp q]; omega
  obtain ⟨n0, hn0, e0⟩ := I.rp2
  have hkg := hmax k (List.mem_append_right _ List.mem_cons_self)
  have hng := hmax n0 (List.mem_append_left _ hn0)
  have hp1 := I.prm k g (by omega) hkg hgl.2
  have hp2 := I.prm n0 g (I.hlt n0 hn0).1 hng hgl.2
  refine Int.le_trans (Int.ofNat_le.mpr (sub_len ?_ fun x hx => ?_)) (I.room g hgl.1 hgl.2)
  · refine List.Nodup.sublist List.filter_sublist ?_
    rw [List.nodup_append]
    refine ⟨(List.nodup_append.mp (List.nodup_append.mp I.all_nodup).1).1, by simp, fun x hx y hy z => hk ?_⟩
    rw [← List.mem_singleton.mp hy, ← z]
    exact I.kn_he hx
  · obtain ⟨h3, h4⟩ := List.mem_filter.mp hx
    simp only [decide_eq_true_eq] at h4
    have h5 : x ≤ g := hmax x (by
      rcases List.mem_append.mp h3 with q | q
      · exact List.mem_append_left _ (I.kn_he q)
      · exact List.mem_append_right _ q)
    have h6 : pr g ≤ max σ.rpU (pr k) := by
      rcases List.mem_append.mp hg with q | q
      · have := I.rp1 g q; omega
      · rw [List.mem_singleton.mp q]; omega
    refine List.mem_filter.mpr ⟨?_, by simp only [decide_eq_true_eq]; exact ⟨by omega, h5⟩⟩
    rcases List.mem_append.mp h3 with q | q
    · exact I.kn_iss q
    · rw [List.mem_singleton.mp q]
      exact I.in_iss (by omega) h2 fun z => hk (I.tl_he (I.dtl k z))
theorem inv_comes {pr : Int → Int} {σ σ' : St} {pk : Int} (I : Inv pr σ) (h : ComesS pk σ σ') : Inv pr σ' := by
  obtain ⟨k, p, a, b, fs', cur', rp', us', kn', tr', he', e1, e2, e3, on, c1, c2, c3, rfl⟩ := h
  have hin : (k, p) ∈ σ.fo := by rw [e1]; exact List.mem_append_right _ List.mem_cons_self
  obtain ⟨h1, h2, h3⟩ := I.fos _ hin
  dsimp only at h1 h2 h3
  subst h3
  have hpk := (I.prn k (by omega) h2).2.1
  have hrp := onNew_rp on hpk
  have hhe := onNew_told on
  have hmem : ∀ n, n ∈ he' ↔ n ∈ σ.he ∨ n = k := by
    intro n
    rw [hhe]
    split
    · rename_i z; exact ⟨.inl, fun q => q.elim id fun q => q ▸ z⟩
    · simp
  have hsub : ∀ x ∈ fs', x ∈ σ.fo := by
    rcases e2 with rfl | rfl
    · exact fun x hx => hx
    · intro x hx
      rw [e1]
      rcases List.mem_append.mp hx with q | q
      · exact List.mem_append_left _ q
      · exact List.mem_append_right _ (List.mem_cons_of_mem _ q)
  refine { I with stand := ?_, hnd := ?_, ck := c2, cu := c1, hlt := ?_, way := ?_, fos := fun f hf => I.fos f (hsub f hf), rp1 := ?_, rp2 := ?_, klen := ?_ }
  · refine List.perm_iff_count.mpr fun x => ?_
    have f1 := onNew_count on x
    have f2 := I.stand.count_eq x
    simp only [List.count_append] at f2 ⊢
    omega
  · dsimp only
    rw [hhe]
    split
    · exact I.hnd
    · rename_i z
      rw [List.nodup_append]
      exact ⟨I.hnd, by simp, fun x hx y hy q => z (by rw [← List.mem_singleton.mp hy, ← q]; exact hx)⟩
  · intro n hn
    rcases (hmem n).mp hn with q | q
    · exact I.hlt n q
    · rw [q]; exact ⟨by omega, h2⟩
  · intro n n1 n2
    dsimp only
    rcases I.way n n1 n2 with q | q
    · exact .inl ((hmem n).mpr (.inl q))
    · rcases e2 with r | r
      · exact .inr (by rw [r]; exact q)
      · by_cases w : n = k
        · exact .inl ((hmem n).mpr (.inr w))
        · refine .inr ?_
          rw [r]
          rw [e1] at q
          rcases List.mem_append.mp q with q | q
          · exact List.mem_append_left _ q
          · rcases List.mem_cons.mp q with q | q
            · exact absurd (congrArg Prod.fst q) w
            · exact List.mem_append_right _ q
  · intro n hn
    dsimp only
    rcases (hmem n).mp hn with q | q
    · have := I.rp1 n q; omega
    · rw [q]; omega
  · obtain ⟨n0, hn0, e0⟩ := I.rp2
    dsimp only
    by_cases z : pr k ≤ σ.rpU
    · exact ⟨n0, (hmem _).mpr (.inl hn0), by omega⟩
    · exact ⟨k, (hmem _).mpr (.inr rfl), by omega⟩
  · have kl := I.klen
    dsimp only
    cases on with
    | againIn => exact Int.le_trans (Int.ofNat_le.mpr (List.length_filter_le _ _)) kl
    | againOut => exact kl
    | late => exact kl
    | new z => exact I.new_room h1 h2 z
end
section
/-- how large things are behind T deeds -/
structure Sz (T : Nat) (σ : St) : Prop where
  z1 : σ.nx ≤ 1 + T
  z2 : (σ.fo.length : Int) + 1 ≤ σ.nx
  z3 : σ.ba.length ≤ σ.tl.length
  z4 : σ.us.length + 6 * σ.fo.length ≤ 1 + 12 * T
  z5 : (0 : Int) ∈ σ.he
def Good (T : Nat) (σ : St) : Prop := (∃ pr, Inv pr σ) ∧ Sz T σ
def Deed (σ σ' : St) : Prop := AskS σ σ' ∨ ChangeS σ σ' ∨ (∃ pk, ComesS pk σ σ') ∨ TellsS σ σ' ∨ IssuedS σ σ' ∨ (∃ pk, WordS pk σ σ') ∨ σ' = σ
theorem Sz.up {T T' : Nat} {σ : St} (z : Sz T σ) (h : T ≤ T') : Sz T' σ := ⟨by have := z.z1; omega, z.z2, z.z3, by have := z.z4; omega, z.z5⟩
theorem Good.up {T T' : Nat} {σ : St} (z : Good T σ) (h : T ≤ T') : Good T' σ := ⟨z.1, z.2.up h⟩
theorem comes_he {pk : Int} {σ σ' : St} (h : ComesS pk σ σ') (x : Int) (hx : x ∈ σ.he) : x ∈ σ'.he := by
  obtain ⟨k, p, a, b, fs', cur', rp', us', kn', tr', he', e1, e2, e3, on, c1, c2, c3, rfl⟩ := h
  dsimp only
  rw [onNew_told on]
  split
  · exact hx
  · exact List.mem_append_left _ hx
theorem sz_comes {pr : Int → Int} {pk : Int} {T : Nat} {σ σ' : St} (I : Inv pr σ) (z : Sz T σ) (h : ComesS pk σ σ') : Sz (T + 1) σ' := by
  have zh := comes_he h 0 z.z5
  obtain ⟨k, p, a, b, fs', cur', rp', us', kn', tr', he', e1, e2, e3, on, c1, c2, c3, rfl⟩ := h
  obtain ⟨z1, z2, z3, z4, z5⟩ := z
  have l1 := congrArg List.length e1
  rw [List.length_append, List.length_cons] at l1
  have l2 : fs'.length ≤ σ.fo.length := by
    rcases e2 with rfl | rfl
    · exact Nat.le_refl _
    · rw [List.length_append]; omega
  have k1 := I.klen
  have k2 := I.lim2
  refine ⟨?_, ?_, ?_, ?_, zh⟩ <;> dsimp only <;> omega
theorem sz_comes0 {pr : Int → Int} {T : Nat} {σ σ' : St} (I : Inv pr σ) (z : Sz T σ) (h : ComesS 0 σ σ') : Sz T σ' := by
  have zh := comes_he h 0 z.z5
  obtain ⟨k, p, a, b, fs', cur', rp', us', kn', tr', he', e1, e2, e3, on, c1, c2, c3, rfl⟩ := h
  obtain ⟨z1, z2, z3, z4, z5⟩ := z
  have l1 := congrArg List.length e1
  rw [List.length_append, List.length_cons] at l1
  obtain ⟨ea, eb⟩ := e3 rfl
  have l2 := congrArg List.length ea
  have l3 := congrArg List.length eb
  rw [List.length_nil] at l2
  have k1 := I.klen
  have k2 := I.lim2
  refine ⟨?_, ?_, ?_, ?_, zh⟩ <;> dsimp only <;> omega
theorem sz_tells {T : Nat} {σ σ' : St} (z : Sz T σ) (h : TellsS σ σ') : Sz T σ' := by
  cases h
  obtain ⟨z1, z2, z3, z4, z5⟩ := z
  refine ⟨z1, z2, ?_, z4, z5⟩
  dsimp only
  rw [List.length_append, List.length_append, List.length_map]
  omega
theorem sz_word {pk : Int} {T : Nat} {σ σ' : St} (z : Sz T σ) (h : WordS pk σ σ') : Sz T σ' := by
  obtain ⟨n, u, a, b, bs', e1, e2, e3, rfl⟩ := h
  obtain ⟨z1, z2, z3, z4, z5⟩ := z
  refine ⟨z1, z2, ?_, z4, z5⟩
  have l1 := congrArg List.length e1
  rw [List.length_append, List.length_cons] at l1
  rcases e2 with rfl | rfl <;> dsimp only
  · exact z3
  · rw [List.length_append]; omega
theorem sz_issued {T : Nat} {σ σ' : St} (z : Sz T σ) (h : IssuedS σ σ') : Sz (T + 1) σ' := by
  rcases h with ⟨hlt, rfl⟩ | ⟨_, rfl⟩
  · obtain ⟨z1, z2, z3, z4, z5⟩ := z
    refine ⟨?_, ?_, z3, ?_, z5⟩ <;> dsimp only
    · omega
    · rw [List.length_append, List.length_singleton]; omega
    · rw [List.length_append, List.length_singleton]; omega
  · exact z.up (Nat.le_succ _)
theorem comes_rp {pr : Int → Int} {pk : Int} {σ σ' : St} (I : Inv pr σ) (h : ComesS pk σ σ') : σ.rpU ≤ σ'.rpU := by
  obtain ⟨k, p, a, b, fs', cur', rp', us', kn', tr', he', e1, e2, e3, on, c1, c2, c3, rfl⟩ := h
  have hin : (k, p) ∈ σ.fo := by rw [e1]; exact List.mem_append_right _ List.mem_cons_self
  obtain ⟨h1, h2, h3⟩ := I.fos _ hin
  dsimp only at h1 h2 h3 ⊢
  have hpk := (I.prn k (by omega) h2).2.1
  have hrp := onNew_rp on (by omega)
  omega
theorem good_deed {T : Nat} {σ σ' : St} (g : Good T σ) (h : Deed σ σ') : Good (T + 1) σ' ∧ σ'.lim = σ.lim ∧ σ.rpI ≤ σ'.rpI ∧ σ.rpU ≤ σ'.rpU := by
  obtain ⟨⟨pr, I⟩, z⟩ := g
  rcases h with h | h | ⟨pk, h⟩ | h | h | ⟨pk, h⟩ | rfl
  · refine ⟨⟨⟨pr, inv_ask I h⟩, ?_⟩, ?_⟩
    · obtain ⟨p, hp, rfl⟩ := h
      exact ⟨by have := z.z1; dsimp only; omega, z.z2, z.z3, by have := z.z4; dsimp only; omega, z.z5⟩
    · obtain ⟨p, hp, rfl⟩ := h
      refine ⟨rfl, ?_, ?_⟩ <;> dsimp only <;> omega
  · refine ⟨⟨⟨pr, inv_change I h⟩, ?_⟩, ?_⟩
    · obtain ⟨cur', us', kn', tr', rfl, h1, h2, h3, h4⟩ := h
      exact ⟨by have := z.z1; dsimp only; omega, z.z2, z.z3, by have := z.z4; dsimp only; omega, z.z5⟩
    · obtain ⟨cur', us', kn', tr', rfl, h1, h2, h3, h4⟩ := h
      exact ⟨rfl, Int.le_refl _, Int.le_refl _⟩
  · refine ⟨⟨⟨pr, inv_comes I h⟩, sz_comes I z h⟩, ?_, ?_, comes_rp I h⟩
    · obtain ⟨k, p, a, b, fs', cur', rp', us', kn', tr', he', e1, e2, e3, on, c1, c2, c3, rfl⟩ := h
      rfl
    · obtain ⟨k, p, a, b, fs', cur', rp', us', kn', tr', he', e1, e2, e3, on, c1, c2, c3, rfl⟩ := h
      exact Int.le_refl _
  · refine ⟨⟨⟨pr, inv_tells I h⟩, (sz_tells z h).up (Nat.le_succ _)⟩, ?_⟩
    cases h
    exact ⟨rfl, Int.le_refl _, Int.le_refl _⟩
  · refine ⟨⟨inv_issued I h, sz_issued z h⟩, ?_⟩
    rcases h with ⟨hlt, rfl⟩ | ⟨_, rfl⟩ <;> exact ⟨rfl, Int.le_refl _, Int.le_refl _⟩
  · refine ⟨⟨⟨pr, inv_word I h⟩, (sz_word z h).up (Nat.le_succ _)⟩, ?_⟩
    obtain ⟨n, u, a, b, bs', e1, e2, e3, rfl⟩ := h
    exact ⟨rfl, Int.le_refl _, Int.le_refl _⟩
  · exact ⟨⟨⟨pr, I⟩, z.up (Nat.le_succ _)⟩, rfl, Int.le_refl _, Int.le_refl _⟩
/-- bounds by which the walk goes -/
structure Bd (σ : St) : Prop where
  nx : σ.nx ≤ 21
  nx1 : 1 ≤ σ.nx
  he : σ.he.length ≤ 21
  kn : σ.kn.length ≤ 4
  tr : σ.tr.length ≤ 21
  tl : σ.tl.length ≤ 21
  iss : σ.iss.length ≤ 21
  dn : σ.dn.length ≤ 21
  us : σ.us.length ≤ 241
  fo : σ.fo.length ≤ 20
  ba : σ.ba.length ≤ 21
theorem upTo_length (n : Int) : (upTo n).length = n.toNat := by unfold upTo; simp
theorem Good.bd {T : Nat} {σ : St} (g : Good T σ) (hT : T ≤ 20) : Bd σ := by
  obtain ⟨⟨pr, I⟩, z1, z2, z3, z4, z5⟩ := g
  have h1 : σ.he.length ≤ (upTo σ.nx).length := sub_len I.hnd fun x hx => mem_upTo.mpr (I.hlt x hx)
  rw [upTo_length] at h1
  have h2 := I.stand.length_eq
  have h3 := I.rng.length_eq
  rw [upTo_length] at h3
  simp only [List.length_append] at h2 h3
  have h4 := I.klen
  have h5 := I.lim2
  have h6 := I.nx1
  refine ⟨?_, ?_, ?_, ?_, ?_, ?_, ?_, ?_, ?_, ?_, ?_⟩ <;> omega
/-- what is on its way lies below what is asked back -/
def Low (σ : St) : Prop := (∀ n ∈ σ.tr, n < σ.rpI) ∧ ∀ b ∈ σ.ba, b.1 < σ.rpI
def Rst (σ₀ σ : St) : Prop := σ.lim = σ₀.lim ∧ σ.rpI = σ₀.rpI ∧ σ.nx = σ₀.nx ∧ σ₀.rpU ≤ σ.rpU ∧ (Low σ₀ → Low σ ∧ keptN σ.rpI σ.iss = keptN σ₀.rpI σ₀.iss)
theorem Rst.refl (σ : St) : Rst σ σ := ⟨rfl, rfl, rfl, Int.le_refl _, fun h => ⟨h, rfl⟩⟩
theorem rst_comes {pr : Int → Int} {pk : Int} {σ₀ σ σ' : St} (I : Inv pr σ) (r : Rst σ₀ σ) (h : ComesS pk σ σ') : Rst σ₀ σ' := by
  have J := (inv_comes I h).rpUI
  have K := comes_rp I h
  obtain ⟨k, p, a, b, fs', cur', rp', us', kn', tr', he', e1, e2, e3, on, c1, c2, c3, rfl⟩ := h
  obtain ⟨r1, r2, r3, r4, r5⟩ := r
  refine ⟨r1, r2, r3, Int.le_trans r4 K, fun hl => ?_⟩
  obtain ⟨⟨l1, l2⟩, l3⟩ := r5 hl
  refine ⟨⟨fun n hn => ?_, l2⟩, l3⟩
  dsimp only at J hn ⊢
  rcases onNew_low on n hn with q | q
  · exact l1 n q
  · omega
theorem rst_tells {σ₀ σ σ' : St} (r : Rst σ₀ σ) (h : TellsS σ σ') : Rst σ₀ σ' := by
  cases h
  obtain ⟨r1, r2, r3, r4, r5⟩ := r
  refine ⟨r1, r2, r3, r4, fun hl => ?_⟩
  obtain ⟨⟨l1, l2⟩, l3⟩ := r5 hl
  refine ⟨⟨(fun n hn => nomatch hn), fun b hb => ?_⟩, l3⟩
  rcases List.mem_append.mp hb with q | q
  · exact l2 b q
  · obtain ⟨n, hn, rfl⟩ := List.mem_map.mp q
    exact l1 n hn
theorem rst_word {pk : Int} {σ₀ σ σ' : St} (r : Rst σ₀ σ) (h : WordS pk σ σ') : Rst σ₀ σ' := by
  obtain ⟨n, u, a, b, bs', e1, e2, e3, rfl⟩ := h
  obtain ⟨r1, r2, r3, r4, r5⟩ := r
  refine ⟨r1, r2, r3, r4, fun hl => ?_⟩
  obtain ⟨⟨l1, l2⟩, l3⟩ := r5 hl
  have hn := l2 (n, u) (by rw [e1]; exact List.mem_append_right _ List.mem_cons_self)
  refine ⟨⟨l1, fun x hx => l2 x ?_⟩, ?_⟩
  · rcases e2 with rfl | rfl
    · exact hx
    · rw [e1]
      rcases List.mem_append.mp hx with q | q
      · exact List.mem_append_left _ q
      · exact List.mem_append_right _ (List.mem_cons_of_mem _ q)
  · rw [← l3]
    dsimp only at hn ⊢
    unfold keptN
    rw [List.filter_filter]
    refine congrArg (fun l : List Int => (l.length : Int)) (List.filter_congr fun x _ => ?_)
    by_cases q : σ.rpI ≤ x
    · simp [q]; omega
    · simp [q]
theorem Inv.last {pr : Int → Int} {σ : St} (I : Inv pr σ) (h0 : (0 : Int) ∈ σ.he) (e1 : σ.fo = []) (e2 : σ.tr = []) (e3 : σ.ba = []) (hk : keptN σ.rpI σ.iss = σ.lim) :
    σ.kn.Perm σ.iss ∧ (σ.kn.length : Int) = σ.lim ∧ ∀ n ∈ σ.kn, σ.rpI ≤ n := by
  have hp : σ.kn.Perm σ.iss := by
    refine (List.perm_ext_iff_of_nodup (List.nodup_append.mp (List.nodup_append.mp I.all_nodup).1).1 I.iss_nodup).mpr fun n => ⟨I.kn_iss, fun hn => ?_⟩
    have hl := I.iss_lt hn
    have hh : n ∈ σ.he := by
      by_cases z : n = 0
      · rw [z]; exact h0
      · rcases I.way n (by omega) hl.2 with q | q
        · exact q
        · rw [e1] at q; exact nomatch q
    have := I.stand.mem_iff.mpr hh
    rw [e2, List.append_nil] at this
    rcases List.mem_append.mp this with q | q
    · exact q
    · rcases I.tld n q with w | ⟨u, w⟩
      · exact absurd w (I.iss_dn hn)
      · rw [e3] at w; exact nomatch w
  have hl := hp.length_eq
  have h1 := I.klen
  have h2 := List.length_filter_le (fun k => decide (σ.rpI ≤ k)) σ.iss
  unfold keptN at hk
  refine ⟨hp, by omega, fun n hn => ?_⟩
  have h3 : (σ.iss.filter fun k => decide (σ.rpI ≤ k)).length = σ.iss.length := by omega
  have h4 := List.length_filter_eq_length_iff.mp h3 n (hp.mem_iff.mp hn)
  simpa using h4
end
section
theorem comes0_len {σ σ' : St} (h : ComesS 0 σ σ') : σ'.fo.length < σ.fo.length := by
  obtain ⟨k, p, a, b, fs', cur', rp', us', kn', tr', he', e1, e2, e3, on, c1, c2, c3, rfl⟩ := h
  obtain ⟨ea, eb⟩ := e3 rfl
  dsimp only
  rw [e1, ea, eb, List.nil_append, List.length_cons]
  omega
theorem word0_len {σ σ' : St} (h : WordS 0 σ σ') : σ'.ba.length < σ.ba.length ∧ σ'.fo = σ.fo ∧ σ'.tr = σ.tr := by
  obtain ⟨n, u, a, b, bs', e1, e2, e3, rfl⟩ := h
  obtain ⟨ea, eb⟩ := e3 rfl
  refine ⟨?_, rfl, rfl⟩
  dsimp only
  rw [e1, ea, eb, List.nil_append, List.length_cons]
  omega
theorem good_comes0 {T : Nat} {σ σ' : St} (g : Good T σ) (h : ComesS 0 σ σ') : Good T σ' := by
  obtain ⟨⟨pr, I⟩, z⟩ := g
  exact ⟨⟨pr, inv_comes I h⟩, sz_comes0 I z h⟩
theorem good_tells {T : Nat} {σ σ' : St} (g : Good T σ) (h : TellsS σ σ') : Good T σ' := by
  obtain ⟨⟨pr, I⟩, z⟩ := g
  exact ⟨⟨pr, inv_tells I h⟩, sz_tells z h⟩
theorem good_word {T : Nat} {pk : Int} {σ σ' : St} (g : Good T σ) (h : WordS pk σ σ') : Good T σ' := by
  obtain ⟨⟨pr, I⟩, z⟩ := g
  exact ⟨⟨pr, inv_word I h⟩, sz_word z h⟩
theorem good_issued {T : Nat} {σ σ' : St} (g : Good T σ) (h : IssuedS σ σ') : Good (T + 1) σ' := by
  obtain ⟨⟨pr, I⟩, z⟩ := g
  exact ⟨inv_issued I h, sz_issued z h⟩
theorem grst_comes {T : Nat} {pk : Int} {σ₀ σ σ' : St} (g : Good T σ) (r : Rst σ₀ σ) (h : ComesS pk σ σ') : Rst σ₀ σ' := by
  obtain ⟨⟨pr, I⟩, z⟩ := g
  exact rst_comes I r h
theorem tells_end {σ σ' : St} (h : TellsS σ σ') : σ'.tr = [] ∧ σ'.fo = σ.fo := by
  cases h
  exact ⟨rfl, rfl⟩
theorem Good.last {T : Nat} {σ : St} (g : Good T σ) (e1 : σ.fo = []) (e2 : σ.tr = []) (e3 : σ.ba = []) (hk : keptN σ.rpI σ.iss = σ.lim) :
    σ.kn.Perm σ.iss ∧ (σ.kn.length : Int) = σ.lim ∧ ∀ n ∈ σ.kn, σ.rpI ≤ n := by
  obtain ⟨⟨pr, I⟩, z⟩ := g
  exact I.last z.z5 e1 e2 e3 hk
theorem rangeKs_upTo (n : Int) : PySem.W.rangeKs 0 (n - 0).toNat = upTo n := by
  unfold PySem.W.rangeKs upTo
  rw [Int.sub_zero]
  exact List.map_congr_left fun i _ => by simp
theorem upTo_pairwise (n : Int) : (upTo n).Pairwise (· ≤ ·) := by
  unfold upTo
  rw [List.pairwise_map]
  exact List.pairwise_lt_range.imp fun h => by simp only [Int.ofNat_eq_natCast]; omega
theorem issued_kept {pr : Int → Int} {σ σ' : St} (I : Inv pr σ) (hk : keptN σ.rpI σ.iss < σ.lim) (h : IssuedS σ σ') : σ'.lim = σ.lim ∧ keptN σ'.rpI σ'.iss = keptN σ.rpI σ.iss + 1 ∧ σ'.tr = σ.tr ∧ σ'.ba = σ.ba ∧ σ'.rpI = σ.rpI ∧ σ'.rpU = σ.rpU := by
  rcases h with ⟨_, rfl⟩ | ⟨z, _⟩
  · refine ⟨rfl, ?_, rfl, rfl, rfl, rfl⟩
    have rnx := I.rnx
    dsimp only
    unfold keptN
    rw [List.filter_append, List.length_append, List.filter_cons_of_pos (by simpa using rnx)]
    simp
  · exact absurd hk z
end
section
abbrev startS (lim : Int) : St := ⟨lim, 1, 0, 0, 0, [0], [0], [], [0], [], [], [0], [], []⟩
theorem good_start {lim : Int} (h1 : 2 ≤ lim) (h2 : lim ≤ 4) : Good 0 (startS lim) := by
  refine ⟨⟨fun _ => 0, ?_⟩, ?_⟩
  · refine { lim1 := h1, lim2 := h2, nx1 := (by show (1 : Int) ≤ 1; decide), stand := by simp, hnd := by simp, rng := (by show (([0] : List Int) ++ []).Perm (upTo 1); decide), dtl := by simp, ck := by simp, cu := by simp, kept := ?_, hlt := by simp, way := ?_, fos := by simp, prm := ?_, prn := ?_, rnx := (by show (0 : Int) ≤ 1; decide), rp1 := by simp, rp2 := ⟨0, by simp, rfl⟩, bas := by simp, tld := by simp, room := ?_, klen := ?_ }
    · show ((([0] : List Int).filter fun k => decide ((0 : Int) ≤ k)).length : Int) ≤ lim
      have : ((([0] : List Int).filter fun k => decide ((0 : Int) ≤ k)).length : Int) = 1 := by decide
      omega
    · intro n z1 z2
      dsimp only at z2
      omega
    · intro n n' _ _ _; exact Int.le_refl _
    · intro n z1 _; exact ⟨Int.le_refl _, z1, Int.le_refl _⟩
    · intro g _ _
      have := List.length_filter_le (fun n : Int => decide ((0 : Int) ≤ n ∧ n ≤ g)) [0]
      simp only [List.length_singleton] at this
      dsimp only
      omega
    · dsimp only [List.length_singleton]; omega
  · exact ⟨by show (1 : Int) ≤ 1 + ((0 : Nat) : Int); decide, by show (((([] : List (Int × Int)).length : Nat) : Int) + 1 ≤ 1); decide, Nat.le_refl 0, by show ([0] : List Int).length + 6 * ([] : List (Int × Int)).length ≤ 1 + 12 * 0; decide, by simp⟩
end
section
/-- where things lie -/
structure Adr where
  ls : Nat
  bx : Nat
  fo : Nat
  ba : Nat
  he : Nat
  tl : Nat
  dn : Nat
  nt : Nat
  di : Nat
  xi : Nat
  iss : Nat
  ev : Nat
  du : Nat
  xu : Nat
  kn : Nat
  us : Nat
  td : Nat
  i1 : Tok
  i2 : Tok
  i3 : Tok
  i4 : Tok
  i5 : Tok
  i6 : Tok
  j1 : Tok
  u1 : Tok
  u2 : Tok
  u3 : Tok
  u4 : Tok
  u5 : Tok
  u6 : Tok
  u7 : Tok
  u8 : Tok
  v1 : Tok
  n1 : Tok
abbrev Adr.all (a : Adr) : List Nat := [a.ls, a.bx, a.fo, a.ba, a.he, a.tl, a.dn, a.nt, a.di, a.xi, a.iss, a.ev, a.du, a.xu, a.kn, a.us, a.td]
structure Adr.Ok (a : Adr) : Prop where
  o1 : a.ls < a.bx
  o2 : a.bx < a.nt
  o3 : a.nt < a.fo
  o4 : a.fo < a.ba
  o5 : a.ba < a.he
  o6 : a.he < a.tl
  o7 : a.tl < a.dn
  o8 : a.dn < a.di
  o9 : a.di < a.xi
  p1 : a.xi < a.iss
  p2 : a.iss < a.ev
  p3 : a.ev < a.du
  p4 : a.du < a.xu
  p5 : a.xu < a.kn
  p6 : a.kn < a.us
  p7 : a.us < a.td
  q1 : (a.iss == sysModules) = false
  q2 : (a.kn == sysModules) = false
  q3 : (a.td == sysModules) = false
/-- the addresses in their order -/
def Adr.chain (a : Adr) : List Nat := [a.ls, a.bx, a.nt, a.fo, a.ba, a.he, a.tl, a.dn, a.di, a.xi, a.iss, a.ev, a.du, a.xu, a.kn, a.us, a.td]
theorem Adr.Ok.step {a : Adr} (ok : a.Ok) : ∀ i, i < 16 → a.chain.getD i 0 < a.chain.getD (i + 1) 0
  | 0, _ => ok.o1 | 1, _ => ok.o2 | 2, _ => ok.o3 | 3, _ => ok.o4 | 4, _ => ok.o5 | 5, _ => ok.o6 | 6, _ => ok.o7 | 7, _ => ok.o8 | 8, _ => ok.o9 | 9, _ => ok.p1 | 10, _ => ok.p2 | 11, _ => ok.p3 | 12, _ => ok.p4 | 13, _ => ok.p5 | 14, _ => ok.p6 | 15, _ => ok.p7
  | n + 16, h => absurd h (by omega)
theorem Adr.Ok.lt {a : Adr} (ok : a.Ok) (i : Nat) : ∀ j, i < j → j < 17 → a.chain.getD i 0 < a.chain.getD j 0
  | 0, h, _ => absurd h (Nat.not_lt_zero _)
  | j + 1, h, h2 => by
    rcases Nat.lt_or_ge i j with q | q
    · exact Nat.lt_trans (ok.lt i j q (by omega)) (ok.step j (by omega))
    · rw [show i = j from by omega]; exact ok.step j (by omega)
theorem Adr.Ok.ne {a : Adr} (ok : a.Ok) (i j : Nat) (h : (i != j && decide (i < 17) && decide (j < 17)) = true) : @Ne Nat (a.chain.getD i 0) (a.chain.getD j 0) := by
  simp only [Bool.and_eq_true, bne_iff_ne, ne_eq, decide_eq_true_eq] at h
  rcases Nat.lt_or_ge i j with q | q
  · exact Nat.ne_of_lt (ok.lt i j q h.2)
  · exact Ne.symm (Nat.ne_of_lt (ok.lt j i (by omega) h.1.2))
theorem Adr.Ok.neT {a : Adr} (ok : a.Ok) {tr : Nat} (ht : a.td < tr) (i : Nat) (h : decide (i < 17) = true) : @Ne Nat (a.chain.getD i 0) tr := by
  simp only [decide_eq_true_eq] at h
  rcases Nat.lt_or_ge i 16 with q | q
  · exact Nat.ne_of_lt (Nat.lt_trans (ok.lt i 16 q (by omega)) ht)
  · rw [show i = 16 from by omega]; exact Nat.ne_of_lt ht
theorem Adr.all_of {a : Adr} {t : Nat} (key : ∀ i, i < 17 → @Ne Nat t (a.chain.getD i 0)) : ∀ x ∈ a.all, @Ne Nat t x := by
  simp only [List.forall_mem_cons]
  exact ⟨key 0 (by decide), key 1 (by decide), key 3 (by decide), key 4 (by decide), key 5 (by decide), key 6 (by decide), key 7 (by decide), key 2 (by decide), key 8 (by decide), key 9 (by decide), key 10 (by decide), key 11 (by decide), key 12 (by decide), key 13 (by decide), key 14 (by decide), key 15 (by decide), key 16 (by decide), fun x hx => nomatch hx⟩
theorem Adr.Ok.mid {a : Adr} (ok : a.Ok) {t : Nat} (i : Nat) (hi : i < 16) (h1 : a.chain.getD i 0 < t) (h2 : t < a.chain.getD (i + 1) 0) : ∀ x ∈ a.all, @Ne Nat t x := by
  refine Adr.all_of fun j hj => ?_
  rcases Nat.lt_trichotomy j i with q | q | q
  · exact Ne.symm (Nat.ne_of_lt (Nat.lt_trans (ok.lt j i q (by omega)) h1))
  · rw [q]; exact Ne.symm (Nat.ne_of_lt h1)
  · rcases Nat.lt_or_ge (i + 1) j with r | r
    · exact Nat.ne_of_lt (Nat.lt_trans h2 (ok.lt (i + 1) j r hj))
    · rw [show j = i + 1 from by omega]; exact Nat.ne_of_lt h2
theorem Adr.Ok.above {a : Adr} (ok : a.Ok) {t : Nat} (h1 : a.td < t) : ∀ x ∈ a.all, @Ne Nat t x := Adr.all_of fun j hj => Ne.symm (ok.neT h1 j (by simpa using hj))
/-- the ledger stands for the data -/
inductive Rep (w : World) (a : Adr) (σ : St) (ask : Int × Int) (c : Int) (es : List (Addr × Obj)) : List (Addr × Obj) → Prop
  | mk {tr as nb nls ne nu nr nf nba nh ntl nd : Nat} {tc j4 j5 v3 v5 : Tok} {oI oK oT oN : Obj} {ivs kvs tvs : List (Int × Value)} {evs : Array Value} {ws uvs rvs fvs bvs hvs tlvs dvs : List Value} {ns : List Int} {tups : List (Addr × Obj)}
    (htr : a.td < tr) (hoff : ∀ p ∈ tups ++ es, (∀ x ∈ a.all, @Ne Nat p.1 x) ∧ @Ne Nat p.1 tr) (hX : ∀ p ∈ tups, ∀ q ∈ es, @Ne Nat p.1 q.1)
    (hI : oI.IsDictOf (PySem.intKind PySem.Challenge.rw_sj0110_01.row.prog w) ivs) (hI1 : ivs.map (·.1) = σ.iss) (hI2 : ∀ p ∈ ivs, ∃ t, p.2 = .bytes (cidA p.1) t)
    (hE : ∀ y ∈ evs, ∃ k u, y = .bytes (cidA k) u ∧ 0 ≤ k ∧ k < σ.nx) (hE1 : (evs.size : Int) ≤ σ.nx)
    (hK : oK.IsDictOf (PySem.intKind PySem.Challenge.rw_sj0110_01.row.prog w) kvs) (hK1 : kvs.map (·.1) = σ.kn) (hK2 : ∀ p ∈ kvs, PairAt tups p.2 (cidA p.1))
    (hU : IntsAre uvs σ.us) (hT : oT.IsDictOf (PySem.intKind PySem.Challenge.rw_sj0110_01.row.prog w) tvs) (hT1 : tvs.map (·.1) = σ.he) (hT2 : ∀ p ∈ tvs, PairAt tups p.2 (cidA p.1) ∧ (1 ≤ p.1 → PairAt2 tups p.2 (cidA p.1) (tokA p.1)))
    (hR : IntsAre rvs σ.tr) (hN : oN.IsDictOf (PySem.strKind PySem.Challenge.rw_sj0110_01.row.prog w) (netL a.fo a.ba a.he a.tl a.dn as σ.lim a.n1)) (hA : ∃ e ta tb, (as, tupE #[.int ask.1 ta, .int ask.2 tb] e) ∈ tups)
    (hF : ValsAre (FrameAt tups) fvs σ.fo) (hB : ValsAre (BackAt tups) bvs σ.ba) (hH : IntsAre hvs σ.he) (hL : IntsAre tlvs σ.tl) (hD : IntsAre dvs σ.dn)
    (hW : IntsAre ws ns) (hW1 : ws.length ≤ 64) (hc : 0 ≤ c) :
    Rep w a σ ask c es ((a.bx, W.listOf #[.ref a.ls, .int c tc] nb) :: (a.ls, W.listOf ws.toArray nls) :: (a.di, locD w a.iss a.ev σ.lim σ.nx σ.rpI a.i1 a.i2 a.i3 a.i4 a.i5 a.i6 a.j1 j4 j5) :: (a.xi, instObj 98 a.di) :: (a.iss, oI) :: (a.ev, W.listOf evs ne) ::
      (a.du, remD w a.kn a.us a.td tr σ.lim σ.cur σ.rpU a.u1 a.u2 a.u3 a.u4 a.u5 a.u6 a.u7 a.u8 a.v1 v3 v5) :: (a.xu, instObj 190 a.du) :: (a.kn, oK) :: (a.us, W.listOf uvs.toArray nu) :: (a.td, oT) :: (tr, W.listOf rvs.toArray nr) ::
      (a.nt, oN) :: (a.fo, W.listOf fvs.toArray nf) :: (a.ba, W.listOf bvs.toArray nba) :: (a.he, W.listOf hvs.toArray nh) :: (a.tl, W.listOf tlvs.toArray ntl) :: (a.dn, W.listOf dvs.toArray nd) :: (tups ++ es))
theorem off_all {a : Adr} {tr : Nat} {l : List (Addr × Obj)} (h : ∀ p ∈ l, (∀ x ∈ a.all, @Ne Nat p.1 x) ∧ @Ne Nat p.1 tr) {x : Nat} (hx : x ∈ a.all) : ∀ p ∈ l, p.1 ≠ x := fun p hp => (h p hp).1 x hx
end
section
local macro_rules | `(tactic| k_places) => `(tactic| first | with_reducible assumption | with_reducible exact List.mem_cons_self | (with_reducible refine' List.mem_cons_of_mem _ ?_; k_places) | (with_reducible refine' List.mem_append_left _ ?_; k_places) | (with_reducible refine' List.mem_append_right _ ?_; k_places))
local macro_rules | `(tactic| w_left) => `(tactic| first | (with_reducible refine' List.forall_mem_cons.mpr ⟨?x1, ?x2⟩; (case x1 => k_places); (case x2 => w_left)) | with_reducible exact List.forall_mem_nil _ | (with_reducible refine' List.forall_mem_append.mpr ⟨?x3, ?x4⟩; (case x3 => w_left); (case x4 => w_left)) | (intro p hp; k_places))
local macro_rules | `(tactic| k_all) => `(tactic| first | with_reducible assumption | (with_reducible refine' List.forall_mem_cons.mpr ⟨?a, ?b⟩; (case a => k_ne); (case b => k_all)) | with_reducible exact List.forall_mem_nil _)
section
section
variable {w : World} {a : Adr} {σ : St} {ask : Int × Int} {c : Int} {ow news : List (Addr × Obj)}
theorem cid0 : cidA 0 = #[102, 105, 114, 115, 116] := by unfold cidA; rw [if_pos rfl]
theorem Rep.ex {h₀ h : Heap} {L : Addr} {es led : List (Addr × Obj)} (R : Rep w a σ ask c es news) (N : News h₀ L h led) (hs : ∀ p ∈ news, p ∈ led) : ∃ news, Rep w a σ ask c es news ∧ News h₀ L h news := ⟨news, R, News.of N hs⟩
theorem Rep.own (R : Rep w a σ ask c [] news) (h1 : ∀ p ∈ ow, ∀ q ∈ news, @Ne Nat q.1 p.1) : Rep w a σ ask c ow (news ++ ow) := by
  cases R
  rename_i tr as nb nls ne nu nr nf nba nh ntl nd tc j4 j5 v3 v5 oI oK oT oN ivs kvs tvs evs ws uvs rvs fvs bvs hvs tlvs dvs ns tups htr hoff hX hI hI1 hI2 hE hE1 hK hK1 hK2 hU hT hT1 hT2 hR hN hA hF hB hH hL hD hW hW1 hc
  have hoff' : ∀ p ∈ tups ++ ow, (∀ x ∈ a.all, @Ne Nat p.1 x) ∧ @Ne Nat p.1 tr := by
    intro p hp
    rcases List.mem_append.mp hp with hp | hp
    · exact hoff p (List.mem_append_left _ hp)
    · have z := h1 p hp
      simp only [List.forall_mem_cons] at z
      obtain ⟨z1, z2, z3, z4, z5, z6, z7, z8, z9, z10, z11, z12, z13, z14, z15, z16, z17, z18, z19⟩ := z
      refine ⟨?_, Ne.symm z12⟩
      simp only [List.forall_mem_cons]
      exact ⟨Ne.symm z2, Ne.symm z1, Ne.symm z14, Ne.symm z15, Ne.symm z16, Ne.symm z17, Ne.symm z18, Ne.symm z13, Ne.symm z3, Ne.symm z4, Ne.symm z5, Ne.symm z6, Ne.symm z7, Ne.symm z8, Ne.symm z9, Ne.symm z10, Ne.symm z11, fun x hx => nomatch hx⟩
  have hX' : ∀ p ∈ tups, ∀ q ∈ ow, @Ne Nat p.1 q.1 := fun p hp q hq => h1 q hq p (by simp only [List.append_nil]; k_places)
  simp only [List.cons_append, List.append_nil]
  exact (Rep.mk (tr := tr) (as := as) (nb := nb) (nls := nls) (ne := ne) (nu := nu) (nr := nr) (nf := nf) (nba := nba) (nh := nh) (ntl := ntl) (nd := nd) (tc := tc) (j4 := j4) (j5 := j5) (v3 := v3) (v5 := v5) (oI := oI) (oK := oK) (oT := oT) (oN := oN) (ivs := ivs) (kvs := kvs) (tvs := tvs) (evs := evs) (ws := ws) (uvs := uvs) (rvs := rvs) (fvs := fvs) (bvs := bvs) (hvs := hvs) (tlvs := tlvs) (dvs := dvs) (ns := ns) (tups := tups) htr hoff' hX' hI hI1 hI2 hE hE1 hK hK1 hK2 hU hT hT1 hT2 hR hN hA hF hB hH hL hD hW hW1 hc)
theorem Rep.off {I : Nat} (R : Rep w a σ ask c ow news) (hIo : ∃ o, (I, o) ∈ ow) : ∃ news₂, (∀ p ∈ news₂ ++ ow, p ∈ news) ∧ Rep w a σ ask c [] news₂ ∧ ∀ p ∈ news₂, p.1 ≠ I := by
  cases R
  rename_i tr as nb nls ne nu nr nf nba nh ntl nd tc j4 j5 v3 v5 oI oK oT oN ivs kvs tvs evs ws uvs rvs fvs bvs hvs tlvs dvs ns tups htr hoff hX hI hI1 hI2 hE hE1 hK hK1 hK2 hU hT hT1 hT2 hR hN hA hF hB hH hL hD hW hW1 hc
  obtain ⟨o, hIo⟩ := hIo
  have z := hoff (I, o) (List.mem_append_right _ hIo)
  have hoff' : ∀ p ∈ tups ++ [], (∀ x ∈ a.all, @Ne Nat p.1 x) ∧ @Ne Nat p.1 tr := fun p hp => hoff p (by rw [List.append_nil] at hp; exact List.mem_append_left _ hp)
  have hX' : ∀ p ∈ tups, ∀ q ∈ ([] : List (Addr × Obj)), @Ne Nat p.1 q.1 := fun p hp q hq => nomatch hq
  refine ⟨_, ?_, (Rep.mk (tr := tr) (as := as) (nb := nb) (nls := nls) (ne := ne) (nu := nu) (nr := nr) (nf := nf) (nba := nba) (nh := nh) (ntl := ntl) (nd := nd) (tc := tc) (j4 := j4) (j5 := j5) (v3 := v3) (v5 := v5) (oI := oI) (oK := oK) (oT := oT) (oN := oN) (ivs := ivs) (kvs := kvs) (tvs := tvs) (evs := evs) (ws := ws) (uvs := uvs) (rvs := rvs) (fvs := fvs) (bvs := bvs) (hvs := hvs) (tlvs := tlvs) (dvs := dvs) (ns := ns) (tups := tups) htr hoff' hX' hI hI1 hI2 hE hE1 hK hK1 hK2 hU hT hT1 hT2 hR hN hA hF hB hH hL hD hW hW1 hc), ?_⟩
  · simp only [List.cons_append, List.append_nil]
    exact fun p hp => hp
  · simp only [List.forall_mem_cons, List.append_nil]
    obtain ⟨z1, z2⟩ := z
    simp only [List.forall_mem_cons] at z1
    obtain ⟨y1, y2, y3, y4, y5, y6, y7, y8, y9, y10, y11, y12, y13, y14, y15, y16, y17, _⟩ := z1
    exact ⟨Ne.symm y2, Ne.symm y1, Ne.symm y9, Ne.symm y10, Ne.symm y11, Ne.symm y12, Ne.symm y13, Ne.symm y14, Ne.symm y15, Ne.symm y16, Ne.symm y17, Ne.symm z2, Ne.symm y8, Ne.symm y3, Ne.symm y4, Ne.symm y5, Ne.symm y6, Ne.symm y7, fun p hp => hX p hp (I, o) hIo⟩
theorem Rep.lookI {es : List (Addr × Obj)} (R : Rep w a σ ask c es news) : ∃ j4 j5, (a.di, locD w a.iss a.ev σ.lim σ.nx σ.rpI a.i1 a.i2 a.i3 a.i4 a.i5 a.i6 a.j1 j4 j5) ∈ news ∧ (a.xi, instObj 98 a.di) ∈ news := by
  cases R
  exact ⟨_, _, by k_places, by k_places⟩
end
end
section
open PySem.Spec PySem.Calls PyProof.Rows.LCt PyProof.Rows.LCg PySem.SeqAt
section
variable {prog : Program} {w : World} {A : Around} {E : Value → Shared → Prop} {s : Shared} {h₀ : Heap} {L : Addr} {m : Str → Option Value} {news : List (Addr × Obj)}
theorem ne_nil {a b : Addr} {vs : List Value} {na nb : Nat} {Q : Value → Shared → Prop} (N : News h₀ L s.heap news) (ha : (a, W.listOf vs.toArray na) ∈ news) (hb : (b, W.listOf (#[] : Array Value) nb) ∈ news) (hu : A.units < cLine)
    (h1 : vs = [] → Q (.bool false) s) (h2 : vs ≠ [] → Q (.bool true) s) : wpAny (model prog w) A (compareOp .NotEq (.ref a) (.ref b)) Q E s := by
  have la := News.isList N ha
  have lb := News.isList N hb
  by_cases hv : vs = []
  · have := RcNeAt.lists (A := A) (e := fun _ => true) la lb (by rw [hv]) hu (fun j z1 z2 => absurd z2 (Nat.not_lt_zero _)) prog w E Q
    refine this ?_
    have e := h1 hv
    rw [show (!(List.range vs.toArray.size).all fun _ => true) = false from by simp]
    exact e
  · refine RcNeAt.lists_lengths (A := A) la lb ?_ hu prog w E Q (h2 hv)
    have : 0 < vs.length := List.length_pos_iff.mpr hv
    simp only [List.size_toArray, bne_iff_ne, ne_eq]
    show ¬ vs.length = 0
    omega
end
section
open PySem.W
variable {prog : Program} {w : World} {A : Around} {E : Value → Shared → Prop} {s : Shared} {h₀ : Heap} {L : Addr} {m : Str → Option Value} {news : List (Addr × Obj)}
theorem add_lst {a b : Addr} {vs ws : List Value} {ns ms : List Int} {na nb : Nat} {Q : Value → Shared → Prop} (F : Fr h₀ L s.heap m) (N : News h₀ L s.heap news) (ha : (a, W.listOf vs.toArray na) ∈ news) (hb : (b, W.listOf ws.toArray nb) ∈ news) (hi : IntsAre vs ns) (hj : IntsAre ws ms) (hz : ns.length + ms.length ≤ 1000)
    (h : ∀ D us h', Fr h₀ L h' m → News h₀ L h' ((D, W.listOf (List.toArray us) 0) :: news) → (∀ p ∈ news, p.1 < D) → IntsAre us (ns ++ ms) → Q (.ref D) { s with heap := h' }) :
    wpAny (model prog w) A (binaryOp .Add (.ref a) (.ref b)) Q E s :=
  add_lists_ints (hsz := Nat.le_trans hz (by rw [sizeLine_eq]; decide)) F N (News.isList N ha) (News.isList N hb) hi hj fun h' F' N' hk => h _ _ h' F' N' (fun p hp => Heap.lt_size (N p hp).1) hk
end
end
section
open PySem.Spec PySem.Calls
section
variable {prog : Program} {w : World} {A : Around} {E : Value → Shared → Prop} {Q : Flow → Shared → Prop} {s : Shared} {env : Env} {h₀ : Heap} {L : Addr}
theorem While_fix {test : Expr} {body : List Stmt} {pos : Pos} {m : Str → Option Value} {news : List (Addr × Obj)} (J : Nat → List (Addr × Obj) → Prop) {n₀ : Nat}
    (F : Fr h₀ L s.heap m) (N : News h₀ L s.heap news) (hJ : J n₀ news)
    (turn : ∀ n news₁ h₁ tk₁, Fr h₀ L h₁ m → News h₀ L h₁ news₁ → J n news₁ →
      wpAny (model prog w) A (isTrue test env (eval test env)) (fun b s₂ =>
        if b = true then wpAny (model prog w) A (execs body env) (WhileStep h₀ L s (fun n m₁ nw => m₁ = m ∧ J n nw) n) E s₂ else Q .next s₂) E { s with heap := h₁, toks := tk₁ })
    (hE : PassesOwn (model prog w) A env E := by passes_own) :
    wpAny (model prog w) A (exec (.While test body [] pos) env) Q E s :=
  While_inv (fun n m₁ nw => m₁ = m ∧ J n nw) F N ⟨rfl, hJ⟩ (fun n m₁ nw h tk F1 N1 j => turn n nw h tk (j.1 ▸ F1) N1 j.2) hE
end
end
section
open PySem.Spec PySem.Calls PyProof.Rows.LCt PyProof.Rows.LCg PySem.SeqAt
section
variable {prog : Program} {w : World} {A : Around} {E : Value → Shared → Prop} {h₀ : Heap} {m : Str → Option Value} {env : Env} {news : List (Addr × Obj)}
/-- a for over a range, by an invariant over the ledger; the body binds one name more -/
def ForR (prog : Program) (w : World) (A : Around) (h₀ : Heap) (m : Str → Option Value) (env : Env) (x : Str) (body : List Stmt) (Q : Flow → Shared → Prop) (E : Value → Shared → Prop) (xv : Value) (s : Shared) : Prop :=
  ∃ (x2 : Str) (r : Addr) (b : Int) (t u v : Tok) (n : Nat) (news : List (Addr × Obj)) (J : Nat → List (Addr × Obj) → Prop), xv = .ref r ∧ A.handled = none ∧ IsRange s.heap r 0 b 1 t u v ∧ Builtin.Range.small 0 b 1 = true ∧ Builtin.Range.rangeSize 0 b 1 = (n : Int) ∧ Fr h₀ env.locals s.heap m ∧ News h₀ env.locals s.heap news ∧ J 0 news ∧
    (∀ i k t I own news₁ h tk u2, i < n → J i news₁ → (∀ p ∈ own, p.1 = I) → (∀ p ∈ news₁, p.1 ≠ I) → (∀ p ∈ news, @LT.lt Nat _ p.1 I) → (∃ o, (I, o) ∈ own) → Fr h₀ env.locals h (fun y => if y = x2 then u2 else if y = x then some (.int k t) else m y) → News h₀ env.locals h (news₁ ++ own) →
      wpAny (model prog w) A (execs body env) (TurnEndT h₀ env.locals m x x2 s.gens s.drawn s.os own I (J (i + 1))) E ⟨h, s.gens, s.drawn, tk, s.os⟩) ∧
    (∀ u1 u2 h tk news', J n news' → Fr h₀ env.locals h (fun y => if y = x2 then u2 else if y = x then u1 else m y) → News h₀ env.locals h news' → Q .next ⟨h, s.gens, s.drawn, tk, s.os⟩)
theorem For_R {s : Shared} {Q : Flow → Shared → Prop} {x : Str} {px pos : Pos} {iter : Expr} {body : List Stmt} (_F : Fr h₀ env.locals s.heap m) (hx : env.kindOf x = some .local)
    (hp : (env.scope.kind == .class || (env.scope.kind == .module && env.locals != env.globals)) = false)
    (h : wpAny (model prog w) A (eval iter env) (ForR prog w A h₀ m env x body Q E) E s)
    (hs : ∀ x, foldedSetIterable iter env x = pure x := by intro _; rfl)
    (hE : PassesOwn (model prog w) A env E := by passes_own) :
    wpAny (model prog w) A (exec (.For (.Name x px) iter body [] pos) env) Q E s := by
  refine For_invV h₀ hx hp (wpAny_mono h (fun xv s₁ h₁ => ?_) fun _ _ e => e) hs hE
  obtain ⟨x2, r, b, t, u, v, n, news, J, rfl, hh, hr, hsm, hn, F, N, hJ0, turn, done⟩ := h₁
  refine wpAny_pyIter_range hr hsm ?_
  refine ⟨s₁.heap.objs.size, [s₁.heap.objs.size], [s₁.heap.objs.size], n, fun i v => i < n ∧ ∃ t, v = .int (0 + (i : Nat) * 1) t, fun i h => IsRangeIter h s₁.heap.objs.size (0 + (i : Nat) * 1) ((n : Int) - (i : Nat)) 1, m, news, fun i m₁ news₁ => (∀ y, y ≠ x → y ≠ x2 → m₁ y = m y) ∧ J i news₁, rfl, (Walks.range hh _ 0 1 n).bound, ?_, ?_, ?_, (by show IsRangeIter _ _ _ _ _; rw [hn]; simpa using Heap.get?_push_size _ rfl), F.push _, (fun p hp => ⟨Heap.get?_push_of_some _ (N p hp).1, (N p hp).2⟩), ⟨fun _ _ _ => rfl, hJ0⟩, ?_, ?_⟩
  · intro hm
    exact absurd F.ns.lt ((List.mem_singleton.mp hm) ▸ Nat.lt_irrefl _)
  · intro b hb
    rw [List.mem_singleton.mp hb]
    exact next_is_new F
  · intro p hp hI
    exact absurd (Heap.lt_size (N p hp).1) ((List.mem_singleton.mp hI) ▸ Nat.lt_irrefl _)
  · rintro i v m₁ news₁ s₂ own ⟨hh', tk', rfl⟩ hin hP ⟨hm₁, hJ⟩ hoff hown _ hall hst₁ F₁ N₁
    obtain ⟨hi, t9, rfl⟩ := hP
    have e : (fun y => if y = x then some (Value.int (0 + (i : Nat) * 1) t9) else m₁ y) = fun y => if y = x2 then (if x2 = x then some (Value.int (0 + (i : Nat) * 1) t9) else m₁ x2) else if y = x then some (Value.int (0 + (i : Nat) * 1) t9) else m y := by
      funext y
      by_cases hy2 : y = x2
      · subst hy2
        by_cases hy : y = x
        · simp only [hy, if_true]
        · simp only [hy, if_false, if_true]
      · by_cases hy : y = x
        · simp only [if_pos hy, if_neg hy2]
        · simp only [if_neg hy, if_neg hy2]; exact hm₁ y hy hy2
    rw [e] at F₁
    have N₂ : News h₀ env.locals hh' (news₁ ++ own) := fun p hp => N₁ p ((List.mem_append.mp hp).elim (fun q => List.mem_append_right _ q) fun q => List.mem_append_left _ q)
    refine wpAny_mono (turn i (0 + (i : Nat) * 1) t9 s₁.heap.objs.size own news₁ hh' tk' _ hi hJ (fun p hp => List.mem_singleton.mp (hown p hp)) (fun p hp q => hoff p hp (List.mem_singleton.mpr q)) (fun p hp => Heap.lt_size (N p hp).1) ⟨_, hall _ List.mem_cons_self (next_is_new F) _ hst₁⟩ F₁ N₂) (fun f s₃ q => ?_) fun _ _ e => e
    obtain ⟨rfl, h', tk'', m₂, news₂, rfl, F₂, hm₂, N₃, hne, hj⟩ := q
    exact .next ⟨rfl, h', tk'', m₂, news₂, rfl, F₂, (fun p hp => N₃ p ((List.mem_append.mp hp).elim (fun q => List.mem_append_right _ q) fun q => List.mem_append_left _ q)), (fun p hp q => hne p hp (List.mem_singleton.mp q)), hm₂, hj⟩
  · rintro h' tk' m' news' F' N' _ ⟨hm', hJ⟩
    rw [two_names hm'] at F'
    exact done _ _ h' tk' news' hJ F' N'
end
end
section
section
variable {w : World} {A₀ : Around} {base h₀ : Heap} {env : Env} {outer : List Env} {dp un : Nat} {gs : Option (List Code)} {L : Addr} {m mg mb : Str → Option Value} {mean : ExcName → Option Value} {news es : List (Addr × Obj)} {sh : Heap} {sg : Array GenState} {sd : Drawn} {tk₀ : Nat} {so : OsState} {Q : Value → Shared → Prop} {E : Value → Shared → Prop}
  {a : Adr} {σ : St} {ask : Int × Int} {c : Int} {T : Nat}
theorem off_new {a : Adr} (ok : a.Ok) {t tr : Nat} (h1 : a.td < t) (h2 : tr < t) : (∀ x ∈ a.all, @Ne Nat t x) ∧ @Ne Nat t tr := by
  have key : ∀ i, decide (i < 17) = true → @Ne Nat t (a.chain.getD i 0) := fun i h => Ne.symm (ok.neT h1 i h)
  refine ⟨?_, Ne.symm (Nat.ne_of_lt h2)⟩
  simp only [List.forall_mem_cons]
  exact ⟨key 0 rfl, key 1 rfl, key 3 rfl, key 4 rfl, key 5 rfl, key 6 rfl, key 7 rfl, key 2 rfl, key 8 rfl, key 9 rfl, key 10 rfl, key 11 rfl, key 12 rfl, key 13 rfl, key 14 rfl, key 15 rfl, key 16 rfl, fun x hx => nomatch hx⟩
theorem r_issued (C : Cx w A₀ base h₀ env outer L mg mb mean) (F : Fr h₀ L sh m) (N : News h₀ L sh news) (R : Rep w a σ ask c es news) (ok : a.Ok) (g : Good T σ) (hT : T ≤ 20) (hdep : dp < 430)
  (h : ∀ h' tk' σ' news', IssuedS σ σ' → Rep w a σ' ask c es news' → Fr h₀ L h' m → News h₀ L h' news' → Q .none ⟨h', sg, sd, tk', so⟩) :
  wpAny (model PySem.Challenge.rw_sj0110_01.row.prog w) (⟨none, dp, some (env :: outer), gs, un⟩ : Around) (call (.ref 215) [.ref a.nt, .ref a.xi] []) Q E ⟨sh, sg, sd, tk₀, so⟩ := by
  have bd := g.bd hT
  obtain ⟨⟨pr, I⟩, z⟩ := g
  have ok' := ok
  cases R
  rename_i tr as nb nls ne nu nr nf nba nh ntl nd tc j4 j5 v3 v5 oI oK oT oN ivs kvs tvs evs ws uvs rvs fvs bvs hvs tlvs dvs ns tups htr hoff hX hI hI1 hI2 hE hE1 hK hK1 hK2 hU hT hT1 hT2 hR hN hA hF hB hH hL hD hW hW1 hc
  obtain ⟨o1, o2, o3, o4, o5, o6, o7, o8, o9, o10, o11, o12, o13, o14, o15, o16, q1, q2, q3⟩ := ok
  have hfl := hF.length
  have hil : ivs.length = σ.iss.length := by rw [← hI1, List.length_map]
  have b1 := bd.nx
  have b2 := bd.nx1
  have b3 := bd.fo
  have b4 := bd.iss
  have N1 : News h₀ L sh ((a.di, locD w a.iss a.ev σ.lim σ.nx σ.rpI a.i1 a.i2 a.i3 a.i4 a.i5 a.i6 a.j1 j4 j5) :: (a.xi, instObj 98 a.di) :: (a.iss, oI) :: (a.ev, W.listOf evs ne) :: (a.fo, W.listOf fvs.toArray nf) :: (a.bx, W.listOf #[.ref a.ls, .int c tc] nb) :: (a.ls, W.listOf ws.toArray nls) :: (a.du, remD w a.kn a.us a.td tr σ.lim σ.cur σ.rpU a.u1 a.u2 a.u3 a.u4 a.u5 a.u6 a.u7 a.u8 a.v1 v3 v5) :: (a.xu, instObj 190 a.du) :: (a.kn, oK) :: (a.us, W.listOf uvs.toArray nu) :: (a.td, oT) :: (tr, W.listOf rvs.toArray nr) :: (a.nt, oN) :: (a.ba, W.listOf bvs.toArray nba) :: (a.he, W.listOf hvs.toArray nh) :: (a.tl, W.listOf tlvs.toArray ntl) :: (a.dn, W.listOf dvs.toArray nd) :: (tups ++ es)) := News.of N (by w_left)
  refine' c_issued C F N1 ?q3 ?q4 ?q5 ?q6 ?q7 ?q8 ?q9 ?q10 ?q11 ?q12 hN hI ?q15 ?q16 ?q17 ?q18 ?q19 ?q20 ?q21 ?q22 ?q23 ?q24
  case q3 => omega
  case q4 => omega
  case q5 => omega
  case q6 => omega
  case q7 => omega
  case q8 => exact (List.forall_mem_cons.mpr ⟨(ok'.ne 1 8 rfl), (List.forall_mem_cons.mpr ⟨(ok'.ne 0 8 rfl), (List.forall_mem_cons.mpr ⟨(ok'.ne 12 8 rfl), (List.forall_mem_cons.mpr ⟨(ok'.ne 13 8 rfl), (List.forall_mem_cons.mpr ⟨(ok'.ne 14 8 rfl), (List.forall_mem_cons.mpr ⟨(ok'.ne 15 8 rfl), (List.forall_mem_cons.mpr ⟨(ok'.ne 16 8 rfl), (List.forall_mem_cons.mpr ⟨(Ne.symm (ok'.neT htr 8 rfl)), (List.forall_mem_cons.mpr ⟨(ok'.ne 2 8 rfl), (List.forall_mem_cons.mpr ⟨(ok'.ne 4 8 rfl), (List.forall_mem_cons.mpr ⟨(ok'.ne 5 8 rfl), (List.forall_mem_cons.mpr ⟨(ok'.ne 6 8 rfl), (List.forall_mem_cons.mpr ⟨(ok'.ne 7 8 rfl), (off_all hoff (x := a.di) (List.mem_cons_of_mem _ (List.mem_cons_of_mem _ (List.mem_cons_of_mem _ (List.mem_cons_of_mem _ (List.mem_cons_of_mem _ (List.mem_cons_of_mem _ (List.mem_cons_of_mem _ (List.mem_cons_of_mem _ List.mem_cons_self)))))))))⟩)⟩)⟩)⟩)⟩)⟩)⟩)⟩)⟩)⟩)⟩)⟩)⟩)
  case q9 => exact (List.forall_mem_cons.mpr ⟨(ok'.ne 1 10 rfl), (List.forall_mem_cons.mpr ⟨(ok'.ne 0 10 rfl), (List.forall_mem_cons.mpr ⟨(ok'.ne 12 10 rfl), (List.forall_mem_cons.mpr ⟨(ok'.ne 13 10 rfl), (List.forall_mem_cons.mpr ⟨(ok'.ne 14 10 rfl), (List.forall_mem_cons.mpr ⟨(ok'.ne 15 10 rfl), (List.forall_mem_cons.mpr ⟨(ok'.ne 16 10 rfl), (List.forall_mem_cons.mpr ⟨(Ne.symm (ok'.neT htr 10 rfl)), (List.forall_mem_cons.mpr ⟨(ok'.ne 2 10 rfl), (List.forall_mem_cons.mpr ⟨(ok'.ne 4 10 rfl), (List.forall_mem_cons.mpr ⟨(ok'.ne 5 10 rfl), (List.forall_mem_cons.mpr ⟨(ok'.ne 6 10 rfl), (List.forall_mem_cons.mpr ⟨(ok'.ne 7 10 rfl), (off_all hoff (x := a.iss) (List.mem_cons_of_mem _ (List.mem_cons_of_mem _ (List.mem_cons_of_mem _ (List.mem_cons_of_mem _ (List.mem_cons_of_mem _ (List.mem_cons_of_mem _ (List.mem_cons_of_mem _ (List.mem_cons_of_mem _ (List.mem_cons_of_mem _ (List.mem_cons_of_mem _ List.mem_cons_self)))))))))))⟩)⟩)⟩)⟩)⟩)⟩)⟩)⟩)⟩)⟩)⟩)⟩)⟩)
  case q10 => exact (List.forall_mem_cons.mpr ⟨(ok'.ne 1 11 rfl), (List.forall_mem_cons.mpr ⟨(ok'.ne 0 11 rfl), (List.forall_mem_cons.mpr ⟨(ok'.ne 12 11 rfl), (List.forall_mem_cons.mpr ⟨(ok'.ne 13 11 rfl), (List.forall_mem_cons.mpr ⟨(ok'.ne 14 11 rfl), (List.forall_mem_cons.mpr ⟨(ok'.ne 15 11 rfl), (List.forall_mem_cons.mpr ⟨(ok'.ne 16 11 rfl), (List.forall_mem_cons.mpr ⟨(Ne.symm (ok'.neT htr 11 rfl)), (List.forall_mem_cons.mpr ⟨(ok'.ne 2 11 rfl), (List.forall_mem_cons.mpr ⟨(ok'.ne 4 11 rfl), (List.forall_mem_cons.mpr ⟨(ok'.ne 5 11 rfl), (List.forall_mem_cons.mpr ⟨(ok'.ne 6 11 rfl), (List.forall_mem_cons.mpr ⟨(ok'.ne 7 11 rfl), (off_all hoff (x := a.ev) (List.mem_cons_of_mem _ (List.mem_cons_of_mem _ (List.mem_cons_of_mem _ (List.mem_cons_of_mem _ (List.mem_cons_of_mem _ (List.mem_cons_of_mem _ (List.mem_cons_of_mem _ (List.mem_cons_of_mem _ (List.mem_cons_of_mem _ (List.mem_cons_of_mem _ (List.mem_cons_of_mem _ List.mem_cons_self))))))))))))⟩)⟩)⟩)⟩)⟩)⟩)⟩)⟩)⟩)⟩)⟩)⟩)⟩)
  case q11 => exact (List.forall_mem_cons.mpr ⟨(ok'.ne 1 3 rfl), (List.forall_mem_cons.mpr ⟨(ok'.ne 0 3 rfl), (List.forall_mem_cons.mpr ⟨(ok'.ne 12 3 rfl), (List.forall_mem_cons.mpr ⟨(ok'.ne 13 3 rfl), (List.forall_mem_cons.mpr ⟨(ok'.ne 14 3 rfl), (List.forall_mem_cons.mpr ⟨(ok'.ne 15 3 rfl), (List.forall_mem_cons.mpr ⟨(ok'.ne 16 3 rfl), (List.forall_mem_cons.mpr ⟨(Ne.symm (ok'.neT htr 3 rfl)), (List.forall_mem_cons.mpr ⟨(ok'.ne 2 3 rfl), (List.forall_mem_cons.mpr ⟨(ok'.ne 4 3 rfl), (List.forall_mem_cons.mpr ⟨(ok'.ne 5 3 rfl), (List.forall_mem_cons.mpr ⟨(ok'.ne 6 3 rfl), (List.forall_mem_cons.mpr ⟨(ok'.ne 7 3 rfl), (off_all hoff (x := a.fo) (List.mem_cons_of_mem _ (List.mem_cons_of_mem _ List.mem_cons_self)))⟩)⟩)⟩)⟩)⟩)⟩)⟩)⟩)⟩)⟩)⟩)⟩)⟩)
  case q12 => k_places
  case q15 => omega
  case q16 => exact q1
  case q17 => omega
  case q18 => omega
  case q19 => omega
  case q20 =>
    intro y hy
    obtain ⟨k, u, e1, e2, e3⟩ := hE y hy
    refine ⟨_, u, e1, fun e4 => ?_⟩
    have e5 := cidA_pos b2
    have e6 : (cidA k).toList = (cidA σ.nx).toList := by rw [e4, e5]
    have := cidA_inj e2 (by omega) (by omega) (by omega) e6
    omega
  case q21 =>
    rw [hI1]
    exact fun e => absurd (I.iss_lt e).2 (Int.lt_irrefl _)
  case q22 => omega
  case q23 =>
    intro hlt h' tk t o' ne' nf' tb tc' v tup F' hI' hv l1 l2 N'
    rw [hI1] at hlt
    have l3 : a.td < t := l2 (a.td, oT) (by k_places)
    have l4 : tr < t := l2 (tr, W.listOf rvs.toArray nr) (by k_places)
    have ce := cidA_pos b2
    have hm : ∀ p ∈ tups, p ∈ (t, tupOf tup) :: tups := fun p hp => List.mem_cons_of_mem _ hp
    have hoff' : ∀ p ∈ ((t, tupOf tup) :: tups) ++ es, (∀ x ∈ a.all, @Ne Nat p.1 x) ∧ @Ne Nat p.1 tr := by
      intro p hp
      rcases List.mem_cons.mp hp with e | hp
      · rw [e]; exact off_new ok' l3 l4
      · exact hoff p hp
    have hX' : ∀ p ∈ (t, tupOf tup) :: tups, ∀ q ∈ es, @Ne Nat p.1 q.1 := by
      intro p hp q hq
      rcases List.mem_cons.mp hp with e | hp
      · rw [e]; exact Ne.symm (Nat.ne_of_lt (l2 q (by k_places)))
      · exact hX p hp q hq
    refine' h h' tk _ _ (.inl ⟨hlt, rfl⟩) (Rep.mk (tr := tr) (as := as) (nb := nb) (nls := nls) (ne := ne') (nu := nu) (nr := nr) (nf := nf') (nba := nba) (nh := nh) (ntl := ntl) (nd := nd) (tc := tc) (j4 := tb) (j5 := j5) (v3 := v3) (v5 := v5) (oI := o') (oK := oK) (oT := oT) (oN := oN) (ivs := (ivs ++ [(σ.nx, .bytes (([σ.nx, 7] : List Int).map fun n => n.toNat.toUInt8).toArray tc')])) (kvs := kvs) (tvs := tvs) (evs := (evs.push (.bytes (([σ.nx, 7] : List Int).map fun n => n.toNat.toUInt8).toArray tc'))) (ws := ws) (uvs := uvs) (rvs := rvs) (fvs := (fvs ++ [v])) (bvs := bvs) (hvs := hvs) (tlvs := tlvs) (dvs := dvs) (ns := ns) (tups := ((t, tupOf tup) :: tups)) htr hoff' hX' hI' ?a1 ?a2 ?a3 ?a4 hK hK1 (fun p hp => (hK2 p hp).mono hm) hU hT hT1 (fun p hp => ⟨(hT2 p hp).1.mono hm, fun z => ((hT2 p hp).2 z).mono hm⟩) hR hN (hA.imp fun _ z => z.imp fun _ z => z.imp fun _ z => hm _ z) ?a5 (hB.mono fun _ _ z => z.mono hm) hH hL hD hW hW1 hc) F' ?N
    case N => exact News.of N' (by (try dsimp only [List.cons_append]); w_left)
    case a1 => rw [List.map_append, hI1]; rfl
    case a2 =>
      intro p hp
      rcases List.mem_append.mp hp with hp | hp
      · exact hI2 p hp
      · rw [List.mem_singleton.mp hp]; exact ⟨tc', by rw [ce]⟩
    case a3 =>
      intro y hy
      rcases Array.mem_push.mp hy with hy | hy
      · obtain ⟨k, u, e1, e2, e3⟩ := hE y hy
        exact ⟨k, u, e1, e2, by dsimp only; omega⟩
      · exact ⟨σ.nx, tc', by rw [hy, ce], by omega, by dsimp only; omega⟩
    case a4 => rw [Array.size_push]; dsimp only; omega
    case a5 => exact (hF.mono fun _ _ z => z.mono hm).append (.cons (hv.mono fun p hp => by rw [List.mem_singleton.mp hp]; exact List.mem_cons_self) .nil)
  case q24 =>
    intro hlt h' tk F' N'
    rw [hI1] at hlt
    refine' h h' tk σ _ (.inr ⟨hlt, rfl⟩) (Rep.mk (tr := tr) (as := as) (nb := nb) (nls := nls) (ne := ne) (nu := nu) (nr := nr) (nf := nf) (nba := nba) (nh := nh) (ntl := ntl) (nd := nd) (tc := tc) (j4 := j4) (j5 := j5) (v3 := v3) (v5 := v5) (oI := oI) (oK := oK) (oT := oT) (oN := oN) (ivs := ivs) (kvs := kvs) (tvs := tvs) (evs := evs) (ws := ws) (uvs := uvs) (rvs := rvs) (fvs := fvs) (bvs := bvs) (hvs := hvs) (tlvs := tlvs) (dvs := dvs) (ns := ns) (tups := tups) htr hoff hX hI hI1 hI2 hE hE1 hK hK1 hK2 hU hT hT1 hT2 hR hN hA hF hB hH hL hD hW hW1 hc) F' ?N
    case N => exact News.of N' (by (try dsimp only [List.cons_append]); w_left)
end
end
section
section
variable {w : World} {A₀ : Around} {base h₀ : Heap} {env : Env} {outer : List Env} {dp un : Nat} {gs : Option (List Code)} {L : Addr} {m mg mb : Str → Option Value} {mean : ExcName → Option Value} {news es : List (Addr × Obj)} {sh : Heap} {sg : Array GenState} {sd : Drawn} {tk₀ : Nat} {so : OsState} {Q : Value → Shared → Prop} {E : Value → Shared → Prop}
  {a : Adr} {σ : St} {ask : Int × Int} {c : Int} {T : Nat}
theorem map_filter_fstP (p : Int → Bool) (l : List (Int × Value)) : (l.filter fun x => p x.1).map (·.1) = (l.map (·.1)).filter p := List.filter_map.symm
theorem r_ask {p : Int} {tp : Tok} (hp : 0 ≤ p) (C : Cx w A₀ base h₀ env outer L mg mb mean) (F : Fr h₀ L sh m) (N : News h₀ L sh news) (R : Rep w a σ ask c es news) (ok : a.Ok) (g : Good T σ) (hT : T ≤ 20) (hdep : dp < 430)
  (h : ∀ h' tk' σ' news', AskS σ σ' → Rep w a σ' ask c es news' → Fr h₀ L h' m → News h₀ L h' news' → Q .none ⟨h', sg, sd, tk', so⟩) :
  wpAny (model PySem.Challenge.rw_sj0110_01.row.prog w) (⟨none, dp, some (env :: outer), gs, un⟩ : Around) (call (.ref 81) [.ref a.xi, .int p tp] []) Q E ⟨sh, sg, sd, tk₀, so⟩ := by
  have bd := g.bd hT
  have ok' := ok
  cases R
  rename_i tr as nb nls ne nu nr nf nba nh ntl nd tc j4 j5 v3 v5 oI oK oT oN ivs kvs tvs evs ws uvs rvs fvs bvs hvs tlvs dvs ns tups htr hoff hX hI hI1 hI2 hE hE1 hK hK1 hK2 hU hT hT1 hT2 hR hN hA hF hB hH hL hD hW hW1 hc
  obtain ⟨o1, o2, o3, o4, o5, o6, o7, o8, o9, o10, o11, o12, o13, o14, o15, o16, q1, q2, q3⟩ := ok
  have hfl := hF.length
  have hbl := hB.length
  have hil : ivs.length = σ.iss.length := by rw [← hI1, List.length_map]
  have hkl : kvs.length = σ.kn.length := by rw [← hK1, List.length_map]
  have htl : tvs.length = σ.he.length := by rw [← hT1, List.length_map]
  obtain ⟨b1, b2, b3, b4, b5, b6, b7, b8, b9, b10, b11⟩ := bd
  have N1 : News h₀ L sh ((a.di, locD w a.iss a.ev σ.lim σ.nx σ.rpI a.i1 a.i2 a.i3 a.i4 a.i5 a.i6 a.j1 j4 j5) :: (a.xi, instObj 98 a.di) :: (a.bx, W.listOf #[.ref a.ls, .int c tc] nb) :: (a.ls, W.listOf ws.toArray nls) :: (a.iss, oI) :: (a.ev, W.listOf evs ne) :: (a.du, remD w a.kn a.us a.td tr σ.lim σ.cur σ.rpU a.u1 a.u2 a.u3 a.u4 a.u5 a.u6 a.u7 a.u8 a.v1 v3 v5) :: (a.xu, instObj 190 a.du) :: (a.kn, oK) :: (a.us, W.listOf uvs.toArray nu) :: (a.td, oT) :: (tr, W.listOf rvs.toArray nr) :: (a.nt, oN) :: (a.fo, W.listOf fvs.toArray nf) :: (a.ba, W.listOf bvs.toArray nba) :: (a.he, W.listOf hvs.toArray nh) :: (a.tl, W.listOf tlvs.toArray ntl) :: (a.dn, W.listOf dvs.toArray nd) :: (tups ++ es)) := News.of N (by w_left)
  refine' c_ask C F N1 ?q0 ?q1 ?q2 ?q3
  case q0 => omega
  case q1 => omega
  case q2 => exact (List.forall_mem_cons.mpr ⟨(ok'.ne 1 8 rfl), (List.forall_mem_cons.mpr ⟨(ok'.ne 0 8 rfl), (List.forall_mem_cons.mpr ⟨(ok'.ne 10 8 rfl), (List.forall_mem_cons.mpr ⟨(ok'.ne 11 8 rfl), (List.forall_mem_cons.mpr ⟨(ok'.ne 12 8 rfl), (List.forall_mem_cons.mpr ⟨(ok'.ne 13 8 rfl), (List.forall_mem_cons.mpr ⟨(ok'.ne 14 8 rfl), (List.forall_mem_cons.mpr ⟨(ok'.ne 15 8 rfl), (List.forall_mem_cons.mpr ⟨(ok'.ne 16 8 rfl), (List.forall_mem_cons.mpr ⟨(Ne.symm (ok'.neT htr 8 rfl)), (List.forall_mem_cons.mpr ⟨(ok'.ne 2 8 rfl), (List.forall_mem_cons.mpr ⟨(ok'.ne 3 8 rfl), (List.forall_mem_cons.mpr ⟨(ok'.ne 4 8 rfl), (List.forall_mem_cons.mpr ⟨(ok'.ne 5 8 rfl), (List.forall_mem_cons.mpr ⟨(ok'.ne 6 8 rfl), (List.forall_mem_cons.mpr ⟨(ok'.ne 7 8 rfl), (off_all hoff (x := a.di) (List.mem_cons_of_mem _ (List.mem_cons_of_mem _ (List.mem_cons_of_mem _ (List.mem_cons_of_mem _ (List.mem_cons_of_mem _ (List.mem_cons_of_mem _ (List.mem_cons_of_mem _ (List.mem_cons_of_mem _ List.mem_cons_self)))))))))⟩)⟩)⟩)⟩)⟩)⟩)⟩)⟩)⟩)⟩)⟩)⟩)⟩)⟩)⟩)⟩)
  case q3 =>
    rintro h' tk rp' tb rfl F' N'
    refine' h h' tk _ _ ⟨p, hp, rfl⟩ (Rep.mk (tr := tr) (as := as) (nb := nb) (nls := nls) (ne := ne) (nu := nu) (nr := nr) (nf := nf) (nba := nba) (nh := nh) (ntl := ntl) (nd := nd) (tc := tc) (j4 := j4) (j5 := tb) (v3 := v3) (v5 := v5) (oI := oI) (oK := oK) (oT := oT) (oN := oN) (ivs := ivs) (kvs := kvs) (tvs := tvs) (evs := evs) (ws := ws) (uvs := uvs) (rvs := rvs) (fvs := fvs) (bvs := bvs) (hvs := hvs) (tlvs := tlvs) (dvs := dvs) (ns := ns) (tups := tups) htr hoff hX hI hI1 hI2 hE hE1 hK hK1 hK2 hU hT hT1 hT2 hR hN hA hF hB hH hL hD hW hW1 hc) F' ?N
    case N => exact News.of N' (by (try dsimp only [List.cons_append, List.append_assoc]); (try simp only [List.append_assoc]); w_left)
theorem r_change (C : Cx w A₀ base h₀ env outer L mg mb mean) (F : Fr h₀ L sh m) (N : News h₀ L sh news) (R : Rep w a σ ask c es news) (ok : a.Ok) (g : Good T σ) (hT : T ≤ 20) (hdep : dp < 430)
  (h : ∀ h' tk' b σ' news', ChangeS σ σ' → Rep w a σ' ask c es news' → Fr h₀ L h' m → News h₀ L h' news' → Q (.bool b) ⟨h', sg, sd, tk', so⟩) :
  wpAny (model PySem.Challenge.rw_sj0110_01.row.prog w) (⟨none, dp, some (env :: outer), gs, un⟩ : Around) (call (.ref 175) [.ref a.xu] []) Q E ⟨sh, sg, sd, tk₀, so⟩ := by
  have bd := g.bd hT
  obtain ⟨⟨pr, I⟩, z⟩ := g
  have ok' := ok
  cases R
  rename_i tr as nb nls ne nu nr nf nba nh ntl nd tc j4 j5 v3 v5 oI oK oT oN ivs kvs tvs evs ws uvs rvs fvs bvs hvs tlvs dvs ns tups htr hoff hX hI hI1 hI2 hE hE1 hK hK1 hK2 hU hT hT1 hT2 hR hN hA hF hB hH hL hD hW hW1 hc
  obtain ⟨o1, o2, o3, o4, o5, o6, o7, o8, o9, o10, o11, o12, o13, o14, o15, o16, q1, q2, q3⟩ := ok
  have hfl := hF.length
  have hbl := hB.length
  have hil : ivs.length = σ.iss.length := by rw [← hI1, List.length_map]
  have hkl : kvs.length = σ.kn.length := by rw [← hK1, List.length_map]
  have htl : tvs.length = σ.he.length := by rw [← hT1, List.length_map]
  obtain ⟨b1, b2, b3, b4, b5, b6, b7, b8, b9, b10, b11⟩ := bd
  have N1 : News h₀ L sh ((a.du, remD w a.kn a.us a.td tr σ.lim σ.cur σ.rpU a.u1 a.u2 a.u3 a.u4 a.u5 a.u6 a.u7 a.u8 a.v1 v3 v5) :: (a.xu, instObj 190 a.du) :: (a.kn, oK) :: (a.us, W.listOf uvs.toArray nu) :: (tr, W.listOf rvs.toArray nr) :: (a.bx, W.listOf #[.ref a.ls, .int c tc] nb) :: (a.ls, W.listOf ws.toArray nls) :: (a.di, locD w a.iss a.ev σ.lim σ.nx σ.rpI a.i1 a.i2 a.i3 a.i4 a.i5 a.i6 a.j1 j4 j5) :: (a.xi, instObj 98 a.di) :: (a.iss, oI) :: (a.ev, W.listOf evs ne) :: (a.td, oT) :: (a.nt, oN) :: (a.fo, W.listOf fvs.toArray nf) :: (a.ba, W.listOf bvs.toArray nba) :: (a.he, W.listOf hvs.toArray nh) :: (a.tl, W.listOf tlvs.toArray ntl) :: (a.dn, W.listOf dvs.toArray nd) :: (tups ++ es)) := News.of N (by w_left)
  refine' c_change C F N1 ?q0 ?q1 ?q2 ?q3 ?q4 ?q5 ?q6 ?q7 ?q8 hU ?q9 hR ?q10 hK ?q11 q2 I.cu ?q12 ?q13
  case q0 => omega
  case q1 => omega
  case q2 => omega
  case q3 => omega
  case q4 => omega
  case q5 => exact (List.forall_mem_cons.mpr ⟨(ok'.ne 1 12 rfl), (List.forall_mem_cons.mpr ⟨(ok'.ne 0 12 rfl), (List.forall_mem_cons.mpr ⟨(ok'.ne 8 12 rfl), (List.forall_mem_cons.mpr ⟨(ok'.ne 9 12 rfl), (List.forall_mem_cons.mpr ⟨(ok'.ne 10 12 rfl), (List.forall_mem_cons.mpr ⟨(ok'.ne 11 12 rfl), (List.forall_mem_cons.mpr ⟨(ok'.ne 16 12 rfl), (List.forall_mem_cons.mpr ⟨(ok'.ne 2 12 rfl), (List.forall_mem_cons.mpr ⟨(ok'.ne 3 12 rfl), (List.forall_mem_cons.mpr ⟨(ok'.ne 4 12 rfl), (List.forall_mem_cons.mpr ⟨(ok'.ne 5 12 rfl), (List.forall_mem_cons.mpr ⟨(ok'.ne 6 12 rfl), (List.forall_mem_cons.mpr ⟨(ok'.ne 7 12 rfl), (off_all hoff (x := a.du) (List.mem_cons_of_mem _ (List.mem_cons_of_mem _ (List.mem_cons_of_mem _ (List.mem_cons_of_mem _ (List.mem_cons_of_mem _ (List.mem_cons_of_mem _ (List.mem_cons_of_mem _ (List.mem_cons_of_mem _ (List.mem_cons_of_mem _ (List.mem_cons_of_mem _ (List.mem_cons_of_mem _ (List.mem_cons_of_mem _ List.mem_cons_self)))))))))))))⟩)⟩)⟩)⟩)⟩)⟩)⟩)⟩)⟩)⟩)⟩)⟩)⟩)
  case q6 => exact (List.forall_mem_cons.mpr ⟨(ok'.ne 1 14 rfl), (List.forall_mem_cons.mpr ⟨(ok'.ne 0 14 rfl), (List.forall_mem_cons.mpr ⟨(ok'.ne 8 14 rfl), (List.forall_mem_cons.mpr ⟨(ok'.ne 9 14 rfl), (List.forall_mem_cons.mpr ⟨(ok'.ne 10 14 rfl), (List.forall_mem_cons.mpr ⟨(ok'.ne 11 14 rfl), (List.forall_mem_cons.mpr ⟨(ok'.ne 16 14 rfl), (List.forall_mem_cons.mpr ⟨(ok'.ne 2 14 rfl), (List.forall_mem_cons.mpr ⟨(ok'.ne 3 14 rfl), (List.forall_mem_cons.mpr ⟨(ok'.ne 4 14 rfl), (List.forall_mem_cons.mpr ⟨(ok'.ne 5 14 rfl), (List.forall_mem_cons.mpr ⟨(ok'.ne 6 14 rfl), (List.forall_mem_cons.mpr ⟨(ok'.ne 7 14 rfl), (off_all hoff (x := a.kn) (List.mem_cons_of_mem _ (List.mem_cons_of_mem _ (List.mem_cons_of_mem _ (List.mem_cons_of_mem _ (List.mem_cons_of_mem _ (List.mem_cons_of_mem _ (List.mem_cons_of_mem _ (List.mem_cons_of_mem _ (List.mem_cons_of_mem _ (List.mem_cons_of_mem _ (List.mem_cons_of_mem _ (List.mem_cons_of_mem _ (List.mem_cons_of_mem _ (List.mem_cons_of_mem _ List.mem_cons_self)))))))))))))))⟩)⟩)⟩)⟩)⟩)⟩)⟩)⟩)⟩)⟩)⟩)⟩)⟩)
  case q7 => exact (List.forall_mem_cons.mpr ⟨(ok'.ne 1 15 rfl), (List.forall_mem_cons.mpr ⟨(ok'.ne 0 15 rfl), (List.forall_mem_cons.mpr ⟨(ok'.ne 8 15 rfl), (List.forall_mem_cons.mpr ⟨(ok'.ne 9 15 rfl), (List.forall_mem_cons.mpr ⟨(ok'.ne 10 15 rfl), (List.forall_mem_cons.mpr ⟨(ok'.ne 11 15 rfl), (List.forall_mem_cons.mpr ⟨(ok'.ne 16 15 rfl), (List.forall_mem_cons.mpr ⟨(ok'.ne 2 15 rfl), (List.forall_mem_cons.mpr ⟨(ok'.ne 3 15 rfl), (List.forall_mem_cons.mpr ⟨(ok'.ne 4 15 rfl), (List.forall_mem_cons.mpr ⟨(ok'.ne 5 15 rfl), (List.forall_mem_cons.mpr ⟨(ok'.ne 6 15 rfl), (List.forall_mem_cons.mpr ⟨(ok'.ne 7 15 rfl), (off_all hoff (x := a.us) (List.mem_cons_of_mem _ (List.mem_cons_of_mem _ (List.mem_cons_of_mem _ (List.mem_cons_of_mem _ (List.mem_cons_of_mem _ (List.mem_cons_of_mem _ (List.mem_cons_of_mem _ (List.mem_cons_of_mem _ (List.mem_cons_of_mem _ (List.mem_cons_of_mem _ (List.mem_cons_of_mem _ (List.mem_cons_of_mem _ (List.mem_cons_of_mem _ (List.mem_cons_of_mem _ (List.mem_cons_of_mem _ List.mem_cons_self))))))))))))))))⟩)⟩)⟩)⟩)⟩)⟩)⟩)⟩)⟩)⟩)⟩)⟩)⟩)
  case q8 => exact (List.forall_mem_cons.mpr ⟨(ok'.neT htr 1 rfl), (List.forall_mem_cons.mpr ⟨(ok'.neT htr 0 rfl), (List.forall_mem_cons.mpr ⟨(ok'.neT htr 8 rfl), (List.forall_mem_cons.mpr ⟨(ok'.neT htr 9 rfl), (List.forall_mem_cons.mpr ⟨(ok'.neT htr 10 rfl), (List.forall_mem_cons.mpr ⟨(ok'.neT htr 11 rfl), (List.forall_mem_cons.mpr ⟨(ok'.neT htr 16 rfl), (List.forall_mem_cons.mpr ⟨(ok'.neT htr 2 rfl), (List.forall_mem_cons.mpr ⟨(ok'.neT htr 3 rfl), (List.forall_mem_cons.mpr ⟨(ok'.neT htr 4 rfl), (List.forall_mem_cons.mpr ⟨(ok'.neT htr 5 rfl), (List.forall_mem_cons.mpr ⟨(ok'.neT htr 6 rfl), (List.forall_mem_cons.mpr ⟨(ok'.neT htr 7 rfl), (fun p hp => (hoff p hp).2)⟩)⟩)⟩)⟩)⟩)⟩)⟩)⟩)⟩)⟩)⟩)⟩)⟩)
  case q9 => omega
  case q10 => omega
  case q11 => omega
  case q12 => rw [hK1]; exact I.ck
  case q13 =>
    intro h' tk b oK' cur' t3' uvs' uns' nu' rvs' rns' nr' kvs' hK' hU' hul' hR' hc1 hc2 hc3 F' N'
    refine' h h' tk b _ _ ⟨cur', uns', kvs'.map (·.1), rns', rfl, hul', ?s1, hc2, hc3⟩ (Rep.mk (tr := tr) (as := as) (nb := nb) (nls := nls) (ne := ne) (nu := nu') (nr := nr') (nf := nf) (nba := nba) (nh := nh) (ntl := ntl) (nd := nd) (tc := tc) (j4 := j4) (j5 := j5) (v3 := t3') (v5 := v5) (oI := oI) (oK := oK') (oT := oT) (oN := oN) (ivs := ivs) (kvs := kvs') (tvs := tvs) (evs := evs) (ws := ws) (uvs := uvs') (rvs := rvs') (fvs := fvs) (bvs := bvs) (hvs := hvs) (tlvs := tlvs) (dvs := dvs) (ns := ns) (tups := tups) htr hoff hX hI hI1 hI2 hE hE1 hK' rfl ?s2 hU' hT hT1 hT2 hR' hN hA hF hB hH hL hD hW hW1 hc) F' ?N
    case N => exact News.of N' (by (try dsimp only [List.cons_append, List.append_assoc]); (try simp only [List.append_assoc]); w_left)
    case s1 =>
      rcases hc1 with ⟨rfl, rfl⟩ | ⟨rfl, rfl⟩
      · exact .inl ⟨hK1, rfl⟩
      · refine .inr ⟨?_, rfl⟩
        rw [map_filter_fstP (fun q => !decide (q = σ.cur)), hK1]
    case s2 =>
      rcases hc1 with ⟨rfl, rfl⟩ | ⟨rfl, rfl⟩
      · exact hK2
      · exact fun p hp => hK2 p (List.mem_filter.mp hp).1
theorem r_word {pk : Int} {tp : Tok} (hne : σ.ba ≠ []) (hp0 : 0 ≤ pk) (hp1 : pk ≤ 1000) (C : Cx w A₀ base h₀ env outer L mg mb mean) (F : Fr h₀ L sh m) (N : News h₀ L sh news) (R : Rep w a σ ask c es news) (ok : a.Ok) (g : Good T σ) (hT : T ≤ 20) (hdep : dp < 430)
  (h : ∀ h' tk' σ' news', WordS pk σ σ' → Rep w a σ' ask c es news' → Fr h₀ L h' m → News h₀ L h' news' → Q .none ⟨h', sg, sd, tk', so⟩) :
  wpAny (model PySem.Challenge.rw_sj0110_01.row.prog w) (⟨none, dp, some (env :: outer), gs, un⟩ : Around) (call (.ref 236) [.ref a.nt, .ref a.xi, .int pk tp] []) Q E ⟨sh, sg, sd, tk₀, so⟩ := by
  have bd := g.bd hT
  obtain ⟨⟨pr, I⟩, z⟩ := g
  have ok' := ok
  cases R
  rename_i tr as nb nls ne nu nr nf nba nh ntl nd tc j4 j5 v3 v5 oI oK oT oN ivs kvs tvs evs ws uvs rvs fvs bvs hvs tlvs dvs ns tups htr hoff hX hI hI1 hI2 hE hE1 hK hK1 hK2 hU hT hT1 hT2 hR hN hA hF hB hH hL hD hW hW1 hc
  obtain ⟨o1, o2, o3, o4, o5, o6, o7, o8, o9, o10, o11, o12, o13, o14, o15, o16, q1, q2, q3⟩ := ok
  have hfl := hF.length
  have hbl := hB.length
  have hil : ivs.length = σ.iss.length := by rw [← hI1, List.length_map]
  have hkl : kvs.length = σ.kn.length := by rw [← hK1, List.length_map]
  have htl : tvs.length = σ.he.length := by rw [← hT1, List.length_map]
  obtain ⟨b1, b2, b3, b4, b5, b6, b7, b8, b9, b10, b11⟩ := bd
  have N1 : News h₀ L sh ((a.di, locD w a.iss a.ev σ.lim σ.nx σ.rpI a.i1 a.i2 a.i3 a.i4 a.i5 a.i6 a.j1 j4 j5) :: (a.xi, instObj 98 a.di) :: (a.iss, oI) :: (a.ba, W.listOf bvs.toArray nba) :: (a.dn, W.listOf dvs.toArray nd) :: (a.bx, W.listOf #[.ref a.ls, .int c tc] nb) :: (a.ls, W.listOf ws.toArray nls) :: (a.ev, W.listOf evs ne) :: (a.du, remD w a.kn a.us a.td tr σ.lim σ.cur σ.rpU a.u1 a.u2 a.u3 a.u4 a.u5 a.u6 a.u7 a.u8 a.v1 v3 v5) :: (a.xu, instObj 190 a.du) :: (a.kn, oK) :: (a.us, W.listOf uvs.toArray nu) :: (a.td, oT) :: (tr, W.listOf rvs.toArray nr) :: (a.nt, oN) :: (a.fo, W.listOf fvs.toArray nf) :: (a.he, W.listOf hvs.toArray nh) :: (a.tl, W.listOf tlvs.toArray ntl) :: (tups ++ es)) := News.of N (by w_left)
  refine' c_word C F N1 ?q0 ?q1 ?q2 ?q3 ?q4 ?q5 ?q6 ?q7 ?q8 ?q9 ?q10 hN hI ?q11 q1 ?q12 ?q13 (fr := tups) ?q14 hB hD ?q15 hp0 hp1 ?q16 hI2 ?q17
  case q0 => omega
  case q1 => omega
  case q2 => omega
  case q3 => omega
  case q4 => omega
  case q5 => omega
  case q6 => exact (List.forall_mem_cons.mpr ⟨(ok'.ne 1 8 rfl), (List.forall_mem_cons.mpr ⟨(ok'.ne 0 8 rfl), (List.forall_mem_cons.mpr ⟨(ok'.ne 11 8 rfl), (List.forall_mem_cons.mpr ⟨(ok'.ne 12 8 rfl), (List.forall_mem_cons.mpr ⟨(ok'.ne 13 8 rfl), (List.forall_mem_cons.mpr ⟨(ok'.ne 14 8 rfl), (List.forall_mem_cons.mpr ⟨(ok'.ne 15 8 rfl), (List.forall_mem_cons.mpr ⟨(ok'.ne 16 8 rfl), (List.forall_mem_cons.mpr ⟨(Ne.symm (ok'.neT htr 8 rfl)), (List.forall_mem_cons.mpr ⟨(ok'.ne 2 8 rfl), (List.forall_mem_cons.mpr ⟨(ok'.ne 3 8 rfl), (List.forall_mem_cons.mpr ⟨(ok'.ne 5 8 rfl), (List.forall_mem_cons.mpr ⟨(ok'.ne 6 8 rfl), (off_all hoff (x := a.di) (List.mem_cons_of_mem _ (List.mem_cons_of_mem _ (List.mem_cons_of_mem _ (List.mem_cons_of_mem _ (List.mem_cons_of_mem _ (List.mem_cons_of_mem _ (List.mem_cons_of_mem _ (List.mem_cons_of_mem _ List.mem_cons_self)))))))))⟩)⟩)⟩)⟩)⟩)⟩)⟩)⟩)⟩)⟩)⟩)⟩)⟩)
  case q7 => exact (List.forall_mem_cons.mpr ⟨(ok'.ne 1 10 rfl), (List.forall_mem_cons.mpr ⟨(ok'.ne 0 10 rfl), (List.forall_mem_cons.mpr ⟨(ok'.ne 11 10 rfl), (List.forall_mem_cons.mpr ⟨(ok'.ne 12 10 rfl), (List.forall_mem_cons.mpr ⟨(ok'.ne 13 10 rfl), (List.forall_mem_cons.mpr ⟨(ok'.ne 14 10 rfl), (List.forall_mem_cons.mpr ⟨(ok'.ne 15 10 rfl), (List.forall_mem_cons.mpr ⟨(ok'.ne 16 10 rfl), (List.forall_mem_cons.mpr ⟨(Ne.symm (ok'.neT htr 10 rfl)), (List.forall_mem_cons.mpr ⟨(ok'.ne 2 10 rfl), (List.forall_mem_cons.mpr ⟨(ok'.ne 3 10 rfl), (List.forall_mem_cons.mpr ⟨(ok'.ne 5 10 rfl), (List.forall_mem_cons.mpr ⟨(ok'.ne 6 10 rfl), (off_all hoff (x := a.iss) (List.mem_cons_of_mem _ (List.mem_cons_of_mem _ (List.mem_cons_of_mem _ (List.mem_cons_of_mem _ (List.mem_cons_of_mem _ (List.mem_cons_of_mem _ (List.mem_cons_of_mem _ (List.mem_cons_of_mem _ (List.mem_cons_of_mem _ (List.mem_cons_of_mem _ List.mem_cons_self)))))))))))⟩)⟩)⟩)⟩)⟩)⟩)⟩)⟩)⟩)⟩)⟩)⟩)⟩)
  case q8 => exact (List.forall_mem_cons.mpr ⟨(ok'.ne 1 4 rfl), (List.forall_mem_cons.mpr ⟨(ok'.ne 0 4 rfl), (List.forall_mem_cons.mpr ⟨(ok'.ne 11 4 rfl), (List.forall_mem_cons.mpr ⟨(ok'.ne 12 4 rfl), (List.forall_mem_cons.mpr ⟨(ok'.ne 13 4 rfl), (List.forall_mem_cons.mpr ⟨(ok'.ne 14 4 rfl), (List.forall_mem_cons.mpr ⟨(ok'.ne 15 4 rfl), (List.forall_mem_cons.mpr ⟨(ok'.ne 16 4 rfl), (List.forall_mem_cons.mpr ⟨(Ne.symm (ok'.neT htr 4 rfl)), (List.forall_mem_cons.mpr ⟨(ok'.ne 2 4 rfl), (List.forall_mem_cons.mpr ⟨(ok'.ne 3 4 rfl), (List.forall_mem_cons.mpr ⟨(ok'.ne 5 4 rfl), (List.forall_mem_cons.mpr ⟨(ok'.ne 6 4 rfl), (off_all hoff (x := a.ba) (List.mem_cons_of_mem _ (List.mem_cons_of_mem _ (List.mem_cons_of_mem _ List.mem_cons_self))))⟩)⟩)⟩)⟩)⟩)⟩)⟩)⟩)⟩)⟩)⟩)⟩)⟩)
  case q9 => exact (List.forall_mem_cons.mpr ⟨(ok'.ne 1 7 rfl), (List.forall_mem_cons.mpr ⟨(ok'.ne 0 7 rfl), (List.forall_mem_cons.mpr ⟨(ok'.ne 11 7 rfl), (List.forall_mem_cons.mpr ⟨(ok'.ne 12 7 rfl), (List.forall_mem_cons.mpr ⟨(ok'.ne 13 7 rfl), (List.forall_mem_cons.mpr ⟨(ok'.ne 14 7 rfl), (List.forall_mem_cons.mpr ⟨(ok'.ne 15 7 rfl), (List.forall_mem_cons.mpr ⟨(ok'.ne 16 7 rfl), (List.forall_mem_cons.mpr ⟨(Ne.symm (ok'.neT htr 7 rfl)), (List.forall_mem_cons.mpr ⟨(ok'.ne 2 7 rfl), (List.forall_mem_cons.mpr ⟨(ok'.ne 3 7 rfl), (List.forall_mem_cons.mpr ⟨(ok'.ne 5 7 rfl), (List.forall_mem_cons.mpr ⟨(ok'.ne 6 7 rfl), (off_all hoff (x := a.dn) (List.mem_cons_of_mem _ (List.mem_cons_of_mem _ (List.mem_cons_of_mem _ (List.mem_cons_of_mem _ (List.mem_cons_of_mem _ (List.mem_cons_of_mem _ List.mem_cons_self)))))))⟩)⟩)⟩)⟩)⟩)⟩)⟩)⟩)⟩)⟩)⟩)⟩)⟩)
  case q10 => k_places
  case q11 => omega
  case q12 => intro e; rw [e] at hbl; exact hne (List.length_eq_zero_iff.mp hbl.symm)
  case q13 => omega
  case q14 => intro p hp; k_places
  case q15 => omega
  case q16 =>
    intro b hb
    have h1 := I.bas b hb
    have h2 := I.hlt b.1 (I.tl_he h1.1)
    refine ⟨?_, ?_, ?_, ?_, ?_, h1.2.1⟩ <;> omega
  case q17 =>
    intro h' tk o' bvs' bs' nb' dvs' dns' nd' n u x y e1 e2 e3 hB' hD' e4 hI' F' N'
    refine' h h' tk _ _ ⟨n, u, x, y, bs', e1, e2, e3, rfl⟩ (Rep.mk (tr := tr) (as := as) (nb := nb) (nls := nls) (ne := ne) (nu := nu) (nr := nr) (nf := nf) (nba := nb') (nh := nh) (ntl := ntl) (nd := nd') (tc := tc) (j4 := j4) (j5 := j5) (v3 := v3) (v5 := v5) (oI := o') (oK := oK) (oT := oT) (oN := oN) (ivs := (ivs.filter fun p => !decide (p.1 = n))) (kvs := kvs) (tvs := tvs) (evs := evs) (ws := ws) (uvs := uvs) (rvs := rvs) (fvs := fvs) (bvs := bvs') (hvs := hvs) (tlvs := tlvs) (dvs := dvs') (ns := ns) (tups := tups) htr hoff hX hI' ?s1 ?s2 hE hE1 hK hK1 hK2 hU hT hT1 hT2 hR hN hA hF hB' hH hL ?s3 hW hW1 hc) F' ?N
    case N => exact News.of N' (by (try dsimp only [List.cons_append, List.append_assoc]); (try simp only [List.append_assoc]); w_left)
    case s1 => rw [map_filter_fstP (fun q => !decide (q = n)), hI1]
    case s2 => exact fun p hp => hI2 p (List.mem_filter.mp hp).1
    case s3 => rw [← e4]; exact hD'
theorem r_tells (C : Cx w A₀ base h₀ env outer L mg mb mean) (F : Fr h₀ L sh m) (N : News h₀ L sh news) (R : Rep w a σ ask c es news) (ok : a.Ok) (g : Good T σ) (hT : T ≤ 20) (hdep : dp < 430)
  (h : ∀ h' tk' σ' news', TellsS σ σ' → Rep w a σ' ask c es news' → Fr h₀ L h' m → News h₀ L h' news' → Q .none ⟨h', sg, sd, tk', so⟩) :
  wpAny (model PySem.Challenge.rw_sj0110_01.row.prog w) (⟨none, dp, some (env :: outer), gs, un⟩ : Around) (call (.ref 229) [.ref a.nt, .ref a.xu] []) Q E ⟨sh, sg, sd, tk₀, so⟩ := by
  have bd := g.bd hT
  obtain ⟨⟨pr, I⟩, z⟩ := g
  have ok' := ok
  cases R
  rename_i tr as nb nls ne nu nr nf nba nh ntl nd tc j4 j5 v3 v5 oI oK oT oN ivs kvs tvs evs ws uvs rvs fvs bvs hvs tlvs dvs ns tups htr hoff hX hI hI1 hI2 hE hE1 hK hK1 hK2 hU hT hT1 hT2 hR hN hA hF hB hH hL hD hW hW1 hc
  obtain ⟨o1, o2, o3, o4, o5, o6, o7, o8, o9, o10, o11, o12, o13, o14, o15, o16, q1, q2, q3⟩ := ok
  have hfl := hF.length
  have hbl := hB.length
  have hil : ivs.length = σ.iss.length := by rw [← hI1, List.length_map]
  have hkl : kvs.length = σ.kn.length := by rw [← hK1, List.length_map]
  have htl : tvs.length = σ.he.length := by rw [← hT1, List.length_map]
  obtain ⟨b1, b2, b3, b4, b5, b6, b7, b8, b9, b10, b11⟩ := bd
  have N1 : News h₀ L sh ((a.du, remD w a.kn a.us a.td tr σ.lim σ.cur σ.rpU a.u1 a.u2 a.u3 a.u4 a.u5 a.u6 a.u7 a.u8 a.v1 v3 v5) :: (a.xu, instObj 190 a.du) :: (tr, W.listOf rvs.toArray nr) :: (a.ba, W.listOf bvs.toArray nba) :: (a.tl, W.listOf tlvs.toArray ntl) :: (a.bx, W.listOf #[.ref a.ls, .int c tc] nb) :: (a.ls, W.listOf ws.toArray nls) :: (a.di, locD w a.iss a.ev σ.lim σ.nx σ.rpI a.i1 a.i2 a.i3 a.i4 a.i5 a.i6 a.j1 j4 j5) :: (a.xi, instObj 98 a.di) :: (a.iss, oI) :: (a.ev, W.listOf evs ne) :: (a.kn, oK) :: (a.us, W.listOf uvs.toArray nu) :: (a.td, oT) :: (a.nt, oN) :: (a.fo, W.listOf fvs.toArray nf) :: (a.he, W.listOf hvs.toArray nh) :: (a.dn, W.listOf dvs.toArray nd) :: (tups ++ es)) := News.of N (by w_left)
  refine' c_tells (fr := tups) C F N1 ?q0 ?q1 ?q2 ?q3 ?q4 ?q5 ?q6 ?q7 ?q8 hN ?q9 hR ?q10 hK ?q11 q2 ?q12 ?q13 ?q14 hB hL ?q15 ?q16
  case q0 => omega
  case q1 => omega
  case q2 => omega
  case q3 => omega
  case q4 => omega
  case q5 => exact (List.forall_mem_cons.mpr ⟨(ok'.ne 1 12 rfl), (List.forall_mem_cons.mpr ⟨(ok'.ne 0 12 rfl), (List.forall_mem_cons.mpr ⟨(ok'.ne 8 12 rfl), (List.forall_mem_cons.mpr ⟨(ok'.ne 9 12 rfl), (List.forall_mem_cons.mpr ⟨(ok'.ne 10 12 rfl), (List.forall_mem_cons.mpr ⟨(ok'.ne 11 12 rfl), (List.forall_mem_cons.mpr ⟨(ok'.ne 14 12 rfl), (List.forall_mem_cons.mpr ⟨(ok'.ne 15 12 rfl), (List.forall_mem_cons.mpr ⟨(ok'.ne 16 12 rfl), (List.forall_mem_cons.mpr ⟨(ok'.ne 2 12 rfl), (List.forall_mem_cons.mpr ⟨(ok'.ne 3 12 rfl), (List.forall_mem_cons.mpr ⟨(ok'.ne 5 12 rfl), (List.forall_mem_cons.mpr ⟨(ok'.ne 7 12 rfl), (off_all hoff (x := a.du) (List.mem_cons_of_mem _ (List.mem_cons_of_mem _ (List.mem_cons_of_mem _ (List.mem_cons_of_mem _ (List.mem_cons_of_mem _ (List.mem_cons_of_mem _ (List.mem_cons_of_mem _ (List.mem_cons_of_mem _ (List.mem_cons_of_mem _ (List.mem_cons_of_mem _ (List.mem_cons_of_mem _ (List.mem_cons_of_mem _ List.mem_cons_self)))))))))))))⟩)⟩)⟩)⟩)⟩)⟩)⟩)⟩)⟩)⟩)⟩)⟩)⟩)
  case q6 => exact (List.forall_mem_cons.mpr ⟨(ok'.ne 1 4 rfl), (List.forall_mem_cons.mpr ⟨(ok'.ne 0 4 rfl), (List.forall_mem_cons.mpr ⟨(ok'.ne 8 4 rfl), (List.forall_mem_cons.mpr ⟨(ok'.ne 9 4 rfl), (List.forall_mem_cons.mpr ⟨(ok'.ne 10 4 rfl), (List.forall_mem_cons.mpr ⟨(ok'.ne 11 4 rfl), (List.forall_mem_cons.mpr ⟨(ok'.ne 14 4 rfl), (List.forall_mem_cons.mpr ⟨(ok'.ne 15 4 rfl), (List.forall_mem_cons.mpr ⟨(ok'.ne 16 4 rfl), (List.forall_mem_cons.mpr ⟨(ok'.ne 2 4 rfl), (List.forall_mem_cons.mpr ⟨(ok'.ne 3 4 rfl), (List.forall_mem_cons.mpr ⟨(ok'.ne 5 4 rfl), (List.forall_mem_cons.mpr ⟨(ok'.ne 7 4 rfl), (off_all hoff (x := a.ba) (List.mem_cons_of_mem _ (List.mem_cons_of_mem _ (List.mem_cons_of_mem _ List.mem_cons_self))))⟩)⟩)⟩)⟩)⟩)⟩)⟩)⟩)⟩)⟩)⟩)⟩)⟩)
  case q7 => exact (List.forall_mem_cons.mpr ⟨(ok'.ne 1 6 rfl), (List.forall_mem_cons.mpr ⟨(ok'.ne 0 6 rfl), (List.forall_mem_cons.mpr ⟨(ok'.ne 8 6 rfl), (List.forall_mem_cons.mpr ⟨(ok'.ne 9 6 rfl), (List.forall_mem_cons.mpr ⟨(ok'.ne 10 6 rfl), (List.forall_mem_cons.mpr ⟨(ok'.ne 11 6 rfl), (List.forall_mem_cons.mpr ⟨(ok'.ne 14 6 rfl), (List.forall_mem_cons.mpr ⟨(ok'.ne 15 6 rfl), (List.forall_mem_cons.mpr ⟨(ok'.ne 16 6 rfl), (List.forall_mem_cons.mpr ⟨(ok'.ne 2 6 rfl), (List.forall_mem_cons.mpr ⟨(ok'.ne 3 6 rfl), (List.forall_mem_cons.mpr ⟨(ok'.ne 5 6 rfl), (List.forall_mem_cons.mpr ⟨(ok'.ne 7 6 rfl), (off_all hoff (x := a.tl) (List.mem_cons_of_mem _ (List.mem_cons_of_mem _ (List.mem_cons_of_mem _ (List.mem_cons_of_mem _ (List.mem_cons_of_mem _ List.mem_cons_self))))))⟩)⟩)⟩)⟩)⟩)⟩)⟩)⟩)⟩)⟩)⟩)⟩)⟩)
  case q8 => k_places
  case q9 => k_places
  case q10 => omega
  case q11 => omega
  case q12 => rw [hK1]; exact I.ck
  case q13 => exact fun p hp => (hK2 p hp).mono fun q hq => by k_places
  case q14 => omega
  case q15 => omega
  case q16 =>
    intro h' tk tr' nr' bvs' nb' tlvs' nl' tups' hL' hB' l1 l2 l3 F' N'
    have l4 : a.td < tr' := l2 (a.td, oT) (by k_places)
    have hm : ∀ p ∈ tups, p ∈ tups' ++ tups := fun p hp => List.mem_append_right _ hp
    have hoff' : ∀ p ∈ (tups' ++ tups) ++ es, (∀ x ∈ a.all, @Ne Nat p.1 x) ∧ @Ne Nat p.1 tr' := by
      intro p hp
      rw [List.append_assoc] at hp
      rcases List.mem_append.mp hp with hp | hp
      · exact off_new ok' (Nat.lt_trans l4 (l3 p hp).2) (l3 p hp).2
      · exact ⟨(hoff p hp).1, Nat.ne_of_lt (l2 p (by k_places))⟩
    have hX' : ∀ p ∈ tups' ++ tups, ∀ q ∈ es, @Ne Nat p.1 q.1 := by
      intro p hp q hq
      rcases List.mem_append.mp hp with hp | hp
      · exact Ne.symm (Nat.ne_of_lt (Nat.lt_trans (l2 q (by k_places)) (l3 p hp).2))
      · exact hX p hp q hq
    refine' h h' tk _ _ rfl (Rep.mk (tr := tr') (as := as) (nb := nb) (nls := nls) (ne := ne) (nu := nu) (nr := nr') (nf := nf) (nba := nb') (nh := nh) (ntl := nl') (nd := nd) (tc := tc) (j4 := j4) (j5 := j5) (v3 := v3) (v5 := v5) (oI := oI) (oK := oK) (oT := oT) (oN := oN) (ivs := ivs) (kvs := kvs) (tvs := tvs) (evs := evs) (ws := ws) (uvs := uvs) (rvs := ([] : List Value)) (fvs := fvs) (bvs := bvs') (hvs := hvs) (tlvs := tlvs') (dvs := dvs) (ns := ns) (tups := (tups' ++ tups)) l4 hoff' hX' hI hI1 hI2 hE hE1 hK hK1 (fun p hp => (hK2 p hp).mono hm) hU hT hT1 (fun p hp => ⟨(hT2 p hp).1.mono hm, fun z => ((hT2 p hp).2 z).mono hm⟩) IntsAre.nil hN (hA.imp fun _ z => z.imp fun _ z => z.imp fun _ z => hm _ z) (hF.mono fun _ _ z => z.mono hm) hB' hH hL' hD hW hW1 hc) F' ?N
    case N => exact News.of N' (by (try dsimp only [List.cons_append, List.append_assoc]); (try simp only [List.append_assoc]); w_left)
theorem r_comes {pk : Int} {tp : Tok} (hne : σ.fo ≠ []) (hp0 : 0 ≤ pk) (hp1 : pk ≤ 1000) (C : Cx w A₀ base h₀ env outer L mg mb mean) (F : Fr h₀ L sh m) (N : News h₀ L sh news) (R : Rep w a σ ask c es news) (ok : a.Ok) (g : Good T σ) (hT : T ≤ 20) (hdep : dp < 430) (hun : un < 3500)
  (h : ∀ h' tk' σ' news', ComesS pk σ σ' → Rep w a σ' ask c es news' → Fr h₀ L h' m → News h₀ L h' news' → Q .none ⟨h', sg, sd, tk', so⟩) :
  wpAny (model PySem.Challenge.rw_sj0110_01.row.prog w) (⟨none, dp, some (env :: outer), gs, un⟩ : Around) (call (.ref 222) [.ref a.nt, .ref a.xu, .int pk tp] []) Q E ⟨sh, sg, sd, tk₀, so⟩ := by
  have bd := g.bd hT
  obtain ⟨⟨pr, I⟩, z⟩ := g
  have ok' := ok
  cases R
  rename_i tr as nb nls ne nu nr nf nba nh ntl nd tc j4 j5 v3 v5 oI oK oT oN ivs kvs tvs evs ws uvs rvs fvs bvs hvs tlvs dvs ns tups htr hoff hX hI hI1 hI2 hE hE1 hK hK1 hK2 hU hT hT1 hT2 hR hN hA hF hB hH hL hD hW hW1 hc
  obtain ⟨o1, o2, o3, o4, o5, o6, o7, o8, o9, o10, o11, o12, o13, o14, o15, o16, q1, q2, q3⟩ := ok
  have hfl := hF.length
  have hbl := hB.length
  have hil : ivs.length = σ.iss.length := by rw [← hI1, List.length_map]
  have hkl : kvs.length = σ.kn.length := by rw [← hK1, List.length_map]
  have htl : tvs.length = σ.he.length := by rw [← hT1, List.length_map]
  obtain ⟨b1, b2, b3, b4, b5, b6, b7, b8, b9, b10, b11⟩ := bd
  have N1 : News h₀ L sh ((a.du, remD w a.kn a.us a.td tr σ.lim σ.cur σ.rpU a.u1 a.u2 a.u3 a.u4 a.u5 a.u6 a.u7 a.u8 a.v1 v3 v5) :: (a.xu, instObj 190 a.du) :: (a.kn, oK) :: (a.us, W.listOf uvs.toArray nu) :: (a.td, oT) :: (tr, W.listOf rvs.toArray nr) :: (a.fo, W.listOf fvs.toArray nf) :: (a.he, W.listOf hvs.toArray nh) :: (a.bx, W.listOf #[.ref a.ls, .int c tc] nb) :: (a.ls, W.listOf ws.toArray nls) :: (a.di, locD w a.iss a.ev σ.lim σ.nx σ.rpI a.i1 a.i2 a.i3 a.i4 a.i5 a.i6 a.j1 j4 j5) :: (a.xi, instObj 98 a.di) :: (a.iss, oI) :: (a.ev, W.listOf evs ne) :: (a.nt, oN) :: (a.ba, W.listOf bvs.toArray nba) :: (a.tl, W.listOf tlvs.toArray ntl) :: (a.dn, W.listOf dvs.toArray nd) :: (tups ++ es)) := News.of N (by w_left)
  have hte : ∀ p ∈ tups, p ∈ tups ++ es := fun p hp => List.mem_append_left _ hp
  refine' c_comes (fr := tups) C F N1 ?q0 hun ?q1 ?q2 ?q3 ?q4 ?q5 ?q6 ?q7 ?q8 ?p1 ?p2 ?p3 ?p4 ?p5 ?p6 ?p7 ?q9 hN hU ?q10 hR ?q11 hK ?q12 q2 hT ?q13 q3 I.cu ?q14 ?q15 ?q16 ?q17 hF hH ?q18 hp0 hp1 ?q19 ?q20 ?q21 ?q22 ?q23
  case q0 => omega
  case q1 => omega
  case q2 => omega
  case q3 => omega
  case q4 => omega
  case q5 => omega
  case q6 => omega
  case q7 => omega
  case q8 => omega
  case p1 => exact (List.forall_mem_cons.mpr ⟨(ok'.ne 1 12 rfl), (List.forall_mem_cons.mpr ⟨(ok'.ne 0 12 rfl), (List.forall_mem_cons.mpr ⟨(ok'.ne 8 12 rfl), (List.forall_mem_cons.mpr ⟨(ok'.ne 9 12 rfl), (List.forall_mem_cons.mpr ⟨(ok'.ne 10 12 rfl), (List.forall_mem_cons.mpr ⟨(ok'.ne 11 12 rfl), (List.forall_mem_cons.mpr ⟨(ok'.ne 2 12 rfl), (List.forall_mem_cons.mpr ⟨(ok'.ne 4 12 rfl), (List.forall_mem_cons.mpr ⟨(ok'.ne 6 12 rfl), (List.forall_mem_cons.mpr ⟨(ok'.ne 7 12 rfl), (off_all hoff (x := a.du) (List.mem_cons_of_mem _ (List.mem_cons_of_mem _ (List.mem_cons_of_mem _ (List.mem_cons_of_mem _ (List.mem_cons_of_mem _ (List.mem_cons_of_mem _ (List.mem_cons_of_mem _ (List.mem_cons_of_mem _ (List.mem_cons_of_mem _ (List.mem_cons_of_mem _ (List.mem_cons_of_mem _ (List.mem_cons_of_mem _ List.mem_cons_self)))))))))))))⟩)⟩)⟩)⟩)⟩)⟩)⟩)⟩)⟩)⟩)
  case p2 => exact (List.forall_mem_cons.mpr ⟨(ok'.ne 1 14 rfl), (List.forall_mem_cons.mpr ⟨(ok'.ne 0 14 rfl), (List.forall_mem_cons.mpr ⟨(ok'.ne 8 14 rfl), (List.forall_mem_cons.mpr ⟨(ok'.ne 9 14 rfl), (List.forall_mem_cons.mpr ⟨(ok'.ne 10 14 rfl), (List.forall_mem_cons.mpr ⟨(ok'.ne 11 14 rfl), (List.forall_mem_cons.mpr ⟨(ok'.ne 2 14 rfl), (List.forall_mem_cons.mpr ⟨(ok'.ne 4 14 rfl), (List.forall_mem_cons.mpr ⟨(ok'.ne 6 14 rfl), (List.forall_mem_cons.mpr ⟨(ok'.ne 7 14 rfl), (off_all hoff (x := a.kn) (List.mem_cons_of_mem _ (List.mem_cons_of_mem _ (List.mem_cons_of_mem _ (List.mem_cons_of_mem _ (List.mem_cons_of_mem _ (List.mem_cons_of_mem _ (List.mem_cons_of_mem _ (List.mem_cons_of_mem _ (List.mem_cons_of_mem _ (List.mem_cons_of_mem _ (List.mem_cons_of_mem _ (List.mem_cons_of_mem _ (List.mem_cons_of_mem _ (List.mem_cons_of_mem _ List.mem_cons_self)))))))))))))))⟩)⟩)⟩)⟩)⟩)⟩)⟩)⟩)⟩)⟩)
  case p3 => exact (List.forall_mem_cons.mpr ⟨(ok'.ne 1 15 rfl), (List.forall_mem_cons.mpr ⟨(ok'.ne 0 15 rfl), (List.forall_mem_cons.mpr ⟨(ok'.ne 8 15 rfl), (List.forall_mem_cons.mpr ⟨(ok'.ne 9 15 rfl), (List.forall_mem_cons.mpr ⟨(ok'.ne 10 15 rfl), (List.forall_mem_cons.mpr ⟨(ok'.ne 11 15 rfl), (List.forall_mem_cons.mpr ⟨(ok'.ne 2 15 rfl), (List.forall_mem_cons.mpr ⟨(ok'.ne 4 15 rfl), (List.forall_mem_cons.mpr ⟨(ok'.ne 6 15 rfl), (List.forall_mem_cons.mpr ⟨(ok'.ne 7 15 rfl), (off_all hoff (x := a.us) (List.mem_cons_of_mem _ (List.mem_cons_of_mem _ (List.mem_cons_of_mem _ (List.mem_cons_of_mem _ (List.mem_cons_of_mem _ (List.mem_cons_of_mem _ (List.mem_cons_of_mem _ (List.mem_cons_of_mem _ (List.mem_cons_of_mem _ (List.mem_cons_of_mem _ (List.mem_cons_of_mem _ (List.mem_cons_of_mem _ (List.mem_cons_of_mem _ (List.mem_cons_of_mem _ (List.mem_cons_of_mem _ List.mem_cons_self))))))))))))))))⟩)⟩)⟩)⟩)⟩)⟩)⟩)⟩)⟩)⟩)
  case p4 => exact (List.forall_mem_cons.mpr ⟨(ok'.ne 1 16 rfl), (List.forall_mem_cons.mpr ⟨(ok'.ne 0 16 rfl), (List.forall_mem_cons.mpr ⟨(ok'.ne 8 16 rfl), (List.forall_mem_cons.mpr ⟨(ok'.ne 9 16 rfl), (List.forall_mem_cons.mpr ⟨(ok'.ne 10 16 rfl), (List.forall_mem_cons.mpr ⟨(ok'.ne 11 16 rfl), (List.forall_mem_cons.mpr ⟨(ok'.ne 2 16 rfl), (List.forall_mem_cons.mpr ⟨(ok'.ne 4 16 rfl), (List.forall_mem_cons.mpr ⟨(ok'.ne 6 16 rfl), (List.forall_mem_cons.mpr ⟨(ok'.ne 7 16 rfl), (off_all hoff (x := a.td) (List.mem_cons_of_mem _ (List.mem_cons_of_mem _ (List.mem_cons_of_mem _ (List.mem_cons_of_mem _ (List.mem_cons_of_mem _ (List.mem_cons_of_mem _ (List.mem_cons_of_mem _ (List.mem_cons_of_mem _ (List.mem_cons_of_mem _ (List.mem_cons_of_mem _ (List.mem_cons_of_mem _ (List.mem_cons_of_mem _ (List.mem_cons_of_mem _ (List.mem_cons_of_mem _ (List.mem_cons_of_mem _ (List.mem_cons_of_mem _ List.mem_cons_self)))))))))))))))))⟩)⟩)⟩)⟩)⟩)⟩)⟩)⟩)⟩)⟩)
  case p5 => exact (List.forall_mem_cons.mpr ⟨(ok'.neT htr 1 rfl), (List.forall_mem_cons.mpr ⟨(ok'.neT htr 0 rfl), (List.forall_mem_cons.mpr ⟨(ok'.neT htr 8 rfl), (List.forall_mem_cons.mpr ⟨(ok'.neT htr 9 rfl), (List.forall_mem_cons.mpr ⟨(ok'.neT htr 10 rfl), (List.forall_mem_cons.mpr ⟨(ok'.neT htr 11 rfl), (List.forall_mem_cons.mpr ⟨(ok'.neT htr 2 rfl), (List.forall_mem_cons.mpr ⟨(ok'.neT htr 4 rfl), (List.forall_mem_cons.mpr ⟨(ok'.neT htr 6 rfl), (List.forall_mem_cons.mpr ⟨(ok'.neT htr 7 rfl), (fun p hp => (hoff p hp).2)⟩)⟩)⟩)⟩)⟩)⟩)⟩)⟩)⟩)⟩)
  case p6 => exact (List.forall_mem_cons.mpr ⟨(ok'.ne 1 3 rfl), (List.forall_mem_cons.mpr ⟨(ok'.ne 0 3 rfl), (List.forall_mem_cons.mpr ⟨(ok'.ne 8 3 rfl), (List.forall_mem_cons.mpr ⟨(ok'.ne 9 3 rfl), (List.forall_mem_cons.mpr ⟨(ok'.ne 10 3 rfl), (List.forall_mem_cons.mpr ⟨(ok'.ne 11 3 rfl), (List.forall_mem_cons.mpr ⟨(ok'.ne 2 3 rfl), (List.forall_mem_cons.mpr ⟨(ok'.ne 4 3 rfl), (List.forall_mem_cons.mpr ⟨(ok'.ne 6 3 rfl), (List.forall_mem_cons.mpr ⟨(ok'.ne 7 3 rfl), (off_all hoff (x := a.fo) (List.mem_cons_of_mem _ (List.mem_cons_of_mem _ List.mem_cons_self)))⟩)⟩)⟩)⟩)⟩)⟩)⟩)⟩)⟩)⟩)
  case p7 => exact (List.forall_mem_cons.mpr ⟨(ok'.ne 1 5 rfl), (List.forall_mem_cons.mpr ⟨(ok'.ne 0 5 rfl), (List.forall_mem_cons.mpr ⟨(ok'.ne 8 5 rfl), (List.forall_mem_cons.mpr ⟨(ok'.ne 9 5 rfl), (List.forall_mem_cons.mpr ⟨(ok'.ne 10 5 rfl), (List.forall_mem_cons.mpr ⟨(ok'.ne 11 5 rfl), (List.forall_mem_cons.mpr ⟨(ok'.ne 2 5 rfl), (List.forall_mem_cons.mpr ⟨(ok'.ne 4 5 rfl), (List.forall_mem_cons.mpr ⟨(ok'.ne 6 5 rfl), (List.forall_mem_cons.mpr ⟨(ok'.ne 7 5 rfl), (off_all hoff (x := a.he) (List.mem_cons_of_mem _ (List.mem_cons_of_mem _ (List.mem_cons_of_mem _ (List.mem_cons_of_mem _ List.mem_cons_self)))))⟩)⟩)⟩)⟩)⟩)⟩)⟩)⟩)⟩)⟩)
  case q9 => k_places
  case q10 => omega
  case q11 => omega
  case q12 => omega
  case q13 => omega
  case q14 => rw [hK1]; exact I.ck
  case q15 => intro e; rw [e] at hfl; exact hne (List.length_eq_zero_iff.mp hfl.symm)
  case q16 => omega
  case q17 => intro p hp; k_places
  case q18 => omega
  case q19 =>
    intro f hf
    have h1 := I.fos f hf
    have h2 := (I.prn f.1 (by omega) h1.2.1).2.1
    refine ⟨h1.1, ?_, ?_⟩ <;> omega
  case q20 =>
    intro f hf
    rw [hT1, hK1]
    exact fun h1 h2 => h1 (I.kn_he h2)
  case q21 =>
    intro f hf
    rw [hT1, hK1]
    intro h1 h2
    have h3 := I.fos f hf
    rw [h3.2.2]
    exact I.new_room h3.1 h3.2.1 h1
  case q22 =>
    intro p hp
    have h1 := I.hlt p.1 (by rw [← hT1]; exact List.mem_map.mpr ⟨p, hp, rfl⟩)
    have h2 := hT2 p hp
    refine ⟨h1.1, by omega, h2.1.mono fun q hq => by k_places, fun z => (h2.2 z).mono fun q hq => by k_places⟩
  case q23 =>
    intro h' tk oK' oT' cur' rp' t3' t5' uvs' uns' nu' rvs' rns' nr' kvs' tvs' tups' fvs' fs' nf' hvs' hns' nh' k pk' x y e1 e2 e3 hF' hH' e4 hK' hT' hU' hul' hR' hon hc1 hc2 hkv' htv' htp F' N'
    have l4 : ∀ p ∈ tups', tr < p.1 := fun p hp => (htp p hp).2.1
    have hm : ∀ p ∈ tups, p ∈ tups' ++ tups := fun p hp => List.mem_append_right _ hp
    have hm2 : ∀ p ∈ tups', p ∈ tups' ++ tups := fun p hp => List.mem_append_left _ hp
    have hoff' : ∀ p ∈ (tups' ++ tups) ++ es, (∀ x ∈ a.all, @Ne Nat p.1 x) ∧ @Ne Nat p.1 tr := by
      intro p hp
      rw [List.append_assoc] at hp
      rcases List.mem_append.mp hp with hp | hp
      · exact off_new ok' (Nat.lt_trans htr (l4 p hp)) (l4 p hp)
      · exact hoff p hp
    have hX' : ∀ p ∈ tups' ++ tups, ∀ q ∈ es, @Ne Nat p.1 q.1 := by
      intro p hp q hq
      rcases List.mem_append.mp hp with hp | hp
      · exact Ne.symm (Nat.ne_of_lt ((htp p hp).2.2 q (by k_places)))
      · exact hX p hp q hq
    rw [hK1, hT1] at hon
    have e5 : tvs'.map (·.1) = hns' := by rw [e4, onNew_told hon]
    refine' h h' tk _ _ ⟨k, pk', x, y, fs', cur', rp', uns', kvs'.map (·.1), rns', tvs'.map (·.1), e1, e2, e3, hon, hc1, hc2, by omega, rfl⟩ (Rep.mk (tr := tr) (as := as) (nb := nb) (nls := nls) (ne := ne) (nu := nu') (nr := nr') (nf := nf') (nba := nba) (nh := nh') (ntl := ntl) (nd := nd) (tc := tc) (j4 := j4) (j5 := j5) (v3 := t3') (v5 := t5') (oI := oI) (oK := oK') (oT := oT') (oN := oN) (ivs := ivs) (kvs := kvs') (tvs := tvs') (evs := evs) (ws := ws) (uvs := uvs') (rvs := rvs') (fvs := fvs') (bvs := bvs) (hvs := hvs') (tlvs := tlvs) (dvs := dvs) (ns := ns) (tups := (tups' ++ tups)) htr hoff' hX' hI hI1 hI2 hE hE1 hK' rfl ?s1 hU' hT' rfl ?s2 hR' hN (hA.imp fun _ z => z.imp fun _ z => z.imp fun _ z => hm _ z) ?s3 (hB.mono fun _ _ z => z.mono hm) ?s4 hL hD hW hW1 hc) F' ?N
    case N => exact News.of N' (by (try dsimp only [List.cons_append, List.append_assoc]); (try simp only [List.append_assoc]); w_left)
    case s1 =>
      intro p hp
      rcases hkv' p hp with q | ⟨q1, q2⟩
      · exact (hK2 p q).mono hm
      · rw [q1]; exact q2.one.mono hm2
    case s2 =>
      intro p hp
      rcases htv' p hp with q | ⟨q1, q2⟩
      · exact ⟨(hT2 p q).1.mono hm, fun z => ((hT2 p q).2 z).mono hm⟩
      · rw [q1]; exact ⟨q2.one.mono hm2, fun _ => q2.mono hm2⟩
    case s3 => exact hF'.mono fun _ _ z => z.mono hm
    case s4 => dsimp only; rw [e5]; exact hH'
theorem r_take {many : Int} {tm : Tok} (hm0 : 1 ≤ many) (hm1 : many ≤ 100) (hc1 : c ≤ 1000) (C : Cx w A₀ base h₀ env outer L mg mb mean) (F : Fr h₀ L sh m) (N : News h₀ L sh news) (R : Rep w a σ ask c es news) (ok : a.Ok) (hdep : dp < 430)
  (h : ∀ h' tk' r t news', 0 ≤ r → r < many → Rep w a σ ask (c + 1) es news' → Fr h₀ L h' m → News h₀ L h' news' → Q (.int r t) ⟨h', sg, sd, tk', so⟩) :
  wpAny (model PySem.Challenge.rw_sj0110_01.row.prog w) (⟨none, dp, some (env :: outer), gs, un⟩ : Around) (call (.ref 201) [.ref a.bx, .int many tm] []) Q E ⟨sh, sg, sd, tk₀, so⟩ := by
  have bd : True ∧ True ∧ True ∧ True ∧ True ∧ True ∧ True ∧ True ∧ True ∧ True ∧ True := by simp
  have ok' := ok
  cases R
  rename_i tr as nb nls ne nu nr nf nba nh ntl nd tc j4 j5 v3 v5 oI oK oT oN ivs kvs tvs evs ws uvs rvs fvs bvs hvs tlvs dvs ns tups htr hoff hX hI hI1 hI2 hE hE1 hK hK1 hK2 hU hT hT1 hT2 hR hN hA hF hB hH hL hD hW hW1 hc
  obtain ⟨o1, o2, o3, o4, o5, o6, o7, o8, o9, o10, o11, o12, o13, o14, o15, o16, q1, q2, q3⟩ := ok
  have hfl := hF.length
  have hbl := hB.length
  have hil : ivs.length = σ.iss.length := by rw [← hI1, List.length_map]
  have hkl : kvs.length = σ.kn.length := by rw [← hK1, List.length_map]
  have htl : tvs.length = σ.he.length := by rw [← hT1, List.length_map]
  obtain ⟨b1, b2, b3, b4, b5, b6, b7, b8, b9, b10, b11⟩ := bd
  have N1 : News h₀ L sh ((a.bx, W.listOf #[.ref a.ls, .int c tc] nb) :: (a.ls, W.listOf ws.toArray nls) :: (a.di, locD w a.iss a.ev σ.lim σ.nx σ.rpI a.i1 a.i2 a.i3 a.i4 a.i5 a.i6 a.j1 j4 j5) :: (a.xi, instObj 98 a.di) :: (a.iss, oI) :: (a.ev, W.listOf evs ne) :: (a.du, remD w a.kn a.us a.td tr σ.lim σ.cur σ.rpU a.u1 a.u2 a.u3 a.u4 a.u5 a.u6 a.u7 a.u8 a.v1 v3 v5) :: (a.xu, instObj 190 a.du) :: (a.kn, oK) :: (a.us, W.listOf uvs.toArray nu) :: (a.td, oT) :: (tr, W.listOf rvs.toArray nr) :: (a.nt, oN) :: (a.fo, W.listOf fvs.toArray nf) :: (a.ba, W.listOf bvs.toArray nba) :: (a.he, W.listOf hvs.toArray nh) :: (a.tl, W.listOf tlvs.toArray ntl) :: (a.dn, W.listOf dvs.toArray nd) :: (tups ++ es)) := News.of N (by w_left)
  refine' c_take C F N1 ?q0 ?q1 ?q2 hW hW1 hc hc1 hm0 hm1 ?q3
  case q0 => omega
  case q1 => exact (List.forall_mem_cons.mpr ⟨(ok'.ne 0 1 rfl), (List.forall_mem_cons.mpr ⟨(ok'.ne 8 1 rfl), (List.forall_mem_cons.mpr ⟨(ok'.ne 9 1 rfl), (List.forall_mem_cons.mpr ⟨(ok'.ne 10 1 rfl), (List.forall_mem_cons.mpr ⟨(ok'.ne 11 1 rfl), (List.forall_mem_cons.mpr ⟨(ok'.ne 12 1 rfl), (List.forall_mem_cons.mpr ⟨(ok'.ne 13 1 rfl), (List.forall_mem_cons.mpr ⟨(ok'.ne 14 1 rfl), (List.forall_mem_cons.mpr ⟨(ok'.ne 15 1 rfl), (List.forall_mem_cons.mpr ⟨(ok'.ne 16 1 rfl), (List.forall_mem_cons.mpr ⟨(Ne.symm (ok'.neT htr 1 rfl)), (List.forall_mem_cons.mpr ⟨(ok'.ne 2 1 rfl), (List.forall_mem_cons.mpr ⟨(ok'.ne 3 1 rfl), (List.forall_mem_cons.mpr ⟨(ok'.ne 4 1 rfl), (List.forall_mem_cons.mpr ⟨(ok'.ne 5 1 rfl), (List.forall_mem_cons.mpr ⟨(ok'.ne 6 1 rfl), (List.forall_mem_cons.mpr ⟨(ok'.ne 7 1 rfl), (off_all hoff (x := a.bx) (List.mem_cons_of_mem _ List.mem_cons_self))⟩)⟩)⟩)⟩)⟩)⟩)⟩)⟩)⟩)⟩)⟩)⟩)⟩)⟩)⟩)⟩)⟩)
  case q2 => k_places
  case q3 =>
    intro h' tk r t t' nb' hr0 hr1 F' N'
    refine' h h' tk r t _ hr0 hr1 (Rep.mk (tr := tr) (as := as) (nb := nb') (nls := nls) (ne := ne) (nu := nu) (nr := nr) (nf := nf) (nba := nba) (nh := nh) (ntl := ntl) (nd := nd) (tc := t') (j4 := j4) (j5 := j5) (v3 := v3) (v5 := v5) (oI := oI) (oK := oK) (oT := oT) (oN := oN) (ivs := ivs) (kvs := kvs) (tvs := tvs) (evs := evs) (ws := ws) (uvs := uvs) (rvs := rvs) (fvs := fvs) (bvs := bvs) (hvs := hvs) (tlvs := tlvs) (dvs := dvs) (ns := ns) (tups := tups) htr hoff hX hI hI1 hI2 hE hE1 hK hK1 hK2 hU hT hT1 hT2 hR hN hA hF hB hH hL hD hW hW1 (by omega)) F' ?N
    case N => exact News.of N' (by (try dsimp only [List.cons_append, List.append_assoc]); (try simp only [List.append_assoc]); w_left)
end
end
section
section
variable {w : World} {A₀ : Around} {base h₀ : Heap} {env : Env} {outer : List Env} {dp un : Nat} {gs : Option (List Code)} {L : Addr} {m mg mb : Str → Option Value} {mean : ExcName → Option Value} {news es : List (Addr × Obj)} {sh : Heap} {sg : Array GenState} {sd : Drawn} {tk₀ : Nat} {so : OsState} {Q : Value → Shared → Prop} {E : Value → Shared → Prop}
  {a : Adr} {σ : St} {ask : Int × Int} {c : Int} {T : Nat}
theorem r_may (C : Cx w A₀ base h₀ env outer L mg mb mean) (F : Fr h₀ L sh m) (N : News h₀ L sh news) (R : Rep w a σ ask c es news) (ok : a.Ok) (g : Good T σ) (hT : T ≤ 20) (hdep : dp < 430)
  (h : ∀ h' tk', Fr h₀ L h' m → News h₀ L h' news → Q (.bool (decide (keptN σ.rpI σ.iss < σ.lim))) ⟨h', sg, sd, tk', so⟩) :
  wpAny (model PySem.Challenge.rw_sj0110_01.row.prog w) (⟨none, dp, some (env :: outer), gs, un⟩ : Around) (call (.ref 67) [.ref a.xi] []) Q E ⟨sh, sg, sd, tk₀, so⟩ := by
  have bd := g.bd hT
  have ok' := ok
  cases R
  rename_i tr as nb nls ne nu nr nf nba nh ntl nd tc j4 j5 v3 v5 oI oK oT oN ivs kvs tvs evs ws uvs rvs fvs bvs hvs tlvs dvs ns tups htr hoff hX hI hI1 hI2 hE hE1 hK hK1 hK2 hU hT hT1 hT2 hR hN hA hF hB hH hL hD hW hW1 hc
  obtain ⟨o1, o2, o3, o4, o5, o6, o7, o8, o9, o10, o11, o12, o13, o14, o15, o16, q1, q2, q3⟩ := ok
  have hfl := hF.length
  have hbl := hB.length
  have hil : ivs.length = σ.iss.length := by rw [← hI1, List.length_map]
  have hkl : kvs.length = σ.kn.length := by rw [← hK1, List.length_map]
  have htl : tvs.length = σ.he.length := by rw [← hT1, List.length_map]
  obtain ⟨b1, b2, b3, b4, b5, b6, b7, b8, b9, b10, b11⟩ := bd
  refine' c_may (di := a.di) (iss := a.iss) (oI := oI) C F N ?q0 ?q1 ?q2 ?q3 hI ?q4 q1 ?q5
  case q0 => omega
  case q1 => k_places
  case q2 => k_places
  case q3 => k_places
  case q4 => omega
  case q5 => rw [hI1]; exact fun h' tk F' N' => h h' tk F' N'
end
end
section
local macro_rules | `(tactic| walk_at "compareOp NotEq ref ref") => `(tactic| (k_here; (with_reducible show wpAny _ _ (compareOp CmpOp.NotEq (Value.ref _) (Value.ref _)) _ _ _); k_dflt (refine' ne_nil (by k_asm) (by k_mem) (by k_mem) (by (simp only [units_deeper, units_in1, cLine]; omega)) ?_ ?_); all_goals (intro eNil)))
local macro_rules | `(tactic| walk_at "exec While") => `(tactic| (k_here; refine' Stuck.out ?_))
local macro_rules | `(tactic| walk_at "binaryOp Add ref ref") => `(tactic| (k_here; (with_reducible show wpAny _ _ (binaryOp _ (Value.ref _) (Value.ref _)) _ _ _); k_dflt (refine' add_lst (by k_asm) (by k_asm) (by k_mem) (by k_mem) (by k_asm) (by k_asm) (by ((try simp only [List.length_append, List.length_map]); omega)) ?_); intro D' us' h' F' N' l1 hI'; (have hLen' := IntsAre.length hI'); (simp only [List.length_append, List.length_map] at hLen'); (try k_lt l1); (try k_sweep)))
section
section
variable {w : World} {A₀ : Around} {base h₀ : Heap} {env : Env} {outer : List Env} {dp un : Nat} {gs : Option (List Code)} {L : Addr} {m mg mb : Str → Option Value} {mean : ExcName → Option Value} {news es : List (Addr × Obj)} {sh : Heap} {sg : Array GenState} {sd : Drawn} {tk₀ : Nat} {so : OsState} {Q : Value → Shared → Prop} {E : Value → Shared → Prop}
  {a : Adr} {σ : St} {ask : Int × Int} {c : Int} {T : Nat}
theorem r_deed {form pick : Int} {tf tp : Tok} (hf0 : 0 ≤ form) (hf1 : form < 6) (hp0 : 0 ≤ pick) (hp1 : pick < 12) (C : Cx w A₀ base h₀ env outer L mg mb mean) (F : Fr h₀ L sh m) (N : News h₀ L sh news) (R : Rep w a σ ask c es news) (ok : a.Ok) (g : Good T σ) (hT : T ≤ 20) (hdep : dp < 420) (hun : un < 3300)
  (h : ∀ h' tk' σ' news', Deed σ σ' → Rep w a σ' ask c es news' → Fr h₀ L h' m → News h₀ L h' news' → Q .none ⟨h', sg, sd, tk', so⟩) :
  wpAny (model PySem.Challenge.rw_sj0110_01.row.prog w) (⟨none, dp, some (env :: outer), gs, un⟩ : Around) (call (.ref 243) [.ref a.nt, .ref a.xi, .ref a.xu, .int form tf, .int pick tp] []) Q E ⟨sh, sg, sd, tk₀, so⟩ := by
  have bd := g.bd hT
  have hT20 := hT
  have R0 := R
  have ok' := ok
  cases R
  rename_i tr as nb nls ne nu nr nf nba nh ntl nd tc j4 j5 v3 v5 oI oK oT oN ivs kvs tvs evs ws uvs rvs fvs bvs hvs tlvs dvs ns tups htr hoff hX hI hI1 hI2 hE hE1 hK hK1 hK2 hU hT hT1 hT2 hR hN hA hF hB hH hL hD hW hW1 hc
  obtain ⟨o1, o2, o3, o4, o5, o6, o7, o8, o9, o10, o11, o12, o13, o14, o15, o16, q1, q2, q3⟩ := ok
  have hfl := hF.length
  have hbl := hB.length
  have hil : ivs.length = σ.iss.length := by rw [← hI1, List.length_map]
  have hkl : kvs.length = σ.kn.length := by rw [← hK1, List.length_map]
  have htl : tvs.length = σ.he.length := by rw [← hT1, List.length_map]
  obtain ⟨b1, b2, b3, b4, b5, b6, b7, b8, b9, b10, b11⟩ := bd
  obtain ⟨rest, hrest⟩ : ∃ l, l = (a.bx, W.listOf #[.ref a.ls, .int c tc] nb) :: (a.ls, W.listOf ws.toArray nls) :: (a.iss, oI) :: (a.ev, W.listOf evs ne) :: (a.kn, oK) :: (a.us, W.listOf uvs.toArray nu) :: (a.td, oT) :: (tr, W.listOf rvs.toArray nr) :: (a.he, W.listOf hvs.toArray nh) :: (a.tl, W.listOf tlvs.toArray ntl) :: (a.dn, W.listOf dvs.toArray nd) :: (tups ++ es) := ⟨_, rfl⟩
  replace N := News.of (news := (a.di, locD w a.iss a.ev σ.lim σ.nx σ.rpI a.i1 a.i2 a.i3 a.i4 a.i5 a.i6 a.j1 j4 j5) :: (a.xi, instObj 98 a.di) :: (a.nt, oN) :: (a.fo, W.listOf fvs.toArray nf) :: (a.ba, W.listOf bvs.toArray nba) :: (a.du, remD w a.kn a.us a.td tr σ.lim σ.cur σ.rpU a.u1 a.u2 a.u3 a.u4 a.u5 a.u6 a.u7 a.u8 a.v1 v3 v5) :: (a.xu, instObj 190 a.du) :: rest) N (by rw [hrest]; w_left)
  have hnews : ∀ p ∈ ((a.bx, W.listOf #[.ref a.ls, .int c tc] nb) :: (a.ls, W.listOf ws.toArray nls) :: (a.di, locD w a.iss a.ev σ.lim σ.nx σ.rpI a.i1 a.i2 a.i3 a.i4 a.i5 a.i6 a.j1 j4 j5) :: (a.xi, instObj 98 a.di) :: (a.iss, oI) :: (a.ev, W.listOf evs ne) :: (a.du, remD w a.kn a.us a.td tr σ.lim σ.cur σ.rpU a.u1 a.u2 a.u3 a.u4 a.u5 a.u6 a.u7 a.u8 a.v1 v3 v5) :: (a.xu, instObj 190 a.du) :: (a.kn, oK) :: (a.us, W.listOf uvs.toArray nu) :: (a.td, oT) :: (tr, W.listOf rvs.toArray nr) :: (a.nt, oN) :: (a.fo, W.listOf fvs.toArray nf) :: (a.ba, W.listOf bvs.toArray nba) :: (a.he, W.listOf hvs.toArray nh) :: (a.tl, W.listOf tlvs.toArray ntl) :: (a.dn, W.listOf dvs.toArray nd) :: (tups ++ es)), p ∈ (a.di, locD w a.iss a.ev σ.lim σ.nx σ.rpI a.i1 a.i2 a.i3 a.i4 a.i5 a.i6 a.j1 j4 j5) :: (a.xi, instObj 98 a.di) :: (a.nt, oN) :: (a.fo, W.listOf fvs.toArray nf) :: (a.ba, W.listOf bvs.toArray nba) :: (a.du, remD w a.kn a.us a.td tr σ.lim σ.cur σ.rpU a.u1 a.u2 a.u3 a.u4 a.u5 a.u6 a.u7 a.u8 a.v1 v3 v5) :: (a.xu, instObj 190 a.du) :: rest := by rw [hrest]; w_left
  clear hrest htr hoff hX hI hI1 hI2 hE hE1 hK hK1 hK2 hU hT hT1 hT2 hR hA hF hB hH hL hD hW hW1 hc q1 q2 q3
  obtain ⟨B, X, T, hf, hke⟩ := C
  w_top off
  k_go0
  refine wpAny_call ?_
  open_k with [(("net" : Str), Value.ref a.nt), (("issuer" : Str), Value.ref a.xi), (("user" : Str), Value.ref a.xu), (("form" : Str), .int form tf), (("pick" : Str), .int pick tp)]
  have six : form = 0 ∨ form = 1 ∨ form = 2 ∨ form = 3 ∨ form = 4 ∨ form = 5 := by omega
  rcases six with rfl | rfl | rfl | rfl | rfl | rfl <;> k_steps
  · unfold Stuck
    refine' r_ask ?cp ?cC ?cF ?cN R0 ok' g hT20 ?cd  ?ch
    case cC => k_units
    case cF => k_asm
    case cN =>
      refine' News.of (News.of ?n1 ?n2) hnews
      case n1 => k_asm
      case n2 => intro p hp; k_mem
    case cd => k_room
    case ch =>
      intro h8 tk8  σ8 news8 st8 R8 F8 N8
      k_steps
      exact h _ _ σ8 news8 (.inl st8) R8 (by k_asm) (by k_asm)
    case cp => exact Int.fmod_nonneg_of_pos _ (by omega)
  · unfold Stuck
    refine' r_change  ?cC ?cF ?cN R0 ok' g hT20 ?cd  ?ch
    case cC => k_units
    case cF => k_asm
    case cN =>
      refine' News.of (News.of ?n1 ?n2) hnews
      case n1 => k_asm
      case n2 => intro p hp; k_mem
    case cd => k_room
    case ch =>
      intro h8 tk8 b8 σ8 news8 st8 R8 F8 N8
      k_steps
      exact h _ _ σ8 news8 (.inr (.inl st8)) R8 (by k_asm) (by k_asm)
  · with_reducible rename _ = [] => e9
    exact h _ _ σ _ (.inr (.inr (.inr (.inr (.inr (.inr rfl)))))) R0 (by k_asm) (by refine' News.of (News.of ?n1 ?n2) hnews; (case n1 => k_asm); (case n2 => intro p hp; k_mem))
  · with_reducible rename _ ≠ [] => e9
    unfold Stuck
    refine' r_comes ?cp (Int.le_of_lt_add_one (by omega)) (by omega) ?cC ?cF ?cN R0 ok' g hT20 ?cd ?cu ?ch
    case cC => k_units
    case cF => k_asm
    case cN =>
      refine' News.of (News.of ?n1 ?n2) hnews
      case n1 => k_asm
      case n2 => intro p hp; k_mem
    case cd => k_room
    case ch =>
      intro h8 tk8  σ8 news8 st8 R8 F8 N8
      k_steps
      exact h _ _ σ8 news8 (.inr (.inr (.inl ⟨_, st8⟩))) R8 (by k_asm) (by k_asm)
    case cp => intro z; rw [z] at hfl; exact e9 (List.length_eq_zero_iff.mp hfl)
    case cu => (try simp only [units_deeper, units_in1, cLine]); omega
  · unfold Stuck
    refine' r_tells  ?cC ?cF ?cN R0 ok' g hT20 ?cd  ?ch
    case cC => k_units
    case cF => k_asm
    case cN =>
      refine' News.of (News.of ?n1 ?n2) hnews
      case n1 => k_asm
      case n2 => intro p hp; k_mem
    case cd => k_room
    case ch =>
      intro h8 tk8  σ8 news8 st8 R8 F8 N8
      k_steps
      exact h _ _ σ8 news8 (.inr (.inr (.inr (.inl st8)))) R8 (by k_asm) (by k_asm)
  · unfold Stuck
    refine' r_issued  ?cC ?cF ?cN R0 ok' g hT20 ?cd  ?ch
    case cC => k_units
    case cF => k_asm
    case cN =>
      refine' News.of (News.of ?n1 ?n2) hnews
      case n1 => k_asm
      case n2 => intro p hp; k_mem
    case cd => k_room
    case ch =>
      intro h8 tk8  σ8 news8 st8 R8 F8 N8
      k_steps
      exact h _ _ σ8 news8 (.inr (.inr (.inr (.inr (.inl st8))))) R8 (by k_asm) (by k_asm)
  · with_reducible rename _ = [] => e9
    exact h _ _ σ _ (.inr (.inr (.inr (.inr (.inr (.inr rfl)))))) R0 (by k_asm) (by refine' News.of (News.of ?n1 ?n2) hnews; (case n1 => k_asm); (case n2 => intro p hp; k_mem))
  · with_reducible rename _ ≠ [] => e9
    unfold Stuck
    refine' r_word ?cp hp0 (by omega) ?cC ?cF ?cN R0 ok' g hT20 ?cd  ?ch
    case cC => k_units
    case cF => k_asm
    case cN =>
      refine' News.of (News.of ?n1 ?n2) hnews
      case n1 => k_asm
      case n2 => intro p hp; k_mem
    case cd => k_room
    case ch =>
      intro h8 tk8  σ8 news8 st8 R8 F8 N8
      k_steps
      exact h _ _ σ8 news8 (.inr (.inr (.inr (.inr (.inr (.inl ⟨_, st8⟩)))))) R8 (by k_asm) (by k_asm)
    case cp => intro z; rw [z] at hbl; exact e9 (List.length_eq_zero_iff.mp hbl)
end
end
section
local macro_rules | `(tactic| walk_at "no such key") => `(tactic| skip)
section
variable {w : World} {A₀ : Around} {base h₀ : Heap} {env : Env} {outer : List Env} {dp un : Nat} {gs : Option (List Code)} {L : Addr} {m mg mb : Str → Option Value} {mean : ExcName → Option Value} {news es : List (Addr × Obj)} {sh : Heap} {sg : Array GenState} {sd : Drawn} {tk₀ : Nat} {so : OsState} {Q : Value → Shared → Prop} {E : Value → Shared → Prop}
  {a : Adr} {σ : St} {ask : Int × Int} {c : Int} {T : Nat}
theorem r_rest (C : Cx w A₀ base h₀ env outer L mg mb mean) (F : Fr h₀ L sh m) (N : News h₀ L sh news) (R : Rep w a σ ask c es news) (ok : a.Ok) (g : Good T σ) (hT : T ≤ 20) (hdep : dp < 420) (hun : un < 3300)
  (h : ∀ h' tk' σ' news', Good T σ' → Rst σ σ' → σ'.fo = [] → σ'.tr = [] → σ'.ba = [] → Rep w a σ' ask c es news' → Fr h₀ L h' m → News h₀ L h' news' → Q .none ⟨h', sg, sd, tk', so⟩) :
  wpAny (model PySem.Challenge.rw_sj0110_01.row.prog w) (⟨none, dp, some (env :: outer), gs, un⟩ : Around) (call (.ref 255) [.ref a.nt, .ref a.xi, .ref a.xu] []) Q E ⟨sh, sg, sd, tk₀, so⟩ := by
  have hT20 := hT
  have okz := ok
  obtain ⟨σ₀, hσ₀⟩ : ∃ x, x = σ := ⟨_, rfl⟩
  obtain ⟨B, X, TT, hf, hke⟩ := C
  w_top off
  k_go0
  refine wpAny_call ?_
  open_k with [(("net" : Str), Value.ref a.nt), (("issuer" : Str), Value.ref a.xi), (("user" : Str), Value.ref a.xu)]
  k_steps
  rw [← hσ₀] at h
  unfold Stuck
  refine' While_fix (n₀ := σ.fo.length) (fun n nw => ∃ σ', σ'.fo.length = n ∧ Good T σ' ∧ Rst σ₀ σ' ∧ Rep w a σ' ask c es nw) ?F ?N ⟨σ, rfl, g, by rw [hσ₀]; exact Rst.refl σ, R⟩ ?turn ?hE
  case F => k_asm
  case N => k_asm
  case hE => first | passes_own | with_unfolding_all passes_own
  case turn =>
    clear R N g hσ₀
    rintro n nw h9 tk9 F9 N ⟨σ, hn, g, r, R⟩
    have R0 := R
    have bd := g.bd hT20
    have okk := ok
    have ok' := ok
    cases R
    rename_i tr as nb nls ne nu nr nf nba nh ntl nd tc j4 j5 v3 v5 oI oK oT oN ivs kvs tvs evs ws uvs rvs fvs bvs hvs tlvs dvs ns tups htr hoff hX hI hI1 hI2 hE hE1 hK hK1 hK2 hU hT hT1 hT2 hR hN hA hF hB hH hL hD hW hW1 hc
    obtain ⟨o1, o2, o3, o4, o5, o6, o7, o8, o9, o10, o11, o12, o13, o14, o15, o16, q1, q2, q3⟩ := ok
    have hfl := hF.length
    have hbl := hB.length
    have hil : ivs.length = σ.iss.length := by rw [← hI1, List.length_map]
    have hkl : kvs.length = σ.kn.length := by rw [← hK1, List.length_map]
    have htl : tvs.length = σ.he.length := by rw [← hT1, List.length_map]
    obtain ⟨b1, b2, b3, b4, b5, b6, b7, b8, b9, b10, b11⟩ := bd
    obtain ⟨rest, hrest⟩ : ∃ l, l = (a.bx, W.listOf #[.ref a.ls, .int c tc] nb) :: (a.ls, W.listOf ws.toArray nls) :: (a.di, locD w a.iss a.ev σ.lim σ.nx σ.rpI a.i1 a.i2 a.i3 a.i4 a.i5 a.i6 a.j1 j4 j5) :: (a.xi, instObj 98 a.di) :: (a.iss, oI) :: (a.ev, W.listOf evs ne) :: (a.du, remD w a.kn a.us a.td tr σ.lim σ.cur σ.rpU a.u1 a.u2 a.u3 a.u4 a.u5 a.u6 a.u7 a.u8 a.v1 v3 v5) :: (a.xu, instObj 190 a.du) :: (a.kn, oK) :: (a.us, W.listOf uvs.toArray nu) :: (a.td, oT) :: (tr, W.listOf rvs.toArray nr) :: (a.ba, W.listOf bvs.toArray nba) :: (a.he, W.listOf hvs.toArray nh) :: (a.tl, W.listOf tlvs.toArray ntl) :: (a.dn, W.listOf dvs.toArray nd) :: (tups ++ es) := ⟨_, rfl⟩
    replace N := News.of (news := (a.nt, oN) :: (a.fo, W.listOf fvs.toArray nf) :: rest) N (by rw [hrest]; w_left)
    have hnews : ∀ p ∈ ((a.bx, W.listOf #[.ref a.ls, .int c tc] nb) :: (a.ls, W.listOf ws.toArray nls) :: (a.di, locD w a.iss a.ev σ.lim σ.nx σ.rpI a.i1 a.i2 a.i3 a.i4 a.i5 a.i6 a.j1 j4 j5) :: (a.xi, instObj 98 a.di) :: (a.iss, oI) :: (a.ev, W.listOf evs ne) :: (a.du, remD w a.kn a.us a.td tr σ.lim σ.cur σ.rpU a.u1 a.u2 a.u3 a.u4 a.u5 a.u6 a.u7 a.u8 a.v1 v3 v5) :: (a.xu, instObj 190 a.du) :: (a.kn, oK) :: (a.us, W.listOf uvs.toArray nu) :: (a.td, oT) :: (tr, W.listOf rvs.toArray nr) :: (a.nt, oN) :: (a.fo, W.listOf fvs.toArray nf) :: (a.ba, W.listOf bvs.toArray nba) :: (a.he, W.listOf hvs.toArray nh) :: (a.tl, W.listOf tlvs.toArray ntl) :: (a.dn, W.listOf dvs.toArray nd) :: (tups ++ es)), p ∈ (a.nt, oN) :: (a.fo, W.listOf fvs.toArray nf) :: rest := by rw [hrest]; w_left
    clear hrest htr hoff hX hI hI1 hI2 hE hE1 hK hK1 hK2 hU hT hT1 hT2 hR hA hF hB hH hL hD hW hW1 hc q1 q2 q3
    k_steps
    · with_reducible rename _ = [] => e9
      have ef : σ.fo = [] := List.length_eq_zero_iff.mp (by rw [← hfl, e9]; rfl)
      unfold Stuck
      refine' r_tells  ?cC ?cF ?cN R0 ok' g hT20 ?cd  ?ch
      case cC => k_units
      case cF => k_asm
      case cN =>
        refine' News.of (News.of ?n1 ?n2) hnews
        case n1 => k_asm
        case n2 => intro p hp; k_mem
      case cd => k_room
      case ch =>
        intro h8 tk8  σ8 news8 st8 R8 F8 N8
        k_steps
        skip
        have et := tells_end st8
        unfold Stuck
        refine' While_fix (n₀ := σ8.ba.length) (fun n nw => ∃ σ', σ'.ba.length = n ∧ Good T σ' ∧ Rst σ₀ σ' ∧ σ'.fo = [] ∧ σ'.tr = [] ∧ Rep w a σ' ask c es nw) ?F ?N ⟨σ8, rfl, good_tells g st8, rst_tells r st8, by rw [et.2]; exact ef, et.1, R8⟩ ?turn ?hE
        case F => k_asm
        case N => k_asm
        case hE => first | passes_own | with_unfolding_all passes_own
        case turn =>
          clear okk hn r g et ef e9 R0 ok' hnews st8 R8
          rintro n nw h9 tk9 F9 N ⟨σ, hn, g, r, ef, et, R⟩
          have R0 := R
          have bd := g.bd hT20
          have ok := okz
          have ok' := ok
          cases R
          rename_i tr as nb nls ne nu nr nf nba nh ntl nd tc j4 j5 v3 v5 oI oK oT oN ivs kvs tvs evs ws uvs rvs fvs bvs hvs tlvs dvs ns tups htr hoff hX hI hI1 hI2 hE hE1 hK hK1 hK2 hU hT hT1 hT2 hR hN hA hF hB hH hL hD hW hW1 hc
          obtain ⟨o1, o2, o3, o4, o5, o6, o7, o8, o9, o10, o11, o12, o13, o14, o15, o16, q1, q2, q3⟩ := ok
          have hfl := hF.length
          have hbl := hB.length
          have hil : ivs.length = σ.iss.length := by rw [← hI1, List.length_map]
          have hkl : kvs.length = σ.kn.length := by rw [← hK1, List.length_map]
          have htl : tvs.length = σ.he.length := by rw [← hT1, List.length_map]
          obtain ⟨b1, b2, b3, b4, b5, b6, b7, b8, b9, b10, b11⟩ := bd
          obtain ⟨rest, hrest⟩ : ∃ l, l = (a.bx, W.listOf #[.ref a.ls, .int c tc] nb) :: (a.ls, W.listOf ws.toArray nls) :: (a.di, locD w a.iss a.ev σ.lim σ.nx σ.rpI a.i1 a.i2 a.i3 a.i4 a.i5 a.i6 a.j1 j4 j5) :: (a.xi, instObj 98 a.di) :: (a.iss, oI) :: (a.ev, W.listOf evs ne) :: (a.du, remD w a.kn a.us a.td tr σ.lim σ.cur σ.rpU a.u1 a.u2 a.u3 a.u4 a.u5 a.u6 a.u7 a.u8 a.v1 v3 v5) :: (a.xu, instObj 190 a.du) :: (a.kn, oK) :: (a.us, W.listOf uvs.toArray nu) :: (a.td, oT) :: (tr, W.listOf rvs.toArray nr) :: (a.fo, W.listOf fvs.toArray nf) :: (a.he, W.listOf hvs.toArray nh) :: (a.tl, W.listOf tlvs.toArray ntl) :: (a.dn, W.listOf dvs.toArray nd) :: (tups ++ es) := ⟨_, rfl⟩
          replace N := News.of (news := (a.nt, oN) :: (a.ba, W.listOf bvs.toArray nba) :: rest) N (by rw [hrest]; w_left)
          have hnews : ∀ p ∈ ((a.bx, W.listOf #[.ref a.ls, .int c tc] nb) :: (a.ls, W.listOf ws.toArray nls) :: (a.di, locD w a.iss a.ev σ.lim σ.nx σ.rpI a.i1 a.i2 a.i3 a.i4 a.i5 a.i6 a.j1 j4 j5) :: (a.xi, instObj 98 a.di) :: (a.iss, oI) :: (a.ev, W.listOf evs ne) :: (a.du, remD w a.kn a.us a.td tr σ.lim σ.cur σ.rpU a.u1 a.u2 a.u3 a.u4 a.u5 a.u6 a.u7 a.u8 a.v1 v3 v5) :: (a.xu, instObj 190 a.du) :: (a.kn, oK) :: (a.us, W.listOf uvs.toArray nu) :: (a.td, oT) :: (tr, W.listOf rvs.toArray nr) :: (a.nt, oN) :: (a.fo, W.listOf fvs.toArray nf) :: (a.ba, W.listOf bvs.toArray nba) :: (a.he, W.listOf hvs.toArray nh) :: (a.tl, W.listOf tlvs.toArray ntl) :: (a.dn, W.listOf dvs.toArray nd) :: (tups ++ es)), p ∈ (a.nt, oN) :: (a.ba, W.listOf bvs.toArray nba) :: rest := by rw [hrest]; w_left
          clear hrest htr hoff hX hI hI1 hI2 hE hE1 hK hK1 hK2 hU hT hT1 hT2 hR hA hF hB hH hL hD hW hW1 hc q1 q2 q3
          k_steps
          · with_reducible rename _ = [] => e9
            have eb : σ.ba = [] := List.length_eq_zero_iff.mp (by rw [← hbl, e9]; rfl)
            exact h _ _ σ _ g r ef et eb R0 (by k_asm) (by refine' News.of (News.of ?n1 ?n2) hnews; (case n1 => k_asm); (case n2 => intro p hp; k_mem))
          · with_reducible rename _ ≠ [] => e9
            unfold Stuck
            refine' r_word ?cp (Int.le_refl 0) (by omega) ?cC ?cF ?cN R0 ok' g hT20 ?cd  ?ch
            case cC => k_units
            case cF => k_asm
            case cN =>
              refine' News.of (News.of ?n1 ?n2) hnews
              case n1 => k_asm
              case n2 => intro p hp; k_mem
            case cd => k_room
            case ch =>
              intro h8 tk8  σ8 news8 st8 R8 F8 N8
              k_steps
              exact WhileStep.intro (by k_asm) (by k_asm) (by rw [← hn]; exact (word0_len st8).1) ⟨rfl, σ8, rfl, good_word g st8, rst_word r st8, by rw [(word0_len st8).2.1]; exact ef, by rw [(word0_len st8).2.2]; exact et, R8⟩
            case cp => intro z; rw [z] at hbl; exact e9 (List.length_eq_zero_iff.mp hbl)
    · with_reducible rename _ ≠ [] => e9
      unfold Stuck
      refine' r_comes ?cp (Int.le_refl 0) (by omega) ?cC ?cF ?cN R0 ok' g hT20 ?cd ?cu ?ch
      case cC => k_units
      case cF => k_asm
      case cN =>
        refine' News.of (News.of ?n1 ?n2) hnews
        case n1 => k_asm
        case n2 => intro p hp; k_mem
      case cd => k_room
      case ch =>
        intro h8 tk8  σ8 news8 st8 R8 F8 N8
        k_steps
        exact WhileStep.intro (by k_asm) (by k_asm) (by rw [← hn]; exact comes0_len st8) ⟨rfl, σ8, rfl, good_comes0 g st8, grst_comes g r st8, R8⟩
      case cp => intro z; rw [z] at hfl; exact e9 (List.length_eq_zero_iff.mp hfl)
      case cu => (try simp only [units_deeper, units_in1, cLine]); omega
end
end
section
section
local macro_rules | `(tactic| walk_at "exec If") => `(tactic| (k_here; refine' Stuck.out ?_))
local macro_rules | `(tactic| walk_at "binaryOp Add ref ref") => `(tactic| (k_here; refine' Stuck.out ?_))
local macro_rules | `(tactic| walk_at "call builtin:sorted") => `(tactic| (k_here; refine' Stuck.out ?_))
local macro_rules | `(tactic| walk_at "compareOp NotEq ref ref") => `(tactic| (k_here; refine' Stuck.out ?_))
local macro_rules | `(tactic| walk_at "call type:range") => `(tactic| (k_here; refine' Stuck.out ?_))
local macro_rules | `(tactic| walk_at "call type:list") => `(tactic| (k_here; refine' Stuck.out ?_))
local macro_rules | `(tactic| walk_at "eval ListComp") => `(tactic| (k_here; refine' Stuck.out ?_))
local macro_rules | `(tactic| walk_at "exec Assign") => `(tactic| (k_here; refine' Stuck.out ?_))
local macro_rules | `(tactic| walk_at "setItem ref str") => `(tactic| (k_here; refine' Stuck.out ?_))
local macro_rules | `(tactic| walk_at "subscriptTail Name") => `(tactic| (k_here; (with_reducible show wpAny _ _ (subscriptTail _ _ (Value.ref _) (Value.int _ _)) _ _ _); k_dflt (refine' item_tupleT (l := [_, _]) (News.isTup ?N ?t) ?a ?b ?c ?d ?_; (case N => k_asm); (case t => k_mem); (case a => decide); (case b => decide); (case c => rfl); (case d => rfl))))
variable {w : World} {A₀ : Around} {base h₀ : Heap} {env : Env} {outer : List Env} {dp un : Nat} {gs : Option (List Code)} {L : Addr} {m mg mb : Str → Option Value} {mean : ExcName → Option Value} {news es : List (Addr × Obj)} {sh : Heap} {sg : Array GenState} {sd : Drawn} {tk₀ : Nat} {so : OsState} {Q : Value → Shared → Prop} {E : Value → Shared → Prop}
  {a : Adr} {σ : St} {ask : Int × Int} {c : Int} {T : Nat}
theorem r_stands (C : Cx w A₀ base h₀ env outer L mg mb mean) (F : Fr h₀ L sh m) (N : News h₀ L sh news) (R : Rep w a σ ask c es news) (ok : a.Ok) (g : Good T σ) (hT : T ≤ 20) (hdep : dp < 420) (hun : un < 3300) (h1 : ask.1 ≤ σ.rpI) (h2 : ask.2 ≤ σ.rpU)
  (h : ∀ h' tk' news', Rep w a σ (σ.rpI, σ.rpU) c es news' → Fr h₀ L h' m → News h₀ L h' news' → Q (.bool true) ⟨h', sg, sd, tk', so⟩) :
  wpAny (model PySem.Challenge.rw_sj0110_01.row.prog w) (⟨none, dp, some (env :: outer), gs, un⟩ : Around) (call (.ref 248) [.ref a.nt, .ref a.xi, .ref a.xu] []) Q E ⟨sh, sg, sd, tk₀, so⟩ := by
  have bd := g.bd hT
  obtain ⟨⟨pr, I⟩, z⟩ := g
  have okk := ok
  have R0 := R
  have ok' := ok
  cases R
  rename_i tr as nb nls ne nu nr nf nba nh ntl nd tc j4 j5 v3 v5 oI oK oT oN ivs kvs tvs evs ws uvs rvs fvs bvs hvs tlvs dvs ns tups htr hoff hX hI hI1 hI2 hE hE1 hK hK1 hK2 hU hT hT1 hT2 hR hN hA hF hB hH hL hD hW hW1 hc
  obtain ⟨o1, o2, o3, o4, o5, o6, o7, o8, o9, o10, o11, o12, o13, o14, o15, o16, q1, q2, q3⟩ := ok
  have hfl := hF.length
  have hbl := hB.length
  have hil : ivs.length = σ.iss.length := by rw [← hI1, List.length_map]
  have hkl : kvs.length = σ.kn.length := by rw [← hK1, List.length_map]
  have htl : tvs.length = σ.he.length := by rw [← hT1, List.length_map]
  obtain ⟨b1, b2, b3, b4, b5, b6, b7, b8, b9, b10, b11⟩ := bd
  have hhl := hH.length
  have hll := hL.length
  have hdl := hD.length
  have hrl := hR.length
  obtain ⟨eA, tA, uA, hA2⟩ := hA
  have hmA : (as, tupE #[.int ask.1 tA, .int ask.2 uA] eA) ∈ tups ++ es := List.mem_append_left _ hA2
  obtain ⟨rest, hrest⟩ : ∃ l, l = (a.bx, W.listOf #[.ref a.ls, .int c tc] nb) :: (a.ls, W.listOf ws.toArray nls) :: (a.ev, W.listOf evs ne) :: (a.us, W.listOf uvs.toArray nu) :: (a.td, oT) :: (a.fo, W.listOf fvs.toArray nf) :: (a.ba, W.listOf bvs.toArray nba) :: (tups ++ es) := ⟨_, rfl⟩
  have N0 := News.of (news := (a.di, locD w a.iss a.ev σ.lim σ.nx σ.rpI a.i1 a.i2 a.i3 a.i4 a.i5 a.i6 a.j1 j4 j5) :: (a.xi, instObj 98 a.di) :: (a.iss, oI) :: (a.du, remD w a.kn a.us a.td tr σ.lim σ.cur σ.rpU a.u1 a.u2 a.u3 a.u4 a.u5 a.u6 a.u7 a.u8 a.v1 v3 v5) :: (a.xu, instObj 190 a.du) :: (a.kn, oK) :: (tr, W.listOf rvs.toArray nr) :: (a.nt, oN) :: (a.he, W.listOf hvs.toArray nh) :: (a.tl, W.listOf tlvs.toArray ntl) :: (a.dn, W.listOf dvs.toArray nd) :: rest) N (by rw [hrest]; w_left)
  have hrA : (as, tupE #[.int ask.1 tA, .int ask.2 uA] eA) ∈ rest := by rw [hrest]; k_places
  have hrT : (a.td, oT) ∈ rest := by rw [hrest]; k_places
  have hrE : ∀ p ∈ es, p ∈ rest := fun p hp => by rw [hrest]; k_places
  have hrK : ∀ p ∈ tups, p ∈ rest := fun p hp => by rw [hrest]; k_places
  have hras : ∀ p ∈ rest, p.1 ≠ a.nt := by rw [hrest]; exact (List.forall_mem_cons.mpr ⟨(ok'.ne 1 2 rfl), (List.forall_mem_cons.mpr ⟨(ok'.ne 0 2 rfl), (List.forall_mem_cons.mpr ⟨(ok'.ne 11 2 rfl), (List.forall_mem_cons.mpr ⟨(ok'.ne 15 2 rfl), (List.forall_mem_cons.mpr ⟨(ok'.ne 16 2 rfl), (List.forall_mem_cons.mpr ⟨(ok'.ne 3 2 rfl), (List.forall_mem_cons.mpr ⟨(ok'.ne 4 2 rfl), (off_all hoff (x := a.nt) (List.mem_cons_of_mem _ (List.mem_cons_of_mem _ (List.mem_cons_of_mem _ (List.mem_cons_of_mem _ (List.mem_cons_of_mem _ (List.mem_cons_of_mem _ (List.mem_cons_of_mem _ List.mem_cons_self))))))))⟩)⟩)⟩)⟩)⟩)⟩)⟩)
  have hsz1 : ivs.length + σ.dn.length ≤ 60 := by omega
  have hsz2 : kvs.length + (σ.tr.length + σ.tl.length) ≤ 60 := by omega
  have hsz3 : hvs.length < 60 := by omega
  have hkle : ((kvs.map (·.1)).length : Int) ≤ σ.lim := by rw [hK1]; exact I.klen
  have hkpt : (((ivs.map (·.1)).filter (fun k => decide (σ.rpI ≤ k))).length : Int) ≤ σ.lim := by rw [hI1]; exact I.kept
  clear N
  obtain ⟨B, X, TT, hf, hke⟩ := C
  w_top off
  k_go0
  refine wpAny_call ?_
  open_k with [(("net" : Str), Value.ref a.nt), (("issuer" : Str), Value.ref a.xi), (("user" : Str), Value.ref a.xu)]
  k_steps
  rename_i g9 Lc h0c tkc FGc Fc Bc Xc Tc lc oc dc Nc
  unfold Stuck
  refine wpAny_If ?_
  k_steps
  unfold Stuck
  refine' list_dict ?hh ?F ?N ?m ?d ?l ?z ?_
  case hh => exact rfl
  case F => k_asm
  case N => k_asm
  case m => k_mem
  case d => exact hK
  case l => exact q2
  case z => omega
  intro b8 c8 h8 tk8 vs8 F8 N8 l8 hI8
  k_steps
  unfold Stuck
  refine' add_lst ?F ?N ?a ?b ?i ?j ?z ?_
  case F => k_asm
  case N => k_asm
  case a => k_mem
  case b => k_mem
  case i => k_asm
  case j => k_asm
  case z => (simp only [List.length_map]; omega)
  intro D1 us1 h1' F1 N1 l1 hI1'
  k_steps
  unfold Stuck
  refine' add_lst ?F ?N ?a ?b ?i ?j ?z ?_
  case F => k_asm
  case N => k_asm
  case a => k_mem
  case b => k_mem
  case i => k_asm
  case j => k_asm
  case z => (simp only [List.length_append, List.length_map]; omega)
  intro D2 us2 h2' F2 N2 l2 hI2'
  have hs2 := hI2'.length
  simp only [List.length_append, List.length_map] at hs2
  k_steps
  unfold Stuck
  refine' sorted_lst ?F ?N ?m ?d ?z ?_
  case F => k_asm
  case N => k_asm
  case m => k_mem
  case d => k_asm
  case z => omega
  intro D3 h3' us3 ns3 e3 F3 N3 l3 hI3 hp3 hs3
  k_steps
  unfold Stuck
  refine' sorted_lst ?F ?N ?m ?d ?z ?_
  case F => k_asm
  case N => k_asm
  case m => k_mem
  case d => k_asm
  case z => omega
  intro D4 h4' us4 ns4 e4 F4 N4 l4 hI4 hp4 hs4
  k_steps
  unfold Stuck
  refine' ne_intsK ?k1 ?k2 ?k3 ?k4 ?k5 ?_
  case k1 => exact News.isList N4 (by k_mem)
  case k2 => k_asm
  case k3 => exact News.isList N4 (by k_mem)
  case k4 => k_asm
  case k5 => (simp only [units_deeper, units_in1, cLine]; omega)
  have e5 : ns3 = ns4 := List.Perm.eq_of_pairwise (fun a b _ _ h1 h2 => Int.le_antisymm h1 h2) hs3 hs4 (hp3.trans (List.Perm.trans (by rw [hK1]; exact I.stand) hp4.symm))
  rw [decide_eq_true e5]
  k_steps
  unfold Stuck
  have N5 := News.of (news := (Lc + 1, oc) :: (a.di, locD w a.iss a.ev σ.lim σ.nx σ.rpI a.i1 a.i2 a.i3 a.i4 a.i5 a.i6 a.j1 j4 j5) :: (a.xi, instObj 98 a.di) :: (a.iss, oI) :: (a.du, remD w a.kn a.us a.td tr σ.lim σ.cur σ.rpU a.u1 a.u2 a.u3 a.u4 a.u5 a.u6 a.u7 a.u8 a.v1 v3 v5) :: (a.xu, instObj 190 a.du) :: (a.kn, oK) :: (tr, W.listOf rvs.toArray nr) :: (a.nt, oN) :: (a.he, W.listOf hvs.toArray nh) :: (a.tl, W.listOf tlvs.toArray ntl) :: (a.dn, W.listOf dvs.toArray nd) :: rest) N4 (by w_left)
  clear N4 N3 N2 N1 hI4 hI3 hI2' hI1' hp4 hp3 hs4 hs3 e5 l4 l3 l2 l1
  refine wpAny_If ?_
  k_steps
  unfold Stuck
  refine' list_dict ?hh ?F ?N ?m ?d ?l ?z ?_
  case hh => exact rfl
  case F => k_asm
  case N => k_asm
  case m => k_mem
  case d => exact hI
  case l => exact q1
  case z => omega
  intro b9 c9 h9 tk9 vs9 F9 N9 l9 hI9
  k_steps
  unfold Stuck
  refine' add_lst ?F ?N ?a ?b ?i ?j ?z ?_
  case F => k_asm
  case N => k_asm
  case a => k_mem
  case b => k_mem
  case i => k_asm
  case j => k_asm
  case z => (simp only [List.length_append, List.length_map]; omega)
  intro D2 us2 h2' F2 N2 l2 hI2'
  have hs2 := hI2'.length
  simp only [List.length_append, List.length_map] at hs2
  k_steps
  unfold Stuck
  refine' sorted_lst ?F ?N ?m ?d ?z ?_
  case F => k_asm
  case N => k_asm
  case m => k_mem
  case d => k_asm
  case z => omega
  intro D3 h3' us3 ns3 e3 F3 N3 l3 hI3 hp3 hs3
  k_steps
  unfold Stuck
  refine' range1_rows ?F ?N ?_
  case F => k_asm
  case N => k_asm
  intro h10 tk10 t10 u10 v10 R10 F10 N10 k10
  k_steps
  unfold Stuck
  refine' kll_range ?hh ?F ?N R10 ?sm (rangeSize_nat _ _) ?hz ?_
  case hh => exact rfl
  case F => k_asm
  case N => k_asm
  case sm => exact small_one (by omega) (by omega) (by omega) (by omega)
  case hz => omega
  intro D4 us4 c4 h4' tk4 F4 N4 l4 hI4
  rw [rangeKs_upTo] at hI4
  k_steps
  unfold Stuck
  refine' ne_intsK ?k1 ?k2 ?k3 ?k4 ?k5 ?_
  case k1 => exact News.isList N4 (by k_mem)
  case k2 => k_asm
  case k3 => exact News.isList N4 (by k_mem)
  case k4 => k_asm
  case k5 => (simp only [units_deeper, units_in1, cLine]; omega)
  have e5 : ns3 = upTo σ.nx := List.Perm.eq_of_pairwise (fun a b _ _ h1 h2 => Int.le_antisymm h1 h2) hs3 (upTo_pairwise _) (hp3.trans (by rw [hI1]; exact I.rng))
  rw [decide_eq_true e5]
  k_steps
  unfold Stuck
  have N5 := News.of (news := (Lc + 1, oc) :: (a.di, locD w a.iss a.ev σ.lim σ.nx σ.rpI a.i1 a.i2 a.i3 a.i4 a.i5 a.i6 a.j1 j4 j5) :: (a.xi, instObj 98 a.di) :: (a.iss, oI) :: (a.du, remD w a.kn a.us a.td tr σ.lim σ.cur σ.rpU a.u1 a.u2 a.u3 a.u4 a.u5 a.u6 a.u7 a.u8 a.v1 v3 v5) :: (a.xu, instObj 190 a.du) :: (a.kn, oK) :: (tr, W.listOf rvs.toArray nr) :: (a.nt, oN) :: (a.he, W.listOf hvs.toArray nh) :: (a.tl, W.listOf tlvs.toArray ntl) :: (a.dn, W.listOf dvs.toArray nd) :: rest) N4 (by w_left)
  clear N4 N3 N2 hI4 hI3 hI2' hp3 hs3 e5 l4 l3 l2 hs2 l9 hI9
  refine wpAny_If ?_
  k_steps
  unfold Stuck
  refine LCt.ListComp_T (by k_asm) (by with_unfolding_all rfl) (by decide) (by rfl) (by decide) (by rfl) ?_
  k_steps
  refine LCt.CompSrcT.ledger (by rfl) (by k_asm) (by k_asm) (show (a.dn, W.listOf dvs.toArray nd) ∈ _ by k_mem) (by rw [List.size_toArray, sizeLine_eq]; omega) ?_
  intro g9
  dsimp only
  refine restL_filter (fun k => !decide (k ∈ σ.tl)) hD (by rw [List.size_toArray]; exact hdl) (.inr ⟨_, (show (a.dn, W.listOf dvs.toArray nd) ∈ _ by k_mem), rfl, _, rfl⟩) ?test ⟨rfl, rfl, rfl, by decide⟩ ?fin
  case test =>
    intro k9 t9 I9 oI9 C9 oC9 D9 oD9 m9 h9 tk9 E9 hk9 hC9 hx9 F' N'
    k_steps
    exact TestEnd.intro rfl (by k_asm) (by k_asm) (fun _ h => h)
  case fin =>
    intro ys9 hy9 D9 h9 tk9 F9 N9 o9
    replace N9 : News _ _ h9 ((D9, W.listOf ys9.toArray ys9.length) :: _) := N9
    have hz9 : ys9 = [] := by
      have e9 := hy9.length
      rw [List.filter_eq_nil_iff.mpr (fun x hx => by simpa using I.dtl x hx)] at e9
      exact List.length_eq_zero_iff.mp e9
    dsimp only
    k_steps
    unfold Stuck
    refine' ne_nil ?N ?a ?b ?u ?c ?_
    case N => k_asm
    case a => exact (show (D9, W.listOf ys9.toArray ys9.length) ∈ _ by k_mem)
    case b => k_mem
    case u => (simp only [units_deeper, units_in1, cLine]; omega)
    rotate_left
    · intro z; exact absurd hz9 z
    intro _
    k_steps
    unfold Stuck
    have N6 := News.of (news := (Lc + 1, oc) :: (a.di, locD w a.iss a.ev σ.lim σ.nx σ.rpI a.i1 a.i2 a.i3 a.i4 a.i5 a.i6 a.j1 j4 j5) :: (a.xi, instObj 98 a.di) :: (a.iss, oI) :: (a.du, remD w a.kn a.us a.td tr σ.lim σ.cur σ.rpU a.u1 a.u2 a.u3 a.u4 a.u5 a.u6 a.u7 a.u8 a.v1 v3 v5) :: (a.xu, instObj 190 a.du) :: (a.kn, oK) :: (tr, W.listOf rvs.toArray nr) :: (a.nt, oN) :: (a.he, W.listOf hvs.toArray nh) :: (a.tl, W.listOf tlvs.toArray ntl) :: (a.dn, W.listOf dvs.toArray nd) :: rest) (by with_reducible assumption) (by w_left)
    refine wpAny_If ?_
    k_steps
    unfold Stuck
    dsimp only [List.append_nil]
    refine' c_kept (oI := oI) (di := a.di) (iss := a.iss) ?q0 ?q1 ?q2 ?q3 ?q4 ?q5 ?q6 hI ?q7 q1 ?q8
    case q0 => k_units
    case q1 => k_asm
    case q2 => k_asm
    case q3 => k_room
    case q4 => k_mem
    case q5 => k_mem
    case q6 => k_mem
    case q7 => omega
    case q8 =>
      intro h11 tk11 t11 F11 N11
      k_steps
      unfold Stuck
      refine wpAny_If ?_
      k_steps
      unfold Stuck
      dsimp only [List.append_nil]
      refine' c_present (c := cidA σ.cur) (du := a.du) (kn := a.kn) (oK := oK) ?r0 ?r1 ?r2 ?r3 ?r4 ?r5 ?r6 hK q2 ?r7 ?r8 ?r9
      case r0 => k_units
      case r1 => k_asm
      case r2 => k_asm
      case r3 => k_room
      case r4 => k_mem
      case r5 => k_mem
      case r6 => k_mem
      case r7 => rw [hK1]; exact I.ck
      case r8 => exact fun v hv => (hK2 _ hv).mono fun p hp => by have := hrK p hp; k_mem
      case r9 =>
        intro h12 tk12 t12 F12 N12
        k_steps
        unfold Stuck
        (try dsimp only [List.append_nil])
        refine' c_seq (k₀ := σ.cur) (di := a.di) (iss := a.iss) (oI := oI) ?s0 ?s1 ?s2 ?s3 ?s4 ?s5 ?s6 hI ?s7 q1 ?s8 ?s9 ?s10
        case s0 => k_units
        case s1 => k_asm
        case s2 => k_asm
        case s3 => k_room
        case s4 => k_mem
        case s5 => k_mem
        case s6 => k_mem
        case s7 => omega
        case s8 =>
          intro k v hv
          obtain ⟨t9, e9⟩ := hI2 _ hv
          have hk9 := I.iss_lt (n := k) (by rw [← hI1]; exact List.mem_map.mpr ⟨_, hv, rfl⟩)
          have hc9 := I.iss_lt (I.kn_iss I.ck)
          refine ⟨_, t9, e9, fun e => ?_, fun e => by rw [e]⟩
          exact cidA_inj hk9.1 hc9.1 (by omega) (by omega) e
        case s9 => rw [hI1]; exact I.kn_iss I.ck
        case s10 =>
          intro h13 tk13 t13 F13 N13
          k_steps
          · exfalso; omega
          unfold Stuck
          first | refine Assign_Tuple_swapped ?_ | refine Assign_Tuple ?_
          k_steps
          unfold Stuck
          rename_i Da ha9 la Db hb9 lb Fb Nb xq yq
          refine' kda_set ?F ?N ?U hN (strKind_is _ _ _ _) ?z ?_
          case F => k_asm
          case N => k_asm
          case U => k_updF
          case z => rw [sizeLine_eq]; exact Nat.le_of_ble_eq_true rfl
          intro h14 o14 F14 N14 hN14
          (try dsimp only at N14)
          k_steps
          rw [decide_eq_true I.rpUI]
          have hm : ∀ p ∈ tups, p ∈ (Da, tupOf #[Value.int σ.rpI j5, Value.int σ.rpU v5]) :: tups := fun p hp => List.mem_cons_of_mem _ hp
          have hoff' : ∀ p ∈ ((Da, tupOf #[Value.int σ.rpI j5, Value.int σ.rpU v5]) :: tups) ++ es, (∀ x ∈ a.all, @Ne Nat p.1 x) ∧ @Ne Nat p.1 tr := by
            intro p hp
            rcases List.mem_cons.mp hp with e | hp
            · rw [e]
              obtain ⟨x0, x1, x2, x3, x4, x5, x6, x7, x8, x9, x10, x11, xr⟩ := la
              exact off_new ok' (allLt_mem xr _ hrT) x7
            · exact hoff p hp
          have hN15 : o14.IsDictOf (PySem.strKind PySem.Challenge.rw_sj0110_01.row.prog w) (netL a.fo a.ba a.he a.tl a.dn Da σ.lim a.n1) := by
            have e : stored (netL a.fo a.ba a.he a.tl a.dn as σ.lim a.n1) (Str.ofString "asked") (Value.ref Da) = netL a.fo a.ba a.he a.tl a.dn Da σ.lim a.n1 := by with_unfolding_all rfl
            exact e ▸ hN14
          --@
          have hX' : ∀ p ∈ (Da, tupOf #[Value.int σ.rpI j5, Value.int σ.rpU v5]) :: tups, ∀ q ∈ es, @Ne Nat p.1 q.1 := by
            intro p hp q hq
            rcases List.mem_cons.mp hp with e | hp
            · rw [e]
              obtain ⟨x0, x1, x2, x3, x4, x5, x6, x7, x8, x9, x10, x11, xr⟩ := la
              exact Ne.symm (Nat.ne_of_lt (allLt_mem xr _ (hrE q hq)))
            · exact hX p hp q hq
          refine' h _ _ _ (Rep.mk (tr := tr) (as := Da) (nb := nb) (nls := nls) (ne := ne) (nu := nu) (nr := nr) (nf := nf) (nba := nba) (nh := nh) (ntl := ntl) (nd := nd) (tc := tc) (j4 := j4) (j5 := j5) (v3 := v3) (v5 := v5) (oI := oI) (oK := oK) (oT := oT) (oN := o14) (ivs := ivs) (kvs := kvs) (tvs := tvs) (evs := evs) (ws := ws) (uvs := uvs) (rvs := rvs) (fvs := fvs) (bvs := bvs) (hvs := hvs) (tlvs := tlvs) (dvs := dvs) (ns := ns) (tups := ((Da, tupOf #[Value.int σ.rpI j5, Value.int σ.rpU v5]) :: tups)) htr hoff' hX' hI hI1 hI2 hE hE1 hK hK1 (fun p hp => (hK2 p hp).mono hm) hU hT hT1 (fun p hp => ⟨(hT2 p hp).1.mono hm, fun z => ((hT2 p hp).2 z).mono hm⟩) hR hN15 ⟨0, j5, v5, List.mem_cons_self⟩ (hF.mono fun _ _ z => z.mono hm) (hB.mono fun _ _ z => z.mono hm) hH hL hD hW hW1 hc) (by k_asm) ?N
          case N =>
            refine' News.of ?n1 ?n2
            case n1 => k_asm
            case n2 => (rw [hrest]; (try dsimp only [List.cons_append]); w_left)
end
end
section
section
variable {w : World} {A₀ : Around} {base h₀ : Heap} {env : Env} {outer : List Env} {dp un : Nat} {gs : Option (List Code)} {L : Addr} {m mg mb : Str → Option Value} {mean : ExcName → Option Value} {news post : List (Addr × Obj)} {sh : Heap} {sg : Array GenState} {sd : Drawn} {tk₀ : Nat} {so : OsState} {Q : Value → Shared → Prop} {E : Value → Shared → Prop}
theorem c_newL {lim : Int} {tc tl : Tok} (C : Cx w A₀ base h₀ env outer L mg mb mean) (F : Fr h₀ L sh m) (N : News h₀ L sh post) (hdep : dp < 480) (hun : un < 3500)
  (h : ∀ h' tk' (di xi iss ev : Nat) oI ne i1 i2 i3 i4 i5 i6 j4 j5, @LT.lt Nat _ di xi → @LT.lt Nat _ xi iss → @LT.lt Nat _ iss ev → (∀ p ∈ post, @LT.lt Nat _ p.1 di) → oI.IsDictOf (PySem.intKind PySem.Challenge.rw_sj0110_01.row.prog w) [((0 : Int), .bytes #[102, 105, 114, 115, 116] tc)] → (iss == sysModules) = false → Fr h₀ L h' m →
    News h₀ L h' ((di, locD w iss ev lim 1 0 i1 i2 i3 i4 i5 i6 tl j4 j5) :: (xi, instObj 98 di) :: (iss, oI) :: (ev, W.listOf #[.bytes #[102, 105, 114, 115, 116] tc] ne) :: post) → Q (.ref xi) ⟨h', sg, sd, tk', so⟩) :
  wpAny (model PySem.Challenge.rw_sj0110_01.row.prog w) (⟨none, dp, some (env :: outer), gs, un⟩ : Around) (call (.ref 98) [.bytes #[102, 105, 114, 115, 116] tc, .int lim tl] []) Q E ⟨sh, sg, sd, tk₀, so⟩ := by
  obtain ⟨B, X, TT, hf, hke⟩ := C
  w_top off
  k_go0
  refine' call_cls ?k1 ?k2 ?k3 ?k4 ?k5 ?k6 ?_
  case k1 => k_asm
  case k2 => k_asm
  case k3 => k_asm
  case k4 => k_is
  case k5 => k_is
  case k6 => k_is
  k_whole
  intro xi di h1 F1 N1 l1 l2
  (try k_lt l1)
  (try k_lt2 l2)
  open_k with [(("self" : Str), Value.ref xi), (("first" : Str), .bytes #[102, 105, 114, 115, 116] tc), (("limit" : Str), .int lim tl)]
  k_steps
  with_reducible rename _ ∧ _ ∧ _ ∧ AllLt _ _ => lb
  with_reducible rename _ ∧ _ ∧ AllLt _ _ => la
  refine' h _ _ di xi _ _ _ _ _ _ _ _ _ _ _ _ l2 ?a ?b l1 ?D ?lo ?F ?N
  case N => k_types
  case F => k_asm
  case D => k_asm
  case lo => k_asm
  case a => exact la.1
  case b => exact lb.1
end
end
section
section
local macro_rules | `(tactic| walk_at "eval Dict") => `(tactic| (k_here; k_dflt (refine' kdn_int (by rfl) (by k_asm) (by first | k_asm | exact News.nil) (by exact Top.nolimit (by k_asm)) (by rfl) (by rfl) (by exact List.cons_ne_nil _ _) (by exact Nat.le_of_ble_eq_true rfl) ?_); intro d' h' o' F' N' l1 lo' hd'; (try k_lt l1)))
local macro_rules | `(tactic| walk_at "newTuple") => `(tactic| (k_here; k_dflt (refine' mk_tuple (by k_asm) (by k_asm) (by exact Nat.le_of_ble_eq_true rfl) ?_); intro t' h' F' N' l1; (try k_lt l1); (try k_sweep)))
local macro_rules | `(tactic| walk_at "KdnMade") => `(tactic| (k_here; k_dflt (refine' kdn_made_int (by k_asm) (by k_asm) (by k_updF) (by k_asm) (by rfl) (by exact of_decide_eq_true (by first | rfl | kernel_rfl!)) ?_); intro h' o' F' N' hd'; (try dsimp only at N'); (try k_sweep)))
variable {w : World} {A₀ : Around} {base h₀ : Heap} {env : Env} {outer : List Env} {dp un : Nat} {gs : Option (List Code)} {L : Addr} {m mg mb : Str → Option Value} {mean : ExcName → Option Value} {news post : List (Addr × Obj)} {sh : Heap} {sg : Array GenState} {sd : Drawn} {tk₀ : Nat} {so : OsState} {Q : Value → Shared → Prop} {E : Value → Shared → Prop}
theorem c_newR {lim : Int} {tc tl : Tok} (C : Cx w A₀ base h₀ env outer L mg mb mean) (F : Fr h₀ L sh m) (N : News h₀ L sh post) (hdep : dp < 480) (hun : un < 3500)
  (h : ∀ h' tk' (du xu kn us td tr t1 t2 : Nat) oK oT nu nr i1 i2 i3 i4 i5 i6 i7 i8 j3 j5 zt, @LT.lt Nat _ du xu → @LT.lt Nat _ xu kn → @LT.lt Nat _ kn t1 → @LT.lt Nat _ t1 us → @LT.lt Nat _ us td → @LT.lt Nat _ td t2 → @LT.lt Nat _ t2 tr → (∀ p ∈ post, @LT.lt Nat _ p.1 du) → oK.IsDictOf (PySem.intKind PySem.Challenge.rw_sj0110_01.row.prog w) [((0 : Int), .ref t1)] → oT.IsDictOf (PySem.intKind PySem.Challenge.rw_sj0110_01.row.prog w) [((0 : Int), .ref t2)] → (kn == sysModules) = false → (td == sysModules) = false → Fr h₀ L h' m →
    News h₀ L h' ((du, remD w kn us td tr lim 0 0 i1 i2 i3 i4 i5 i6 i7 i8 tl j3 j5) :: (xu, instObj 190 du) :: (kn, oK) :: (us, W.listOf #[.int 0 zt] nu) :: (td, oT) :: (tr, W.listOf #[] nr) :: (t1, tupOf #[.bytes #[102, 105, 114, 115, 116] tc, .none]) :: (t2, tupOf #[.bytes #[102, 105, 114, 115, 116] tc, .none]) :: post) → Q (.ref xu) ⟨h', sg, sd, tk', so⟩) :
  wpAny (model PySem.Challenge.rw_sj0110_01.row.prog w) (⟨none, dp, some (env :: outer), gs, un⟩ : Around) (call (.ref 190) [.bytes #[102, 105, 114, 115, 116] tc, .none, .int lim tl] []) Q E ⟨sh, sg, sd, tk₀, so⟩ := by
  obtain ⟨B, X, TT, hf, hke⟩ := C
  w_top off
  k_go0
  refine' call_cls ?k1 ?k2 ?k3 ?k4 ?k5 ?k6 ?_
  case k1 => k_asm
  case k2 => k_asm
  case k3 => k_asm
  case k4 => k_is
  case k5 => k_is
  case k6 => k_is
  k_whole
  intro xu du h1 F1 N1 l1 l2
  (try k_lt l1)
  (try k_lt2 l2)
  open_k with [(("self" : Str), Value.ref xu), (("first" : Str), .bytes #[102, 105, 114, 115, 116] tc), (("token" : Str), .none), (("limit" : Str), .int lim tl)]
  k_steps
  with_reducible rename _ ∧ _ ∧ _ ∧ _ ∧ _ ∧ _ ∧ _ ∧ AllLt _ _ => m8
  with_reducible rename _ ∧ _ ∧ _ ∧ _ ∧ _ ∧ _ ∧ AllLt _ _ => m7
  with_reducible rename _ ∧ _ ∧ _ ∧ _ ∧ _ ∧ AllLt _ _ => m6
  with_reducible rename _ ∧ _ ∧ _ ∧ _ ∧ AllLt _ _ => m5
  with_reducible rename _ ∧ _ ∧ _ ∧ AllLt _ _ => m4
  with_reducible rename _ ∧ _ ∧ AllLt _ _ => m3
  refine' h _ _ du xu _ _ _ _ _ _ _ _ _ _ _ _ _ _ _ _ _ _ _ _ _ l2 m3.1 m4.1 m5.1 m6.1 m7.1 m8.1 l1 ?D ?D2 ?lo ?lo2 ?F ?N
  case N => k_types
  case F => k_asm
  case D => k_asm
  case D2 => k_asm
  case lo => k_asm
  case lo2 => k_asm
end
end
section
local macro_rules | `(tactic| walk_at "no such key") => `(tactic| skip)
section
local macro_rules | `(tactic| walk_at "exec For Name Call cons nil") => `(tactic| (k_here; refine' Stuck.out ?_))
local macro_rules | `(tactic| walk_at "call type:range") => `(tactic| (k_here; refine' Stuck.out ?_))
local macro_rules | `(tactic| walk_at "compareOp NotEq ref ref") => `(tactic| (k_here; refine' Stuck.out ?_))
variable {w : World} {A₀ : Around} {base h₀ : Heap} {env : Env} {outer : List Env} {dp un : Nat} {gs : Option (List Code)} {L : Addr} {m mg mb : Str → Option Value} {mean : ExcName → Option Value} {news post : List (Addr × Obj)} {sh : Heap} {sg : Array GenState} {sd : Drawn} {tk₀ : Nat} {so : OsState} {Q : Value → Shared → Prop} {E : Value → Shared → Prop}
theorem r_all {bx ls : Nat} {tc : Tok} {nb nl : Nat} {ws : List Value} {ns : List Int} (C : Cx w A₀ base h₀ env outer L mg mb mean) (F : Fr h₀ L sh m) (N : News h₀ L sh [(bx, W.listOf #[.ref ls, .int 0 tc] nb), (ls, W.listOf ws.toArray nl)]) (hdep : dp < 400) (hun : un < 3000)
  (hlb : ls < bx) (hW : IntsAre ws ns) (hW1 : ws.length ≤ 64)
  (h : ∀ h' tk', Fr h₀ L h' m → News h₀ L h' [] → Q (.bool true) ⟨h', sg, sd, tk', so⟩) :
  wpAny (model PySem.Challenge.rw_sj0110_01.row.prog w) (⟨none, dp, some (env :: outer), gs, un⟩ : Around) (call (.ref 262) [.ref bx] []) Q E ⟨sh, sg, sd, tk₀, so⟩ := by
  obtain ⟨B, X, TT, hf, hke⟩ := C
  w_top off
  k_go0
  refine wpAny_call ?_
  open_k with [(("box" : Str), Value.ref bx)]
  k_steps
  rename_i gC LC hC FGC BC XC TC tkC zC nt hh0 on0 Fn0 Nn0 lon0 hdn0 ln0
  unfold Stuck
  refine' c_take (c := 0) (ws := ws) (ls := ls) (nl := nl) (tc := tc) (nb := nb) (post := [(nt, on0), (ls, W.listOf ws.toArray nl)]) ?q0 ?q1 ?q2 ?q3 ?q4 ?q5 hW hW1 (by omega) (by omega) (by decide) (by decide) ?q6
  case q0 => k_units
  case q1 => k_asm
  case q2 => exact News.of (by k_asm) (by w_left)
  case q3 => k_room
  case q4 => k_all
  case q5 => k_mem
  case q6 =>
    intro h1 tk1 r1 t1 tc1 nb1 hr0 hr1 F1 N1
    k_steps
    rename_i fo hq1 lf1 ba hq2 lf2 he hq3 lf3 tl hq4 lf4 dn hq5 lf5 as hq6 lf6 hq7 oN hdN hq8 FN NN
    unfold Stuck
    (try dsimp only [List.append_nil])
    refine' c_newL ?q0 FN NN ?q3 ?q4 ?q5
    case q0 => k_units
    case q3 => k_room
    case q4 => (try simp only [units_deeper, units_in1, cLine]); omega
    case q5 =>
      intro h2 tk2 di xi iss ev oI ne i1 i2 i3 i4 i5 i6 j4 j5 ld lx li lp hI loI F2 N2
      k_steps
      unfold Stuck
      (try dsimp only [List.append_nil])
      refine' c_newR ?q0 ?q1 ?q2 ?q3 ?q4 ?q5
      case q0 => k_units
      case q1 => k_asm
      case q2 => k_asm
      case q3 => k_room
      case q4 => (try simp only [units_deeper, units_in1, cLine]); omega
      case q5 =>
        intro h3 tk3 du xu kn us td tr t1' t2' oK oT nu nr u1 u2 u3 u4 u5 u6 u7 u8 v3 v5 zt m1 m2 m3 m4 m5 m6 m7 lq hK hT loK loT F3 N3
        k_steps
        rename_i tkq D9 hq9 lD hq10 hq11 hq12 F9 N9
        have c1 : @LT.lt Nat _ dn di := lp (dn, W.listOf #[] 0) (by k_mem)
        have c2 : @LT.lt Nat _ as di := lp (as, _) List.mem_cons_self
        have c3 : @LT.lt Nat _ ev du := lq (ev, W.listOf #[Value.bytes #[102, 105, 114, 115, 116] _] ne) (by k_mem)
        obtain ⟨a, ha⟩ : ∃ a : Adr, a = ⟨ls, bx, fo, ba, he, tl, dn, nt, di, xi, iss, ev, du, xu, kn, us, td, i1, i2, i3, i4, i5, i6, tk1, u1, u2, u3, u4, u5, u6, u7, u8, tk1, tk1⟩ := ⟨_, rfl⟩
        have ok : a.Ok := by
          rw [ha]
          exact { o1 := hlb, o2 := ln0.1, o3 := lf1.2.1, o4 := lf2.1, o5 := lf3.1, o6 := lf4.1, o7 := lf5.1, o8 := c1, o9 := ld, p1 := lx, p2 := li, p3 := c3, p4 := m1, p5 := m2, p6 := Nat.lt_trans m3 m4, p7 := m5, q1 := loI, q2 := loK, q3 := loT }
        have c4 : @LT.lt Nat _ as tr := Nat.lt_trans c2 (Nat.lt_trans ld (Nat.lt_trans lx (Nat.lt_trans li (Nat.lt_trans c3 (Nat.lt_trans m1 (Nat.lt_trans m2 (Nat.lt_trans m3 (Nat.lt_trans m4 (Nat.lt_trans m5 (Nat.lt_trans m6 m7))))))))))
        have hoffA := fun (x1 x2 x3 : Obj) => show ∀ p ∈ [(as, x1), (t1', x2), (t2', x3)] ++ ([] : List (Addr × Obj)), (∀ x ∈ a.all, @Ne Nat p.1 x) ∧ @Ne Nat p.1 tr from List.forall_mem_cons.mpr ⟨⟨ok.mid 7 (by decide) (by rw [ha]; exact lf6.1) (by rw [ha]; exact c2), Nat.ne_of_lt c4⟩, List.forall_mem_cons.mpr ⟨⟨ok.mid 14 (by decide) (by rw [ha]; exact m3) (by rw [ha]; exact m4), Nat.ne_of_lt (Nat.lt_trans m4 (Nat.lt_trans m5 (Nat.lt_trans m6 m7)))⟩, List.forall_mem_cons.mpr ⟨⟨ok.above (by rw [ha]; exact m6), Nat.ne_of_lt m7⟩, fun p hp => nomatch hp⟩⟩⟩
        rw [ha] at hoffA
        have hex : ∃ news, Rep w a (startS (2 + r1)) (0, 0) (0 + 1) [] news ∧ News gC LC hq12 news := by
          refine' Rep.ex (news := ?nw) ?R N9 ?hs
          case R =>
            rw [ha]
            refine' (Rep.mk (tr := tr) (as := as) (nb := nb1) (nls := nl) (ne := ne) (nu := nu) (nr := nr) (nf := 0) (nba := 0) (nh := 0) (ntl := 0) (nd := 0) (tc := tc1) (j4 := j4) (j5 := j5) (v3 := v3) (v5 := v5) (oI := oI) (oK := oK) (oT := oT) (oN := oN) (ivs := [((0 : Int), .bytes #[102, 105, 114, 115, 116] tkq)]) (kvs := [((0 : Int), .ref t1')]) (tvs := [((0 : Int), .ref t2')]) (evs := #[.bytes #[102, 105, 114, 115, 116] tkq]) (ws := ws) (uvs := [.int 0 zt]) (rvs := []) (fvs := []) (bvs := []) (hvs := [.int 0 (tk1 + 1 + 1 + 1 + 1)]) (tlvs := []) (dvs := []) (ns := ns) (tups := [(as, tupE #[.int 0 (tk1 + 1 + 1 + 1 + 1 + 1 + 1 + 1 + 1), .int 0 (tk1 + 1 + 1 + 1 + 1 + 1 + 1 + 1 + 1 + 1)] 0), (t1', tupOf #[Value.bytes #[102, 105, 114, 115, 116] tk2, Value.none]), (t2', tupOf #[Value.bytes #[102, 105, 114, 115, 116] tk2, Value.none])]) ?htr ?hoff ?hX hI rfl ?hI2 ?hE ?hE1 hK rfl ?hK2 (IntsAre.cons 0 zt .nil) hT rfl ?hT2 .nil ?hN ?hA .nil .nil (IntsAre.cons 0 _ .nil) .nil .nil hW hW1 (by decide))
            case htr => exact Nat.lt_trans m6 m7
            case hX => exact fun p hp q hq => nomatch hq
            case hI2 => intro p hp; rw [List.mem_singleton.mp hp]; exact ⟨_, by rw [cid0]⟩
            case hE => intro y hy; exact ⟨0, _, by rw [cid0]; simpa using hy, by decide, by show (0 : Int) < 1; decide⟩
            case hE1 => show (1 : Int) ≤ 1; decide
            case hK2 => intro p hp; rw [List.mem_singleton.mp hp]; exact ⟨t1', _, _, 0, rfl, by rw [cid0]; exact List.mem_cons_of_mem _ List.mem_cons_self⟩
            case hT2 => intro p hp; rw [List.mem_singleton.mp hp]; exact ⟨⟨t2', _, _, 0, rfl, by rw [cid0]; exact List.mem_cons_of_mem _ (List.mem_cons_of_mem _ List.mem_cons_self)⟩, fun z => absurd (show (1 : Int) ≤ 0 from z) (by decide)⟩
            case hN => with_unfolding_all exact hdN
            case hA => exact ⟨0, _, _, List.mem_cons_self⟩
            case hoff => exact hoffA _ _ _
          case hs => dsimp only [List.append_nil, List.cons_append]; w_left
        obtain ⟨news, R, N⟩ := hex
        have en : nt = a.nt := by rw [ha]
        have exi : xi = a.xi := by rw [ha]
        have exu : xu = a.xu := by rw [ha]
        have ebx : bx = a.bx := by rw [ha]
        rw [en, exi, exu, ebx] at F9
        have g0 := good_start (lim := 2 + r1) (by omega) (by omega)
        clear N9 en exi exu ebx ha lp lq hI hK hT hdN lD lf1 lf2 lf3 lf4 lf5 lf6 c1 c2 c3 ld lx li m1 m2 m3 m4 m5 m6 m7 loI loK loT lon0 ln0 hW hW1 hdn0
        unfold Stuck
        (with_unfolding_all refine' For_R F9 ?k1 ?k2 ?_; (case k1 => exact rfl); (case k2 => exact rfl); k_whole)
        k_steps
        unfold Stuck
        (try dsimp only [List.append_nil])
        refine' r_take (by decide) (by decide) (by decide) ?cC ?cF N R ok ?cd ?ch
        case cC => k_units
        case cF => k_asm
        case cd => k_room
        case ch =>
          intro h4 tk4 r4 t4 news4 hr4 hr5 R4 F4 N4
          k_steps
          unfold Stuck
          refine' range1_rows ?F ?N ?_
          case F => k_asm
          case N => exact N4
          intro h10 tk10 t10 u10 v10 R10 F10 N10 k10
          (try dsimp only)
          refine ⟨(Str.ofString "form"), _, _, _, _, _, (7 + r4 - 0).toNat, news4, fun i nw => ∃ σ ask c, Good i σ ∧ σ.lim = 2 + r1 ∧ ask.1 ≤ σ.rpI ∧ ask.2 ≤ σ.rpU ∧ c ≤ 2 + 2 * (i : Int) ∧ Rep w a σ ask c [] nw, rfl, rfl, R10, small_one (by omega) (by omega) (by omega) (by omega), rangeSize_nat _ _, F10, N10, ⟨startS (2 + r1), (0, 0), _, g0, rfl, Int.le_refl _, Int.le_refl _, by omega, R4⟩, ?turn, ?done⟩
          case turn =>
            intro i k t I own nw h9 tk9 u2 hi hJ hown hoffI hltI hIo F9 N9
            obtain ⟨σ, ask, c, g, e1, a1, a2, hc, R⟩ := hJ
            have hi20 : i ≤ 14 := by omega
            have Ro := R.own (ow := own) (fun p hp q hq => by rw [hown p hp]; exact hoffI q hq)
            k_steps
            unfold Stuck
            (try dsimp only [List.append_nil])
            refine' r_take (by decide) (by decide) (by omega) ?cC ?cF ?cN Ro ok ?cd ?ch
            case cC => k_units
            case cF => k_asm
            case cN => k_asm
            case cd => k_room
            case ch =>
              intro h11 tk11 r11 t11 news11 p1 p2 R11 F11 N11
              k_steps
              unfold Stuck
              (try dsimp only [List.append_nil])
              refine' r_take (by decide) (by decide) (by omega) ?cC ?cF ?cN R11 ok ?cd ?ch
              case cC => k_units
              case cF => k_asm
              case cN => k_asm
              case cd => k_room
              case ch =>
                intro h12 tk12 r12 t12 news12 p3 p4 R12 F12 N12
                k_steps
                unfold Stuck
                (try dsimp only [List.append_nil])
                refine' r_deed p1 p2 p3 p4 ?cC ?cF ?cN R12 ok g (by omega) ?cd ?cu ?ch
                case cC => k_units
                case cF => k_asm
                case cN => k_asm
                case cd => k_room
                case cu => (try simp only [units_deeper, units_in1, cLine]); omega
                case ch =>
                  intro h13 tk13 σ13 news13 d13 R13 F13 N13
                  obtain ⟨g13, l13, m13, n13⟩ := good_deed g d13
                  k_steps
                  unfold Stuck
                  (try dsimp only [List.append_nil])
                  refine' r_stands ?cC ?cF ?cN R13 ok g13 (by omega) ?cd ?cu (Int.le_trans a1 m13) (Int.le_trans a2 n13) ?ch
                  case cC => k_units
                  case cF => k_asm
                  case cN => k_asm
                  case cd => k_room
                  case cu => (try simp only [units_deeper, units_in1, cLine]); omega
                  case ch =>
                    intro h14 tk14 news14 R14 F14 N14
                    k_steps
                    obtain ⟨nw2, s1, s2, s3⟩ := R14.off hIo
                    exact ⟨rfl, _, _, _, nw2, rfl, (by k_asm), (fun y z1 z2 => by simp [z1, z2]), News.of (by k_asm) s1, s3, ⟨σ13, _, _, g13, by rw [l13, e1], Int.le_refl _, Int.le_refl _, by omega, s2⟩⟩
          case done =>
            intro u1 u2 h9 tk9 nw hJ F9 N9
            obtain ⟨σ, ask, c, g, e1, a1, a2, hc, R⟩ := hJ
            have hn14 : (7 + r4 - 0).toNat ≤ 14 := by omega
            k_steps
            unfold Stuck
            (try dsimp only [List.append_nil])
            refine' r_rest ?cC ?cF ?cN R ok g (by omega) ?cd ?cu ?ch
            case cC => k_units
            case cF => k_asm
            case cN => k_asm
            case cd => k_room
            case cu => (try simp only [units_deeper, units_in1, cLine]); omega
            case ch =>
              intro h15 tk15 σ15 news15 g15 rs15 f15 t15 b15 R15 F15 N15
              k_steps
              have hkp : keptN σ15.rpI σ15.iss ≤ σ15.lim := by obtain ⟨⟨pr, I⟩, z⟩ := g15; exact I.kept
              have hl2 : σ15.lim ≤ 4 := by obtain ⟨⟨pr, I⟩, z⟩ := g15; exact I.lim2
              have hk0 : 0 ≤ keptN σ15.rpI σ15.iss := Int.natCast_nonneg _
              unfold Stuck
              refine' While_fix (n₀ := (σ15.lim - keptN σ15.rpI σ15.iss).toNat) (fun n nw => ∃ σ' T, T + n ≤ 18 ∧ Good T σ' ∧ (n : Int) = σ'.lim - keptN σ'.rpI σ'.iss ∧ σ'.tr = [] ∧ σ'.ba = [] ∧ ask.1 ≤ σ'.rpI ∧ ask.2 ≤ σ'.rpU ∧ Rep w a σ' ask c [] nw) ?F ?N ⟨σ15, (7 + r4 - 0).toNat, by omega, g15, by omega, t15, b15, Int.le_trans a1 (Int.le_of_eq rs15.2.1.symm), Int.le_trans a2 rs15.2.2.2.1, R15⟩ ?wt ?hE
              case F => k_asm
              case N => k_asm
              case hE => first | passes_own | with_unfolding_all passes_own
              case wt =>
                rintro n nw16 h16 tk16 F16 N16 ⟨σ16, T16, x1, g16, x2, x3, x4, x5, x6, R16⟩
                obtain ⟨y4, y5, hy1, hy2⟩ := R16.lookI
                replace N16 := News.of (news := (a.di, locD w a.iss a.ev σ16.lim σ16.nx σ16.rpI a.i1 a.i2 a.i3 a.i4 a.i5 a.i6 a.j1 y4 y5) :: (a.xi, instObj 98 a.di) :: nw16) N16 (List.forall_mem_cons.mpr ⟨hy1, List.forall_mem_cons.mpr ⟨hy2, fun p hp => hp⟩⟩)
                k_steps
                unfold Stuck
                (try dsimp only [List.append_nil])
                refine' r_may ?cC ?cF ?cN R16 ok g16 (by omega) ?cd ?ch
                case cC => k_units
                case cF => k_asm
                case cN => exact News.of (by k_asm) (fun p hp => by k_mem)
                case cd => k_room
                case ch =>
                  intro h17 tk17 F17 N17
                  by_cases hk : keptN σ16.rpI σ16.iss < σ16.lim
                  · rw [decide_eq_true hk]
                    k_steps
                    unfold Stuck
                    (try dsimp only [List.append_nil])
                    refine' r_issued ?cC ?cF ?cN R16 ok g16 (by omega) ?cd ?ch
                    case cC => k_units
                    case cF => k_asm
                    case cN => k_asm
                    case cd => k_room
                    case ch =>
                      intro h18 tk18 σ18 news18 st18 R18 F18 N18
                      obtain ⟨pr16, I16⟩ := g16.1
                      obtain ⟨w1, w2, w3, w4, w5, w6⟩ := issued_kept I16 hk st18
                      k_steps
                      exact WhileStep.intro (n' := n - 1) (by k_asm) (by k_asm) (by omega) ⟨rfl, σ18, T16 + 1, by omega, good_issued g16 st18, by rw [w1, w2]; omega, by rw [w3]; exact x3, by rw [w4]; exact x4, by rw [w5]; exact x5, by rw [w6]; exact x6, R18⟩
                  · rw [decide_eq_false hk]
                    have hke : keptN σ16.rpI σ16.iss = σ16.lim := by omega
                    k_steps
                    unfold Stuck
                    (try dsimp only [List.append_nil])
                    refine' r_rest ?cC ?cF ?cN R16 ok g16 (by omega) ?cd ?cu ?ch
                    case cC => k_units
                    case cF => k_asm
                    case cN => k_asm
                    case cd => k_room
                    case cu => (try simp only [units_deeper, units_in1, cLine]); omega
                    case ch =>
                      intro h19 tk19 σ news19 g19 rs19 f19 t19 b19 R F19 N19
                      k_steps
                      unfold Stuck
                      (try dsimp only [List.append_nil])
                      refine' r_stands ?cC ?cF ?cN R ok g19 (by omega) ?cd ?cu (Int.le_trans x5 (Int.le_of_eq rs19.2.1.symm)) (Int.le_trans x6 rs19.2.2.2.1) ?ch
                      case cC => k_units
                      case cF => k_asm
                      case cN => k_asm
                      case cd => k_room
                      case cu => (try simp only [units_deeper, units_in1, cLine]); omega
                      case ch =>
                        intro h20 tk20 news20 R20 F20 N
                        have hLow : Low σ16 := ⟨by rw [x3]; exact fun n hn => (nomatch hn), by rw [x4]; exact fun b hb => (nomatch hb)⟩
                        have hk19 : keptN σ.rpI σ.iss = σ.lim := by rw [(rs19.2.2.2.2 hLow).2, rs19.1]; exact hke
                        obtain ⟨v1, v2, v3'⟩ := g19.last f19 t19 b19 hk19
                        have bd := g19.bd (by omega)
                        clear R R16 g16 rs19 f19 t19 b19 hLow
                        have R := R20
                        clear R20
                        have ok' := ok
                        cases R
                        rename_i tr as nb nls ne nu nr nf nba nh ntl nd tc j4 j5 v3 v5 oI oK oT oN ivs kvs tvs evs ws uvs rvs fvs bvs hvs tlvs dvs ns tups htr hoff hX hI hI1 hI2 hE hE1 hK hK1 hK2 hU hT hT1 hT2 hR hN hA hF hB hH hL hD hW hW1 hc
                        obtain ⟨o1, o2, o3, o4, o5, o6, o7, o8, o9, o10, o11, o12, o13, o14, o15, o16, q1, q2, q3⟩ := ok
                        have hfl := hF.length
                        have hbl := hB.length
                        have hil : ivs.length = σ.iss.length := by rw [← hI1, List.length_map]
                        have hkl : kvs.length = σ.kn.length := by rw [← hK1, List.length_map]
                        have htl : tvs.length = σ.he.length := by rw [← hT1, List.length_map]
                        obtain ⟨b1, b2, b3, b4, b5, b6, b7, b8, b9, b10, b11⟩ := bd
                        have N21 := News.of (news := [(a.di, locD w a.iss a.ev σ.lim σ.nx σ.rpI a.i1 a.i2 a.i3 a.i4 a.i5 a.i6 a.j1 j4 j5), (a.xi, instObj 98 a.di), (a.iss, oI), (a.du, remD w a.kn a.us a.td tr σ.lim σ.cur σ.rpU a.u1 a.u2 a.u3 a.u4 a.u5 a.u6 a.u7 a.u8 a.v1 v3 v5), (a.xu, instObj 190 a.du), (a.kn, oK), (a.nt, oN)]) N (by w_left)
                        have hle : ((kvs.map (·.1)).length : Int) = σ.lim := by rw [hK1]; exact v2
                        have hkl2 : 0 < kvs.length := by rw [hK1] at hle; have := g19.1; obtain ⟨pr, I⟩ := this; have := I.lim1; omega
                        clear N hA hB hF hH hL hD hR hT hU hE hE1 hoff hX
                        k_steps
                        unfold Stuck
                        with_reducible rename News _ _ _ _ => N22
                        refine' ne_intsK ?k1 ?k2 ?k3 ?k4 ?k5 ?_
                        case k1 => exact News.isList N22 (by k_mem)
                        case k2 => k_asm
                        case k3 => exact News.isList N22 (by k_mem)
                        case k4 => k_asm
                        case k5 => (try simp only [units_deeper, units_in1, cLine]); omega
                        have e5 : ∀ {l1 l2 : List Int}, l1.Perm (kvs.map (·.1)) → l2.Perm (ivs.map (·.1)) → l1.Pairwise (· ≤ ·) → l2.Pairwise (· ≤ ·) → l1 = l2 := fun p1 p2 s1 s2 => List.Perm.eq_of_pairwise (fun a b _ _ h1 h2 => Int.le_antisymm h1 h2) s1 s2 (p1.trans (List.Perm.trans (by rw [hK1, hI1]; exact v1) p2.symm))
                        rw [decide_eq_true (e5 (by k_asm) (by k_asm) (by k_asm) (by k_asm))]
                        k_steps
                        · with_reducible rename _ ∈ List.map _ kvs => hmn
                          rw [decide_eq_true (v3' _ (by rw [← hK1]; exact hmn))]
                          exact h _ _ (by k_asm) (fun p hp => nomatch hp)
                        · with_reducible rename _ ≠ _ => hne9
                          exact absurd hle hne9
end
end
section
section
local macro_rules | `(tactic| k_qdec) => `(tactic| decide +kernel)
theorem law_holds : PySem.Challenge.rw_sj0110_01.Holds := hd (by
  w_top off
  k_go0
  all_goals (try k_fold)
  k_steps
  with_reducible rename IntsAre _ (List.take 40 _) => hI9
  with_reducible rename News _ _ _ _ => N9
  with_reducible rename Fr _ _ _ _ => F9
  have hl9 := hI9.length
  with_reducible rename _ = min 40 _ => hm9
  unfold Stuck
  (try dsimp only [List.append_nil])
  refine' r_all ?cC F9 (News.of N9 ?cN) ?cd ?cu ?cl hI9 ?cw ?ch
  case cC => k_units
  case cN => exact List.forall_mem_cons.mpr ⟨List.mem_cons_self, List.forall_mem_cons.mpr ⟨List.mem_cons_of_mem _ List.mem_cons_self, fun p hp => nomatch hp⟩⟩
  case cd => decide
  case cu => decide
  case cl => omega
  case cw => omega
  case ch =>
    intro h' tk' F' N'
    refine goodW_bool F' (by assumption) (raisesW_false ?_) ?_
    · wrow_none_raised
    · wrow_post)
end
end
end
end
end
end
end
end Mine
theorem PySem.Challenge.cw_sj0110_01_holds : PySem.Challenge.rw_sj0110_01.Holds := by
  exact Mine.law_holds
