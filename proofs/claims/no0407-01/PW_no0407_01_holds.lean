import PyProof.Rows.All
import Wide.All
import OpenK.AllK
import Wide.FinOn
import PySem.Challenge.RW_no0407_01
set_option Elab.async false
set_option maxRecDepth 100000
set_option linter.unusedVariables false
set_option genInjectivity false
set_option genSizeOf false
set_option compiler.extract_closed false
namespace Mine

section
open PySem PySem.W PySem.Calls PyProof.Rows
noncomputable section
noncomputable abbrev pw : Program := PySem.Challenge.pw_no0407_01
noncomputable def dr0 : DefRec := ⟨"", ⟨[], [], none, [], [], none, []⟩, [], ⟨.function, [], false, false, []⟩, ⟨0, 0, 0, 0⟩⟩
noncomputable def drOf : Option Stmt → DefRec
  | some (.FunctionDef n a b _ _ _ s _ _ p) => ⟨n, a, b, s, p⟩
  | _ => dr0
noncomputable def bodyOf : Option Stmt → List Stmt
  | some (.ClassDef _ _ _ b _ _ _ _ _ _ _) => b
  | _ => []
noncomputable def ft (i : Nat) : DefRec := drOf (pw.main.body[i]? : Option Stmt)
noncomputable def fm (i j : Nat) : DefRec := drOf ((bodyOf (pw.main.body[i]? : Option Stmt))[j]? : Option Stmt)
noncomputable def E (P : Params) (x : Str) (t : Tok) (v : Value) : DictEntry := ⟨PyData.keyHash P x, .str x t, v⟩
noncomputable def FD (d : DefRec) (qual : Str) (globals : Addr) (closure : List (Str × Addr)) (defaults kwdefaults doc pm : Value) (an : Option Addr) (code ct : Value) (builtins : Addr) : FuncData :=
  ⟨d.name, qual, d.params, .stmts d.body, d.scope, globals, closure, defaults, kwdefaults, doc, pm, an, code, ct, builtins⟩
noncomputable def heapK (P : Params) : Frag := [
  (2, ⟨.none, .none, .dict #[E P "type.__subclasses__.Exception.0" 212 (.int 31 0), E P "type.__subclasses__.Exception.n" 213 (.int 1 0)] 2, #[]⟩),
  (3, ⟨.type "dict", .none, .dict #[E P "__name__" 165 (.str "law_no0407_01" 770), E P "__doc__" 166 .none, E P "__package__" 167 .none, E P "__loader__" 168 (.builtin "__main__.__loader__#opaque"), E P "__spec__" 169 .none, E P "__annotations__" 170 (.ref 6), E P "__builtins__" 171 (.ref 4), E P "__file__" 173 (.str "/claim/cut.py" 172), E P "__cached__" 174 .none, E P "_wall" 193 (.ref 21), E P "KeepError" 215 (.ref 31), E P "StoreError" 231 (.ref 44), E P "BadOption" 247 (.ref 56), E P "RaftError" 263 (.ref 68), E P "Compacted" 279 (.ref 80), E P "Unavailable" 295 (.ref 92), E P "SnapOutOfDate" 311 (.ref 104), E P "SnapNotReady" 327 (.ref 116), E P "LogGap" 343 (.ref 128), E P "LogPanic" 359 (.ref 140), E P "MAX_64" 363 (.int 18446744073709551615 362), E P "varint_length" 371 (.ref 149), E P "NONE" 375 (.int 0 374), E P "rising" 384 (.ref 156), E P "Entry" 449 (.ref 201), E P "limit_size" 460 (.ref 212), E P "HardState" 522 (.ref 257), E P "ConfState" 573 (.ref 292), E P "Snapshot" 629 (.ref 334), E P "MemoryStorage" 769 (.ref 439), E P "_law_terms" 777 (.ref 450), E P "_law_draw" 785 (.ref 457), E P "_law_width" 792 (.ref 464), E P "_law_page" 798 (.ref 469), E P "_law_standing" 804 (.ref 474), E P "_law_tells" 810 (.ref 479), E P "law" 816 (.ref 484)] 37, #[]⟩),
  (20, ⟨.type "code", .none, .fields #[.str "_wall" 187, .str "_wall" 188, .str "/claim/cut.py" 189, .int 1 0, .int 1 0, .int 0 0, .int 0 0, .int 3 0, .ref 15, .bool .true, .int 181 0, .ref 16, .none, .ref 17, .ref 18, .ref 19, .int 191 0, .int 1 0, .str "/claim/cut.py" 192], #[]⟩),
  (21, ⟨.type "function", .none, .func (FD (ft 0) "_wall" 3 [] .none .none .none (.str "__main__" 164) .none (.ref 20) .none 0), #[]⟩),
  (30, ⟨.type "dict", .none, .dict #[E P "__module__" 203 (.str "raftkeep.errors" 194), E P "__firstlineno__" 207 (.int 5 206), E P "__static_attributes__" 208 (.ref 29), E P "__weakref__" 210 (.ref 32), E P "__doc__" 211 .none] 3, #[]⟩),
  (31, ⟨.type "type", .none, .cls ⟨"KeepError", [.type "Exception"], [.ref 31, .type "Exception", .type "BaseException", .type "object"], 30, "KeepError", .true, [], [.ref 44, .ref 68], .false, .none, .false⟩, #[.some (.ref 22), .none, .some (.str "KeepError" 196), .some (.str "KeepError" 204), .some (.builtin "Exception.__new__"), .some (.bool .true)]⟩),
  (32, ⟨.type "getset_descriptor", .none, .fields #[.str "__weakref__" 209, .ref 31, .builtin "ExceptionGroup.__weakref__", .none], #[]⟩),
  (43, ⟨.type "dict", .none, .dict #[E P "__module__" 223 (.str "raftkeep.errors" 194), E P "__firstlineno__" 227 (.int 7 226), E P "__static_attributes__" 228 (.ref 42), E P "__doc__" 229 .none] 2, #[]⟩),
  (44, ⟨.type "type", .none, .cls ⟨"StoreError", [.ref 31], [.ref 44, .ref 31, .type "Exception", .type "BaseException", .type "object"], 43, "StoreError", .true, [], [.ref 56], .false, .none, .false⟩, #[.some (.ref 35), .none, .some (.str "StoreError" 216), .some (.str "StoreError" 224), .some (.builtin "Exception.__new__"), .some (.bool .true)]⟩),
  (55, ⟨.type "dict", .none, .dict #[E P "__module__" 239 (.str "raftkeep.errors" 194), E P "__firstlineno__" 243 (.int 9 242), E P "__static_attributes__" 244 (.ref 54), E P "__doc__" 245 .none] 2, #[]⟩),
  (56, ⟨.type "type", .none, .cls ⟨"BadOption", [.ref 44], [.ref 56, .ref 44, .ref 31, .type "Exception", .type "BaseException", .type "object"], 55, "BadOption", .true, [], [], .false, .none, .false⟩, #[.some (.ref 47), .none, .some (.str "BadOption" 232), .some (.str "BadOption" 240), .some (.builtin "Exception.__new__"), .some (.bool .true)]⟩),
  (67, ⟨.type "dict", .none, .dict #[E P "__module__" 255 (.str "raftkeep.errors" 194), E P "__firstlineno__" 259 (.int 11 258), E P "__static_attributes__" 260 (.ref 66), E P "__doc__" 261 .none] 2, #[]⟩),
  (68, ⟨.type "type", .none, .cls ⟨"RaftError", [.ref 31], [.ref 68, .ref 31, .type "Exception", .type "BaseException", .type "object"], 67, "RaftError", .true, [], [.ref 80, .ref 92, .ref 104, .ref 116, .ref 128, .ref 140], .false, .none, .false⟩, #[.some (.ref 59), .none, .some (.str "RaftError" 248), .some (.str "RaftError" 256), .some (.builtin "Exception.__new__"), .some (.bool .true)]⟩),
  (79, ⟨.type "dict", .none, .dict #[E P "__module__" 271 (.str "raftkeep.errors" 194), E P "__firstlineno__" 275 (.int 13 274), E P "__static_attributes__" 276 (.ref 78), E P "__doc__" 277 .none] 2, #[]⟩),
  (80, ⟨.type "type", .none, .cls ⟨"Compacted", [.ref 68], [.ref 80, .ref 68, .ref 31, .type "Exception", .type "BaseException", .type "object"], 79, "Compacted", .true, [], [], .false, .none, .false⟩, #[.some (.ref 71), .none, .some (.str "Compacted" 264), .some (.str "Compacted" 272), .some (.builtin "Exception.__new__"), .some (.bool .true)]⟩),
  (91, ⟨.type "dict", .none, .dict #[E P "__module__" 287 (.str "raftkeep.errors" 194), E P "__firstlineno__" 291 (.int 15 290), E P "__static_attributes__" 292 (.ref 90), E P "__doc__" 293 .none] 2, #[]⟩),
  (92, ⟨.type "type", .none, .cls ⟨"Unavailable", [.ref 68], [.ref 92, .ref 68, .ref 31, .type "Exception", .type "BaseException", .type "object"], 91, "Unavailable", .true, [], [], .false, .none, .false⟩, #[.some (.ref 83), .none, .some (.str "Unavailable" 280), .some (.str "Unavailable" 288), .some (.builtin "Exception.__new__"), .some (.bool .true)]⟩),
  (103, ⟨.type "dict", .none, .dict #[E P "__module__" 303 (.str "raftkeep.errors" 194), E P "__firstlineno__" 307 (.int 17 306), E P "__static_attributes__" 308 (.ref 102), E P "__doc__" 309 .none] 2, #[]⟩),
  (104, ⟨.type "type", .none, .cls ⟨"SnapOutOfDate", [.ref 68], [.ref 104, .ref 68, .ref 31, .type "Exception", .type "BaseException", .type "object"], 103, "SnapOutOfDate", .true, [], [], .false, .none, .false⟩, #[.some (.ref 95), .none, .some (.str "SnapOutOfDate" 296), .some (.str "SnapOutOfDate" 304), .some (.builtin "Exception.__new__"), .some (.bool .true)]⟩),
  (115, ⟨.type "dict", .none, .dict #[E P "__module__" 319 (.str "raftkeep.errors" 194), E P "__firstlineno__" 323 (.int 19 322), E P "__static_attributes__" 324 (.ref 114), E P "__doc__" 325 .none] 2, #[]⟩),
  (116, ⟨.type "type", .none, .cls ⟨"SnapNotReady", [.ref 68], [.ref 116, .ref 68, .ref 31, .type "Exception", .type "BaseException", .type "object"], 115, "SnapNotReady", .true, [], [], .false, .none, .false⟩, #[.some (.ref 107), .none, .some (.str "SnapNotReady" 312), .some (.str "SnapNotReady" 320), .some (.builtin "Exception.__new__"), .some (.bool .true)]⟩),
  (127, ⟨.type "dict", .none, .dict #[E P "__module__" 335 (.str "raftkeep.errors" 194), E P "__firstlineno__" 339 (.int 21 338), E P "__static_attributes__" 340 (.ref 126), E P "__doc__" 341 .none] 2, #[]⟩),
  (128, ⟨.type "type", .none, .cls ⟨"LogGap", [.ref 68], [.ref 128, .ref 68, .ref 31, .type "Exception", .type "BaseException", .type "object"], 127, "LogGap", .true, [], [], .false, .none, .false⟩, #[.some (.ref 119), .none, .some (.str "LogGap" 328), .some (.str "LogGap" 336), .some (.builtin "Exception.__new__"), .some (.bool .true)]⟩),
  (139, ⟨.type "dict", .none, .dict #[E P "__module__" 351 (.str "raftkeep.errors" 194), E P "__firstlineno__" 355 (.int 23 354), E P "__static_attributes__" 356 (.ref 138), E P "__doc__" 357 .none] 2, #[]⟩),
  (140, ⟨.type "type", .none, .cls ⟨"LogPanic", [.ref 68], [.ref 140, .ref 68, .ref 31, .type "Exception", .type "BaseException", .type "object"], 139, "LogPanic", .true, [], [], .false, .none, .false⟩, #[.some (.ref 131), .none, .some (.str "LogPanic" 344), .some (.str "LogPanic" 352), .some (.builtin "Exception.__new__"), .some (.bool .true)]⟩),
  (148, ⟨.type "code", .none, .fields #[.str "varint_length" 364, .str "varint_length" 365, .str "/claim/cut.py" 366, .int 27 0, .int 1 0, .int 0 0, .int 0 0, .int 3 0, .ref 143, .bool .true, .int 181 0, .ref 144, .none, .ref 145, .ref 146, .ref 147, .int 369 0, .int 27 0, .str "/claim/cut.py" 370], #[]⟩),
  (149, ⟨.type "function", .none, .func (FD (ft 14) "varint_length" 3 [] .none .none .none (.str "raftkeep.octets" 360) .none (.ref 148) .none 0), #[]⟩),
  (155, ⟨.type "code", .none, .fields #[.str "rising" 376, .str "rising" 377, .str "/claim/cut.py" 378, .int 37 0, .int 1 0, .int 0 0, .int 0 0, .int 3 0, .ref 150, .bool .true, .int 181 0, .ref 151, .none, .ref 152, .ref 153, .ref 154, .int 382 0, .int 37 0, .str "/claim/cut.py" 383], #[]⟩),
  (156, ⟨.type "function", .none, .func (FD (ft 17) "rising" 3 [] .none .none .none (.str "raftkeep.messages" 372) .none (.ref 155) .none 0), #[]⟩),
  (169, ⟨.type "code", .none, .fields #[.str "__init__" 397, .str "Entry.__init__" 398, .str "/claim/cut.py" 399, .int 45 0, .int 5 0, .int 0 0, .int 0 0, .int 3 0, .ref 164, .bool .true, .int 181 0, .ref 165, .none, .ref 166, .ref 167, .ref 168, .int 405 0, .int 45 0, .str "/claim/cut.py" 406], #[]⟩),
  (170, ⟨.type "function", .none, .func (FD (fm 18 0) "Entry.__init__" 3 [] .none .none .none (.str "raftkeep.messages" 372) .none (.ref 169) .none 0), #[]⟩),
  (176, ⟨.type "code", .none, .fields #[.str "row" 408, .str "Entry.row" 409, .str "/claim/cut.py" 410, .int 51 0, .int 1 0, .int 0 0, .int 0 0, .int 3 0, .ref 171, .bool .true, .int 181 0, .ref 172, .none, .ref 173, .ref 174, .ref 175, .int 412 0, .int 51 0, .str "/claim/cut.py" 413], #[]⟩),
  (177, ⟨.type "function", .none, .func (FD (fm 18 1) "Entry.row" 3 [] .none .none .none (.str "raftkeep.messages" 372) .none (.ref 176) .none 0), #[]⟩),
  (183, ⟨.type "code", .none, .fields #[.str "copy" 415, .str "Entry.copy" 416, .str "/claim/cut.py" 417, .int 54 0, .int 1 0, .int 0 0, .int 0 0, .int 3 0, .ref 178, .bool .true, .int 181 0, .ref 179, .none, .ref 180, .ref 181, .ref 182, .int 419 0, .int 54 0, .str "/claim/cut.py" 420], #[]⟩),
  (184, ⟨.type "function", .none, .func (FD (fm 18 2) "Entry.copy" 3 [] .none .none .none (.str "raftkeep.messages" 372) .none (.ref 183) .none 0), #[]⟩),
  (190, ⟨.type "code", .none, .fields #[.str "payload" 422, .str "Entry.payload" 423, .str "/claim/cut.py" 424, .int 57 0, .int 1 0, .int 0 0, .int 0 0, .int 3 0, .ref 185, .bool .true, .int 181 0, .ref 186, .none, .ref 187, .ref 188, .ref 189, .int 426 0, .int 57 0, .str "/claim/cut.py" 427], #[]⟩),
  (191, ⟨.type "function", .none, .func (FD (fm 18 3) "Entry.payload" 3 [] .none .none .none (.str "raftkeep.messages" 372) .none (.ref 190) .none 0), #[]⟩),
  (197, ⟨.type "code", .none, .fields #[.str "size" 429, .str "Entry.size" 430, .str "/claim/cut.py" 431, .int 60 0, .int 1 0, .int 0 0, .int 0 0, .int 3 0, .ref 192, .bool .true, .int 181 0, .ref 193, .none, .ref 194, .ref 195, .ref 196, .int 435 0, .int 60 0, .str "/claim/cut.py" 436], #[]⟩),
  (198, ⟨.type "function", .none, .func (FD (fm 18 4) "Entry.size" 3 [] .none .none .none (.str "raftkeep.messages" 372) .none (.ref 197) .none 0), #[]⟩),
  (200, ⟨.type "dict", .none, .dict #[E P "__module__" 392 (.str "raftkeep.messages" 372), E P "__firstlineno__" 396 (.int 43 395), E P "__init__" 407 (.ref 170), E P "row" 414 (.ref 177), E P "copy" 421 (.ref 184), E P "payload" 428 (.ref 191), E P "size" 437 (.ref 198), E P "__static_attributes__" 442 (.ref 199), E P "__dict__" 444 (.ref 202), E P "__weakref__" 446 (.ref 203), E P "__doc__" 447 .none] 4, #[]⟩),
  (201, ⟨.type "type", .none, .cls ⟨"Entry", [.type "object"], [.ref 201, .type "object"], 200, "Entry", .true, [], [], .false, .none, .false⟩, #[.none, .none, .some (.str "Entry" 385), .some (.str "Entry" 393), .some (.builtin "object.__new__"), .some (.bool .true)]⟩),
  (202, ⟨.type "getset_descriptor", .none, .fields #[.str "__dict__" 443, .ref 201, .builtin "function.__dict__", .builtin "function.__dict__#set"], #[]⟩),
  (203, ⟨.type "getset_descriptor", .none, .fields #[.str "__weakref__" 445, .ref 201, .builtin "ExceptionGroup.__weakref__", .none], #[]⟩),
  (211, ⟨.type "code", .none, .fields #[.str "limit_size" 450, .str "limit_size" 451, .str "/claim/cut.py" 452, .int 64 0, .int 2 0, .int 0 0, .int 0 0, .int 3 0, .ref 206, .bool .true, .int 181 0, .ref 207, .none, .ref 208, .ref 209, .ref 210, .int 458 0, .int 64 0, .str "/claim/cut.py" 459], #[]⟩),
  (212, ⟨.type "function", .none, .func (FD (ft 19) "limit_size" 3 [] .none .none .none (.str "raftkeep.messages" 372) .none (.ref 211) .none 0), #[]⟩),
  (225, ⟨.type "code", .none, .fields #[.str "__init__" 473, .str "HardState.__init__" 474, .str "/claim/cut.py" 475, .int 75 0, .int 4 0, .int 0 0, .int 0 0, .int 3 0, .ref 220, .bool .true, .int 181 0, .ref 221, .none, .ref 222, .ref 223, .ref 224, .int 480 0, .int 75 0, .str "/claim/cut.py" 481], #[]⟩),
  (226, ⟨.type "function", .none, .func (FD (fm 20 0) "HardState.__init__" 3 [] .none .none .none (.str "raftkeep.messages" 372) .none (.ref 225) .none 0), #[]⟩),
  (232, ⟨.type "code", .none, .fields #[.str "row" 483, .str "HardState.row" 484, .str "/claim/cut.py" 485, .int 80 0, .int 1 0, .int 0 0, .int 0 0, .int 3 0, .ref 227, .bool .true, .int 181 0, .ref 228, .none, .ref 229, .ref 230, .ref 231, .int 487 0, .int 80 0, .str "/claim/cut.py" 488], #[]⟩),
  (233, ⟨.type "function", .none, .func (FD (fm 20 1) "HardState.row" 3 [] .none .none .none (.str "raftkeep.messages" 372) .none (.ref 232) .none 0), #[]⟩),
  (239, ⟨.type "code", .none, .fields #[.str "empty" 490, .str "HardState.empty" 491, .str "/claim/cut.py" 492, .int 83 0, .int 1 0, .int 0 0, .int 0 0, .int 3 0, .ref 234, .bool .true, .int 181 0, .ref 235, .none, .ref 236, .ref 237, .ref 238, .int 494 0, .int 83 0, .str "/claim/cut.py" 495], #[]⟩),
  (240, ⟨.type "function", .none, .func (FD (fm 20 2) "HardState.empty" 3 [] .none .none .none (.str "raftkeep.messages" 372) .none (.ref 239) .none 0), #[]⟩),
  (246, ⟨.type "code", .none, .fields #[.str "same" 497, .str "HardState.same" 498, .str "/claim/cut.py" 499, .int 86 0, .int 2 0, .int 0 0, .int 0 0, .int 3 0, .ref 241, .bool .true, .int 181 0, .ref 242, .none, .ref 243, .ref 244, .ref 245, .int 502 0, .int 86 0, .str "/claim/cut.py" 503], #[]⟩),
  (247, ⟨.type "function", .none, .func (FD (fm 20 3) "HardState.same" 3 [] .none .none .none (.str "raftkeep.messages" 372) .none (.ref 246) .none 0), #[]⟩),
  (253, ⟨.type "code", .none, .fields #[.str "copy" 505, .str "HardState.copy" 506, .str "/claim/cut.py" 507, .int 89 0, .int 1 0, .int 0 0, .int 0 0, .int 3 0, .ref 248, .bool .true, .int 181 0, .ref 249, .none, .ref 250, .ref 251, .ref 252, .int 509 0, .int 89 0, .str "/claim/cut.py" 510], #[]⟩),
  (254, ⟨.type "function", .none, .func (FD (fm 20 4) "HardState.copy" 3 [] .none .none .none (.str "raftkeep.messages" 372) .none (.ref 253) .none 0), #[]⟩),
  (256, ⟨.type "dict", .none, .dict #[E P "__module__" 468 (.str "raftkeep.messages" 372), E P "__firstlineno__" 472 (.int 73 471), E P "__init__" 482 (.ref 226), E P "row" 489 (.ref 233), E P "empty" 496 (.ref 240), E P "same" 504 (.ref 247), E P "copy" 511 (.ref 254), E P "__static_attributes__" 515 (.ref 255), E P "__dict__" 517 (.ref 258), E P "__weakref__" 519 (.ref 259), E P "__doc__" 520 .none] 4, #[]⟩),
  (257, ⟨.type "type", .none, .cls ⟨"HardState", [.type "object"], [.ref 257, .type "object"], 256, "HardState", .true, [], [], .false, .none, .false⟩, #[.none, .none, .some (.str "HardState" 461), .some (.str "HardState" 469), .some (.builtin "object.__new__"), .some (.bool .true)]⟩),
  (258, ⟨.type "getset_descriptor", .none, .fields #[.str "__dict__" 516, .ref 257, .builtin "function.__dict__", .builtin "function.__dict__#set"], #[]⟩),
  (259, ⟨.type "getset_descriptor", .none, .fields #[.str "__weakref__" 518, .ref 257, .builtin "ExceptionGroup.__weakref__", .none], #[]⟩),
  (274, ⟨.type "code", .none, .fields #[.str "__init__" 535, .str "ConfState.__init__" 536, .str "/claim/cut.py" 537, .int 93 0, .int 6 0, .int 0 0, .int 0 0, .int 3 0, .ref 269, .bool .true, .int 181 0, .ref 270, .none, .ref 271, .ref 272, .ref 273, .int 544 0, .int 93 0, .str "/claim/cut.py" 545], #[]⟩),
  (275, ⟨.type "function", .none, .func (FD (fm 21 0) "ConfState.__init__" 3 [] .none .none .none (.str "raftkeep.messages" 372) .none (.ref 274) .none 0), #[]⟩),
  (281, ⟨.type "code", .none, .fields #[.str "row" 547, .str "ConfState.row" 548, .str "/claim/cut.py" 549, .int 100 0, .int 1 0, .int 0 0, .int 0 0, .int 3 0, .ref 276, .bool .true, .int 181 0, .ref 277, .none, .ref 278, .ref 279, .ref 280, .int 551 0, .int 100 0, .str "/claim/cut.py" 552], #[]⟩),
  (282, ⟨.type "function", .none, .func (FD (fm 21 1) "ConfState.row" 3 [] .none .none .none (.str "raftkeep.messages" 372) .none (.ref 281) .none 0), #[]⟩),
  (288, ⟨.type "code", .none, .fields #[.str "copy" 554, .str "ConfState.copy" 555, .str "/claim/cut.py" 556, .int 103 0, .int 1 0, .int 0 0, .int 0 0, .int 3 0, .ref 283, .bool .true, .int 181 0, .ref 284, .none, .ref 285, .ref 286, .ref 287, .int 558 0, .int 103 0, .str "/claim/cut.py" 559], #[]⟩),
  (289, ⟨.type "function", .none, .func (FD (fm 21 2) "ConfState.copy" 3 [] .none .none .none (.str "raftkeep.messages" 372) .none (.ref 288) .none 0), #[]⟩),
  (291, ⟨.type "dict", .none, .dict #[E P "__module__" 530 (.str "raftkeep.messages" 372), E P "__firstlineno__" 534 (.int 91 533), E P "__init__" 546 (.ref 275), E P "row" 553 (.ref 282), E P "copy" 560 (.ref 289), E P "__static_attributes__" 566 (.ref 290), E P "__dict__" 568 (.ref 293), E P "__weakref__" 570 (.ref 294), E P "__doc__" 571 .none] 4, #[]⟩),
  (292, ⟨.type "type", .none, .cls ⟨"ConfState", [.type "object"], [.ref 292, .type "object"], 291, "ConfState", .true, [], [], .false, .none, .false⟩, #[.none, .none, .some (.str "ConfState" 523), .some (.str "ConfState" 531), .some (.builtin "object.__new__"), .some (.bool .true)]⟩),
  (293, ⟨.type "getset_descriptor", .none, .fields #[.str "__dict__" 567, .ref 292, .builtin "function.__dict__", .builtin "function.__dict__#set"], #[]⟩),
  (294, ⟨.type "getset_descriptor", .none, .fields #[.str "__weakref__" 569, .ref 292, .builtin "ExceptionGroup.__weakref__", .none], #[]⟩),
  (309, ⟨.type "code", .none, .fields #[.str "__init__" 586, .str "Snapshot.__init__" 587, .str "/claim/cut.py" 588, .int 107 0, .int 5 0, .int 0 0, .int 0 0, .int 3 0, .ref 304, .bool .true, .int 181 0, .ref 305, .none, .ref 306, .ref 307, .ref 308, .int 594 0, .int 107 0, .str "/claim/cut.py" 595], #[]⟩),
  (310, ⟨.type "function", .none, .func (FD (fm 22 0) "Snapshot.__init__" 3 [] .none .none .none (.str "raftkeep.messages" 372) .none (.ref 309) .none 0), #[]⟩),
  (316, ⟨.type "code", .none, .fields #[.str "row" 597, .str "Snapshot.row" 598, .str "/claim/cut.py" 599, .int 113 0, .int 1 0, .int 0 0, .int 0 0, .int 3 0, .ref 311, .bool .true, .int 181 0, .ref 312, .none, .ref 313, .ref 314, .ref 315, .int 601 0, .int 113 0, .str "/claim/cut.py" 602], #[]⟩),
  (317, ⟨.type "function", .none, .func (FD (fm 22 1) "Snapshot.row" 3 [] .none .none .none (.str "raftkeep.messages" 372) .none (.ref 316) .none 0), #[]⟩),
  (323, ⟨.type "code", .none, .fields #[.str "empty" 604, .str "Snapshot.empty" 605, .str "/claim/cut.py" 606, .int 116 0, .int 1 0, .int 0 0, .int 0 0, .int 3 0, .ref 318, .bool .true, .int 181 0, .ref 319, .none, .ref 320, .ref 321, .ref 322, .int 608 0, .int 116 0, .str "/claim/cut.py" 609], #[]⟩),
  (324, ⟨.type "function", .none, .func (FD (fm 22 2) "Snapshot.empty" 3 [] .none .none .none (.str "raftkeep.messages" 372) .none (.ref 323) .none 0), #[]⟩),
  (330, ⟨.type "code", .none, .fields #[.str "copy" 611, .str "Snapshot.copy" 612, .str "/claim/cut.py" 613, .int 119 0, .int 1 0, .int 0 0, .int 0 0, .int 3 0, .ref 325, .bool .true, .int 181 0, .ref 326, .none, .ref 327, .ref 328, .ref 329, .int 615 0, .int 119 0, .str "/claim/cut.py" 616], #[]⟩),
  (331, ⟨.type "function", .none, .func (FD (fm 22 3) "Snapshot.copy" 3 [] .none .none .none (.str "raftkeep.messages" 372) .none (.ref 330) .none 0), #[]⟩),
  (333, ⟨.type "dict", .none, .dict #[E P "__module__" 581 (.str "raftkeep.messages" 372), E P "__firstlineno__" 585 (.int 105 584), E P "__init__" 596 (.ref 310), E P "row" 603 (.ref 317), E P "empty" 610 (.ref 324), E P "copy" 617 (.ref 331), E P "__static_attributes__" 622 (.ref 332), E P "__dict__" 624 (.ref 335), E P "__weakref__" 626 (.ref 336), E P "__doc__" 627 .none] 4, #[]⟩),
  (334, ⟨.type "type", .none, .cls ⟨"Snapshot", [.type "object"], [.ref 334, .type "object"], 333, "Snapshot", .true, [], [], .false, .none, .false⟩, #[.none, .none, .some (.str "Snapshot" 574), .some (.str "Snapshot" 582), .some (.builtin "object.__new__"), .some (.bool .true)]⟩),
  (335, ⟨.type "getset_descriptor", .none, .fields #[.str "__dict__" 623, .ref 334, .builtin "function.__dict__", .builtin "function.__dict__#set"], #[]⟩),
  (336, ⟨.type "getset_descriptor", .none, .fields #[.str "__weakref__" 625, .ref 334, .builtin "ExceptionGroup.__weakref__", .none], #[]⟩),
  (351, ⟨.type "code", .none, .fields #[.str "__init__" 644, .str "MemoryStorage.__init__" 645, .str "/claim/cut.py" 646, .int 124 0, .int 2 0, .int 0 0, .int 0 0, .int 3 0, .ref 346, .bool .true, .int 181 0, .ref 347, .none, .ref 348, .ref 349, .ref 350, .int 650 0, .int 124 0, .str "/claim/cut.py" 651], #[]⟩),
  (352, ⟨.type "function", .none, .func (FD (fm 24 0) "MemoryStorage.__init__" 3 [] .none .none .none (.str "raftkeep.raftlog" 630) .none (.ref 351) .none 0), #[]⟩),
  (358, ⟨.type "code", .none, .fields #[.str "initial_state" 653, .str "MemoryStorage.initial_state" 654, .str "/claim/cut.py" 655, .int 135 0, .int 1 0, .int 0 0, .int 0 0, .int 3 0, .ref 353, .bool .true, .int 181 0, .ref 354, .none, .ref 355, .ref 356, .ref 357, .int 657 0, .int 135 0, .str "/claim/cut.py" 658], #[]⟩),
  (359, ⟨.type "function", .none, .func (FD (fm 24 1) "MemoryStorage.initial_state" 3 [] .none .none .none (.str "raftkeep.raftlog" 630) .none (.ref 358) .none 0), #[]⟩),
  (365, ⟨.type "code", .none, .fields #[.str "first_index" 660, .str "MemoryStorage.first_index" 661, .str "/claim/cut.py" 662, .int 138 0, .int 1 0, .int 0 0, .int 0 0, .int 3 0, .ref 360, .bool .true, .int 181 0, .ref 361, .none, .ref 362, .ref 363, .ref 364, .int 664 0, .int 138 0, .str "/claim/cut.py" 665], #[]⟩),
  (366, ⟨.type "function", .none, .func (FD (fm 24 2) "MemoryStorage.first_index" 3 [] .none .none .none (.str "raftkeep.raftlog" 630) .none (.ref 365) .none 0), #[]⟩),
  (372, ⟨.type "code", .none, .fields #[.str "last_index" 667, .str "MemoryStorage.last_index" 668, .str "/claim/cut.py" 669, .int 141 0, .int 1 0, .int 0 0, .int 0 0, .int 3 0, .ref 367, .bool .true, .int 181 0, .ref 368, .none, .ref 369, .ref 370, .ref 371, .int 671 0, .int 141 0, .str "/claim/cut.py" 672], #[]⟩),
  (373, ⟨.type "function", .none, .func (FD (fm 24 3) "MemoryStorage.last_index" 3 [] .none .none .none (.str "raftkeep.raftlog" 630) .none (.ref 372) .none 0), #[]⟩),
  (379, ⟨.type "code", .none, .fields #[.str "entries_between" 674, .str "MemoryStorage.entries_between" 675, .str "/claim/cut.py" 676, .int 144 0, .int 4 0, .int 0 0, .int 0 0, .int 3 0, .ref 374, .bool .true, .int 181 0, .ref 375, .none, .ref 376, .ref 377, .ref 378, .int 682 0, .int 144 0, .str "/claim/cut.py" 683], #[]⟩),
  (380, ⟨.type "function", .none, .func (FD (fm 24 4) "MemoryStorage.entries_between" 3 [] .none .none .none (.str "raftkeep.raftlog" 630) .none (.ref 379) .none 0), #[]⟩),
  (386, ⟨.type "code", .none, .fields #[.str "term_at" 685, .str "MemoryStorage.term_at" 686, .str "/claim/cut.py" 687, .int 154 0, .int 2 0, .int 0 0, .int 0 0, .int 3 0, .ref 381, .bool .true, .int 181 0, .ref 382, .none, .ref 383, .ref 384, .ref 385, .int 690 0, .int 154 0, .str "/claim/cut.py" 691], #[]⟩),
  (387, ⟨.type "function", .none, .func (FD (fm 24 5) "MemoryStorage.term_at" 3 [] .none .none .none (.str "raftkeep.raftlog" 630) .none (.ref 386) .none 0), #[]⟩),
  (393, ⟨.type "code", .none, .fields #[.str "snapshot" 693, .str "MemoryStorage.snapshot" 694, .str "/claim/cut.py" 695, .int 163 0, .int 1 0, .int 0 0, .int 0 0, .int 3 0, .ref 388, .bool .true, .int 181 0, .ref 389, .none, .ref 390, .ref 391, .ref 392, .int 697 0, .int 163 0, .str "/claim/cut.py" 698], #[]⟩),
  (394, ⟨.type "function", .none, .func (FD (fm 24 6) "MemoryStorage.snapshot" 3 [] .none .none .none (.str "raftkeep.raftlog" 630) .none (.ref 393) .none 0), #[]⟩),
  (400, ⟨.type "code", .none, .fields #[.str "set_hard" 700, .str "MemoryStorage.set_hard" 701, .str "/claim/cut.py" 702, .int 168 0, .int 2 0, .int 0 0, .int 0 0, .int 3 0, .ref 395, .bool .true, .int 181 0, .ref 396, .none, .ref 397, .ref 398, .ref 399, .int 705 0, .int 168 0, .str "/claim/cut.py" 706], #[]⟩),
  (401, ⟨.type "function", .none, .func (FD (fm 24 7) "MemoryStorage.set_hard" 3 [] .none .none .none (.str "raftkeep.raftlog" 630) .none (.ref 400) .none 0), #[]⟩),
  (407, ⟨.type "code", .none, .fields #[.str "append" 708, .str "MemoryStorage.append" 709, .str "/claim/cut.py" 710, .int 171 0, .int 2 0, .int 0 0, .int 0 0, .int 3 0, .ref 402, .bool .true, .int 181 0, .ref 403, .none, .ref 404, .ref 405, .ref 406, .int 716 0, .int 171 0, .str "/claim/cut.py" 717], #[]⟩),
  (408, ⟨.type "function", .none, .func (FD (fm 24 8) "MemoryStorage.append" 3 [] .none .none .none (.str "raftkeep.raftlog" 630) .none (.ref 407) .none 0), #[]⟩),
  (414, ⟨.type "code", .none, .fields #[.str "apply_snapshot" 719, .str "MemoryStorage.apply_snapshot" 720, .str "/claim/cut.py" 721, .int 188 0, .int 2 0, .int 0 0, .int 0 0, .int 3 0, .ref 409, .bool .true, .int 181 0, .ref 410, .none, .ref 411, .ref 412, .ref 413, .int 724 0, .int 188 0, .str "/claim/cut.py" 725], #[]⟩),
  (415, ⟨.type "function", .none, .func (FD (fm 24 9) "MemoryStorage.apply_snapshot" 3 [] .none .none .none (.str "raftkeep.raftlog" 630) .none (.ref 414) .none 0), #[]⟩),
  (421, ⟨.type "code", .none, .fields #[.str "create_snapshot" 727, .str "MemoryStorage.create_snapshot" 728, .str "/claim/cut.py" 729, .int 197 0, .int 4 0, .int 0 0, .int 0 0, .int 3 0, .ref 416, .bool .true, .int 181 0, .ref 417, .none, .ref 418, .ref 419, .ref 420, .int 735 0, .int 197 0, .str "/claim/cut.py" 736], #[]⟩),
  (422, ⟨.type "function", .none, .func (FD (fm 24 10) "MemoryStorage.create_snapshot" 3 [] .none .none .none (.str "raftkeep.raftlog" 630) .none (.ref 421) .none 0), #[]⟩),
  (428, ⟨.type "code", .none, .fields #[.str "compact" 738, .str "MemoryStorage.compact" 739, .str "/claim/cut.py" 740, .int 208 0, .int 2 0, .int 0 0, .int 0 0, .int 3 0, .ref 423, .bool .true, .int 181 0, .ref 424, .none, .ref 425, .ref 426, .ref 427, .int 744 0, .int 208 0, .str "/claim/cut.py" 745], #[]⟩),
  (429, ⟨.type "function", .none, .func (FD (fm 24 11) "MemoryStorage.compact" 3 [] .none .none .none (.str "raftkeep.raftlog" 630) .none (.ref 428) .none 0), #[]⟩),
  (435, ⟨.type "code", .none, .fields #[.str "row" 747, .str "MemoryStorage.row" 748, .str "/claim/cut.py" 749, .int 218 0, .int 1 0, .int 0 0, .int 0 0, .int 3 0, .ref 430, .bool .true, .int 181 0, .ref 431, .none, .ref 432, .ref 433, .ref 434, .int 753 0, .int 218 0, .str "/claim/cut.py" 754], #[]⟩),
  (436, ⟨.type "function", .none, .func (FD (fm 24 12) "MemoryStorage.row" 3 [] .none .none .none (.str "raftkeep.raftlog" 630) .none (.ref 435) .none 0), #[]⟩),
  (438, ⟨.type "dict", .none, .dict #[E P "__module__" 639 (.str "raftkeep.raftlog" 630), E P "__firstlineno__" 643 (.int 122 642), E P "__init__" 652 (.ref 352), E P "initial_state" 659 (.ref 359), E P "first_index" 666 (.ref 366), E P "last_index" 673 (.ref 373), E P "entries_between" 684 (.ref 380), E P "term_at" 692 (.ref 387), E P "snapshot" 699 (.ref 394), E P "set_hard" 707 (.ref 401), E P "append" 718 (.ref 408), E P "apply_snapshot" 726 (.ref 415), E P "create_snapshot" 737 (.ref 422), E P "compact" 746 (.ref 429), E P "row" 755 (.ref 436), E P "__static_attributes__" 762 (.ref 437), E P "__dict__" 764 (.ref 440), E P "__weakref__" 766 (.ref 441), E P "__doc__" 767 .none] 4, #[]⟩),
  (439, ⟨.type "type", .none, .cls ⟨"MemoryStorage", [.type "object"], [.ref 439, .type "object"], 438, "MemoryStorage", .true, [], [], .false, .none, .false⟩, #[.none, .none, .some (.str "MemoryStorage" 632), .some (.str "MemoryStorage" 640), .some (.builtin "object.__new__"), .some (.bool .true)]⟩),
  (440, ⟨.type "getset_descriptor", .none, .fields #[.str "__dict__" 763, .ref 439, .builtin "function.__dict__", .builtin "function.__dict__#set"], #[]⟩),
  (441, ⟨.type "getset_descriptor", .none, .fields #[.str "__weakref__" 765, .ref 439, .builtin "ExceptionGroup.__weakref__", .none], #[]⟩),
  (449, ⟨.type "code", .none, .fields #[.str "_law_terms" 772, .str "_law_terms" 773, .str "/claim/cut.py" 774, .int 224 0, .int 0 0, .int 0 0, .int 0 0, .int 3 0, .ref 444, .bool .true, .int 181 0, .ref 445, .none, .ref 446, .ref 447, .ref 448, .int 775 0, .int 224 0, .str "/claim/cut.py" 776], #[]⟩),
  (450, ⟨.type "function", .none, .func (FD (ft 26) "_law_terms" 3 [] .none .none .none (.str "law_no0407_01" 770) .none (.ref 449) .none 0), #[]⟩),
  (456, ⟨.type "code", .none, .fields #[.str "_law_draw" 778, .str "_law_draw" 779, .str "/claim/cut.py" 780, .int 226 0, .int 2 0, .int 0 0, .int 0 0, .int 3 0, .ref 451, .bool .true, .int 181 0, .ref 452, .none, .ref 453, .ref 454, .ref 455, .int 783 0, .int 226 0, .str "/claim/cut.py" 784], #[]⟩),
  (457, ⟨.type "function", .none, .func (FD (ft 27) "_law_draw" 3 [] .none .none .none (.str "law_no0407_01" 770) .none (.ref 456) .none 0), #[]⟩),
  (463, ⟨.type "code", .none, .fields #[.str "_law_width" 786, .str "_law_width" 787, .str "/claim/cut.py" 788, .int 228 0, .int 1 0, .int 0 0, .int 0 0, .int 3 0, .ref 458, .bool .true, .int 181 0, .ref 459, .none, .ref 460, .ref 461, .ref 462, .int 790 0, .int 228 0, .str "/claim/cut.py" 791], #[]⟩),
  (464, ⟨.type "function", .none, .func (FD (ft 28) "_law_width" 3 [] .none .none .none (.str "law_no0407_01" 770) .none (.ref 463) .none 0), #[]⟩),
  (468, ⟨.type "code", .none, .fields #[.str "_law_page" 793, .str "_law_page" 794, .str "/claim/cut.py" 795, .int 234 0, .int 2 0, .int 0 0, .int 0 0, .int 3 0, .ref 465, .bool .true, .int 181 0, .ref 466, .none, .none, .none, .ref 467, .int 796 0, .int 234 0, .str "/claim/cut.py" 797], #[]⟩),
  (469, ⟨.type "function", .none, .func (FD (ft 29) "_law_page" 3 [] .none .none .none (.str "law_no0407_01" 770) .none (.ref 468) .none 0), #[]⟩),
  (473, ⟨.type "code", .none, .fields #[.str "_law_standing" 799, .str "_law_standing" 800, .str "/claim/cut.py" 801, .int 238 0, .int 1 0, .int 0 0, .int 0 0, .int 3 0, .ref 470, .bool .true, .int 181 0, .ref 471, .none, .none, .none, .ref 472, .int 802 0, .int 238 0, .str "/claim/cut.py" 803], #[]⟩),
  (474, ⟨.type "function", .none, .func (FD (ft 30) "_law_standing" 3 [] .none .none .none (.str "law_no0407_01" 770) .none (.ref 473) .none 0), #[]⟩),
  (478, ⟨.type "code", .none, .fields #[.str "_law_tells" 805, .str "_law_tells" 806, .str "/claim/cut.py" 807, .int 254 0, .int 6 0, .int 0 0, .int 0 0, .int 3 0, .ref 475, .bool .true, .int 181 0, .ref 476, .none, .none, .none, .ref 477, .int 808 0, .int 254 0, .str "/claim/cut.py" 809], #[]⟩),
  (479, ⟨.type "function", .none, .func (FD (ft 31) "_law_tells" 3 [] .none .none .none (.str "law_no0407_01" 770) .none (.ref 478) .none 0), #[]⟩),
  (483, ⟨.type "code", .none, .fields #[.str "law" 811, .str "law" 812, .str "/claim/cut.py" 813, .int 303 0, .int 1 0, .int 0 0, .int 0 0, .int 3 0, .ref 480, .bool .true, .int 181 0, .ref 481, .none, .none, .none, .ref 482, .int 814 0, .int 303 0, .str "/claim/cut.py" 815], #[]⟩),
  (484, ⟨.type "function", .none, .func (FD (ft 32) "law" 3 [] .none .none .none (.str "law_no0407_01" 770) .none (.ref 483) .none 0), #[]⟩)]
noncomputable def heapA : List Addr := [2, 3, 20, 21, 30, 31, 32, 43, 44, 55, 56, 67, 68, 79, 80, 91, 92, 103, 104, 115, 116, 127, 128, 139, 140, 148, 149, 155, 156, 169, 170, 176, 177, 183, 184, 190, 191, 197, 198, 200, 201, 202, 203, 211, 212, 225, 226, 232, 233, 239, 240, 246, 247, 253, 254, 256, 257, 258, 259, 274, 275, 281, 282, 288, 289, 291, 292, 293, 294, 309, 310, 316, 317, 323, 324, 330, 331, 333, 334, 335, 336, 351, 352, 358, 359, 365, 366, 372, 373, 379, 380, 386, 387, 393, 394, 400, 401, 407, 408, 414, 415, 421, 422, 428, 429, 435, 436, 438, 439, 440, 441, 449, 450, 456, 457, 463, 464, 468, 469, 473, 474, 478, 479, 483, 484]
noncomputable abbrev PP : Program := PySem.Challenge.rw_no0407_01.row.toRowW.prog
noncomputable def vw : Program := view pw [0, 2, 3, 4, 5, 6, 7, 8, 9, 10, 11, 13, 14, 16, 17, 18, 19, 20, 21, 22, 24, 26, 27, 28, 29, 30, 31, 32]
noncomputable def env0 : Env := { scope := pw.main.scope, locals := mainNs, globals := mainNs, cells := [], code := .ref 13, frame := some 14 }
noncomputable def o11 : Obj := ⟨.type "tuple", .none, .seq #[] 0, #[]⟩
noncomputable def o12 : Obj := ⟨.none, .none, .fields #[], #[]⟩
noncomputable def o13 : Obj := ⟨.type "code", .none, .fields #[.str "<module>" 182, .str "<module>" 183, .str "/claim/cut.py" 184, .int 1 0, .int 0 0, .int 0 0, .int 0 0, .int 0 0, .ref 11, .bool .false, .int 181 0, .ref 12, .none, .none, .none, .none, .int 185 0, .int 1 0, .str "/claim/cut.py" 186], #[]⟩
noncomputable def o14 : Obj := ⟨.type "frame", .none, .plain, #[.some (.ref 13), .some (.ref 3), .some (.ref 3), .none, .some (.str "__main__" 164), .none, .some (.ref 0)]⟩
noncomputable def heap0 (P : Params) : Heap := ⟨#[boot_o_0 P, boot_o_1 P, boot_o_2 P, boot_o_3 P, boot_o_4 P, boot_o_5 P, boot_o_6 P, boot_o_7 P, boot_o_8 P, boot_o_9 P, boot_o_10 P, o11, o12, o13, o14], {}⟩
noncomputable def tree0 (P : Params) : BT :=
  .node (boot_o_0 P)
    (.node (boot_o_1 P) (.node (boot_o_3 P) (.node (boot_o_7 P) .nil .nil) (.node o11 .nil .nil)) (.node (boot_o_5 P) (.node (boot_o_9 P) .nil .nil) (.node o13 .nil .nil)))
    (.node (boot_o_2 P) (.node (boot_o_4 P) (.node (boot_o_8 P) .nil .nil) (.node o12 .nil .nil)) (.node (boot_o_6 P) (.node (boot_o_10 P) .nil .nil) (.node o14 .nil .nil)))
noncomputable abbrev z0 : Pos := ⟨0, 0, 0, 0⟩
noncomputable abbrev z1 : Pos := ⟨303, 0, 400, 15⟩
noncomputable abbrev cE : Code := .body (behindTheImports PP) env0
noncomputable abbrev B0 : List Frame := [topFrame z0]
theorem heapA_eq (P : Params) : heapA = (heapK P).map (·.1) := by kernel_rfl
noncomputable def HK : Hook := kHook heapK heapA heapA_eq
noncomputable abbrev XtK (s : Shared) : Bool := xlAt vw [] s && recOk (RowW.records PySem.Challenge.rw_no0407_01.row.toRowW) s
theorem open0 (w : World) : (fencedOpening treeTable PP w 9176).map (fun s => (s.heap, s.gens, s.drawn, s.toks)) = some (boot_heap w.params, #[], boot_drawn, boot_toks) :=
  boot_open (p := PP) (N := 9176) (by kernel_rfl) (by decide) (fun s => rfl) w
theorem size0 (w : World) : ((boot_heap w.params).isNs mainGlobals && (#[] : Array GenState).size == 0, (boot_heap w.params).objs.size, (boot_heap w.params).nsMap mainGlobals "__annotations__") = (true, 11, some (.ref 6)) := by kernel_rfl
theorem pre0 (w : World) : (fun os : OsState => topGo treeTable PP w 11 (some (.ref 6)) 12 ⟨boot_heap w.params, #[], boot_drawn, boot_toks, os⟩ (topStub PP)) = fun os => some (⟨heap0 w.params, #[], {}, 187, os⟩, ⟨denote treeTable cE, cE, z0, B0⟩) := by kernel_rfl
theorem block0 (w : World) : (fun os : OsState => segRun treeTable PP w 11 (some (.ref 6)) 1 1 ⟨heap0 w.params, #[], {}, 187, os⟩ (blockOf (behindTheImports PP) env0 cE z0 B0)) = fun os => some (.next, SharedT.abs ⟨tree0 w.params, 15, {}, #[], {}, 187, os⟩, cE, z0) := by kernel_rfl
/-- what is looked at behind the run -/
noncomputable abbrev looks0 (w : World) (s : Shared) := (staticsOk (importedModules PP.main.body) (boot_heap w.params) s.heap && namesBound PP s.heap && gensDone s && laidKept (boot_heap w.params) s.heap, openSeen vw [] (importedModules PP.main.body) XtK true s, HK.obs s)
noncomputable abbrev end0 (w : World) (r : Flow × SharedT × Code × Pos) := (r.1, r.2.2.1, r.2.2.2, (topRun treeTable PP w 11 (some (.ref 6)) 2 r.2.1.abs ⟨doneF .next, cE, z1, B0⟩).map (looks0 w))
set_option maxHeartbeats 0 in
theorem run0 (w : World) : (fun os : OsState => (PySem.W.Fast.tw10110043849684766642 PySem.W.Fast.tw14364793385576792824 PP w 11 (some (.ref 6)) 1 5000 ⟨tree0 w.params, 15, {}, #[], {}, 187, os⟩ (piecesOf (behindTheImports PP) env0 cE z0 B0)).map (end0 w)) = fun _ => some (.next, cE, z1, some (true, openGood vw [], HK.val w)) := by kernel_rfl
theorem run1 (w : World) : (fun os : OsState => (segRunT treeTable PP w 11 (some (.ref 6)) 1 5000 ⟨tree0 w.params, 15, {}, #[], {}, 187, os⟩ (piecesOf (behindTheImports PP) env0 cE z0 B0)).map (end0 w)) = fun _ => some (.next, cE, z1, some (true, openGood vw [], HK.val w)) := by
  rw [PySem.W.Fast.te10110043849684766642]
  have h := run0 w
  rw [← PySem.W.Fast.te14364793385576792824] at h
  exact h
theorem run2 (w : World) (os : OsState) : ∃ r, segRunT treeTable PP w 11 (some (.ref 6)) 1 5000 ⟨tree0 w.params, 15, {}, #[], {}, 187, os⟩ (piecesOf (behindTheImports PP) env0 cE z0 B0) = some r ∧ end0 w r = (.next, cE, z1, some (true, openGood vw [], HK.val w)) :=
  Option.map_eq_some_iff.mp (congrFun (run1 w) os)
theorem run3 (w : World) (os : OsState) : ∃ s s₁, segRunT treeTable PP w 11 (some (.ref 6)) 1 5000 ⟨tree0 w.params, 15, {}, #[], {}, 187, os⟩ (piecesOf (behindTheImports PP) env0 cE z0 B0) = some (.next, s, cE, z1) ∧
   topRun treeTable PP w 11 (some (.ref 6)) 2 s.abs ⟨doneF .next, cE, z1, B0⟩ = some s₁ ∧ looks0 w s₁ = (true, openGood vw [], HK.val w) := by
  obtain ⟨⟨fl, sT, c, q⟩, hr, hE⟩ := run2 w os
  have he : (fl, c, q, (topRun treeTable PP w 11 (some (.ref 6)) 2 sT.abs ⟨doneF .next, cE, z1, B0⟩).map (looks0 w)) = (Flow.next, cE, z1, some (true, openGood vw [], HK.val w)) := hE
  injection he with e1 he
  injection he with e2 he
  injection he with e3 he
  subst e1 e2 e3
  obtain ⟨s₁, hf, hl⟩ := Option.map_eq_some_iff.mp he
  exact ⟨sT, s₁, hr, hf, hl⟩
theorem run4 (w : World) (os : OsState) : ∃ s₁, topRun treeTable PP w 11 (some (.ref 6)) (12 + (1 + (5000 + 2))) ⟨boot_heap w.params, #[], boot_drawn, boot_toks, os⟩ (topStub PP) = some s₁ ∧ looks0 w s₁ = (true, openGood vw [], HK.val w) := by
  obtain ⟨s, s₁, hr, hf, hl⟩ := run3 w os
  have k1 := piece_app (rest := []) (segRun_of hr) (piece_nil (N := 2) hf)
  rw [List.append_nil] at k1
  have k2 := piece_block (congrFun (block0 w) os) k1
  exact ⟨s₁, go_top (congrFun (pre0 w) os) k2, hl⟩
theorem leftO_run {p q : Program} {loose : List Str} {Xt : Shared → Bool} {α : Type} {Yf : Shared → α} {Ya : World → α} {N : Nat} {g0 : Bool} {H₀ : Params → Heap} {gs₀ : Array GenState} {d₀ : Drawn} {k₀ : Nat} {m₀ : Nat} {ann : Option Value} {M : Nat}
    (open_ : ∀ w : World, (fencedOpening treeTable p w N).map (fun s => (s.heap, s.gens, s.drawn, s.toks)) = some (H₀ w.params, gs₀, d₀, k₀))
    (size : ∀ w : World, ((H₀ w.params).isNs mainGlobals && gs₀.size == 0, (H₀ w.params).objs.size, (H₀ w.params).nsMap mainGlobals "__annotations__") = (true, m₀, ann))
    (run : ∀ (w : World) (os : OsState), ∃ s₁, topRun treeTable p w m₀ ann M ⟨H₀ w.params, gs₀, d₀, k₀, os⟩ (topStub p) = some s₁ ∧
      (staticsOk (importedModules p.main.body) (H₀ w.params) s₁.heap && namesBound p s₁.heap && gensDone s₁ && laidKept (H₀ w.params) s₁.heap, openSeen q loose (importedModules p.main.body) Xt g0 s₁, Yf s₁) = (true, openGood q loose, Ya w)) (le : Nat.ble M N = true) : LeftO p q loose Xt Yf Ya N g0 := fun w => by
  obtain ⟨⟨h, gs, d, k, os⟩, e, e'⟩ := Option.map_eq_some_iff.mp (open_ w)
  obtain ⟨rfl, rfl, rfl, rfl⟩ : h = H₀ w.params ∧ gs = gs₀ ∧ d = d₀ ∧ k = k₀ := by simpa using e'
  obtain ⟨z1, z2, z3⟩ : _ ∧ _ ∧ _ := by simpa only [Prod.mk.injEq] using size w
  obtain ⟨s₁, r0, hl⟩ := run w os
  obtain ⟨l1, l2, l3⟩ : _ ∧ _ ∧ _ := by simpa only [Prod.mk.injEq] using hl
  have r := topRun_mono (N - M) _ _ _ _ r0
  rw [show M + (N - M) = N by have := Nat.le_of_ble_eq_true le; omega] at r
  have t : topFrom treeTable p w N ⟨H₀ w.params, gs, d, k, os⟩ = some s₁ := by
    unfold topFrom
    dsimp only
    rw [z1, z2, z3, r]
    show (match staticsOk (importedModules p.main.body) (H₀ w.params) s₁.heap && namesBound p s₁.heap && gensDone s₁ && laidKept (H₀ w.params) s₁.heap with | true => _ | false => _) = _
    rw [l1]
  unfold openEnds
  rw [e]
  show (topFrom treeTable p w N _).map _ = _
  rw [t]
  exact congrArg some (Prod.ext l2 l3)
theorem left0 : LeftO PP vw [] XtK HK.obs HK.val 9176 := leftO_run open0 size0 run4 (by decide)
noncomputable def lawRec : DefRec := ft 32
theorem hd (hc : WalkO vw [] (XL vw []) HK.says PySem.Challenge.rw_no0407_01.row.toRowW lawRec [] fun f vs => PySem.call f vs) : PySem.Challenge.rw_no0407_01.Holds := by
  refine holds_law (by kernel_rfl) fun said => ?_
  refine holds_open (q := vw) (loose := []) (Xt := XtK) (XP := XL vw []) (Yf := HK.obs) (Ya := HK.val) (YP := HK.says) (d := lawRec) (kwd := []) (N := 9176) left0 HK.of HK.keeps (fun s e => xl_of s (Bool.and_eq_true_iff.mp e).1) XL.keeps (by kernel_rfl) (by kernel_rfl) (by kernel_rfl) (fun s e => recFacts_of (Bool.and_eq_true_iff.mp e).2) (by kernel_rfl) said (by kernel_rfl) ⟨rfl, rfl, rfl, rfl, rfl, by decide +kernel⟩ ?hw hc
  exact ⟨[.list [.int 3, .int 1]], by decide +kernel, by decide +kernel⟩
end
end

section
open PySem PySem.Calls PySem.W PyProof.Rows
/-- abstract data; `raw` stands for the value itself (a def, a class, a mutable object) -/
inductive D where
  | none
  | bool (b : Bool)
  | int (i : Int)
  | str (x : Str)
  | bytes (b : Array UInt8)
  | tup (ds : List D)
  | list (ds : List D)
  | inst (C : Addr) (fs : List (Str × D))
  | raw (v : Value)

noncomputable abbrev GM := Addr → Option Obj
noncomputable def GLe (G G' : GM) : Prop := ∀ a o, G a = some o → G' a = some o
noncomputable def Sub (G : GM) (h : Heap) : Prop := ∀ a o, G a = some o → h.get? a = some o
theorem GLe.refl (G : GM) : GLe G G := fun _ _ e => e
theorem GLe.trans {G G' G'' : GM} (a : GLe G G') (b : GLe G' G'') : GLe G G'' := fun x o e => b x o (a x o e)

mutual
inductive Rd (G : GM) : Value → D → Prop
  | none : Rd G .none .none
  | bool (b : Bool) : Rd G (.bool b) (.bool b)
  | int (i : Int) (t : Tok) : Rd G (.int i t) (.int i)
  | str (x : Str) (t : Tok) : Rd G (.str x t) (.str x)
  | bytes (b : Array UInt8) (t : Tok) : Rd G (.bytes b t) (.bytes b)
  | tup {a : Addr} {o : Obj} {vs : List Value} {n : Nat} {ds : List D} : G a = some o → o.cls = .type "tuple" → o.data = .seq vs.toArray n → RdL G vs ds → Rd G (.ref a) (.tup ds)
  | list {a : Addr} {o : Obj} {vs : List Value} {n : Nat} {ds : List D} : G a = some o → o.cls = .type "list" → o.data = .seq vs.toArray n → RdL G vs ds → Rd G (.ref a) (.list ds)
  | inst {a C dx : Addr} {es : List DictEntry} {n : Nat} {fs : List (Str × D)} : G a = some (instObj C dx) → G dx = some (dictOf es n) → RdF G es fs → Rd G (.ref a) (.inst C fs)
  | raw (v : Value) : Rd G v (.raw v)
inductive RdL (G : GM) : List Value → List D → Prop
  | nil : RdL G [] []
  | cons {v : Value} {vs : List Value} {d : D} {ds : List D} : Rd G v d → RdL G vs ds → RdL G (v :: vs) (d :: ds)
inductive RdF (G : GM) : List DictEntry → List (Str × D) → Prop
  | nil : RdF G [] []
  | cons {k : Str} {t : Tok} {hs : Int} {v : Value} {es : List DictEntry} {d : D} {fs : List (Str × D)} : Rd G v d → RdF G es fs → RdF G (⟨hs, .str k t, v⟩ :: es) ((k, d) :: fs)
end

mutual
theorem Rd.mono {G G' : GM} (k : GLe G G') : ∀ {v : Value} {d : D}, Rd G v d → Rd G' v d
  | _, _, .none => .none
  | _, _, .bool b => .bool b
  | _, _, .int i t => .int i t
  | _, _, .str x t => .str x t
  | _, _, .bytes b t => .bytes b t
  | _, _, .tup h1 h2 h3 r => .tup (k _ _ h1) h2 h3 (RdL.mono k r)
  | _, _, .list h1 h2 h3 r => .list (k _ _ h1) h2 h3 (RdL.mono k r)
  | _, _, .inst h1 h2 r => .inst (k _ _ h1) (k _ _ h2) (RdF.mono k r)
  | _, _, .raw v => .raw v
theorem RdL.mono {G G' : GM} (k : GLe G G') : ∀ {vs : List Value} {ds : List D}, RdL G vs ds → RdL G' vs ds
  | _, _, .nil => .nil
  | _, _, .cons h r => .cons (Rd.mono k h) (RdL.mono k r)
theorem RdF.mono {G G' : GM} (k : GLe G G') : ∀ {es : List DictEntry} {fs : List (Str × D)}, RdF G es fs → RdF G' es fs
  | _, _, .nil => .nil
  | _, _, .cons h r => .cons (Rd.mono k h) (RdF.mono k r)
end

section
variable {G : GM} {v : Value} {d : D} {vs ws : List Value} {ds es : List D}
theorem RdL.length (h : RdL G vs ds) : vs.length = ds.length := by
  induction vs generalizing ds with
  | nil => cases h; rfl
  | cons v vs ih =>
    cases h with
    | cons _ r => rw [List.length_cons, List.length_cons, ih r]
theorem RdL.append (h : RdL G vs ds) (k : RdL G ws es) : RdL G (vs ++ ws) (ds ++ es) := by
  induction vs generalizing ds with
  | nil => cases h; exact k
  | cons v vs ih =>
    cases h with
    | cons h r => exact .cons h (ih r)
theorem RdL.get (h : RdL G vs ds) {k : Nat} {d : D} (hk : ds[k]? = some d) : ∃ v, vs[k]? = some v ∧ Rd G v d := by
  induction vs generalizing ds k with
  | nil => cases h; cases hk
  | cons v vs ih =>
    cases h with
    | cons h r =>
      cases k with
      | zero => cases hk; exact ⟨v, rfl, h⟩
      | succ k => exact ih r hk
theorem RdL.take (h : RdL G vs ds) (k : Nat) : RdL G (vs.take k) (ds.take k) := by
  induction vs generalizing ds k with
  | nil => cases h; simp; exact .nil
  | cons v vs ih =>
    cases h with
    | cons h r =>
      cases k with
      | zero => exact .nil
      | succ k => exact .cons h (ih r k)
theorem RdL.drop (h : RdL G vs ds) (k : Nat) : RdL G (vs.drop k) (ds.drop k) := by
  induction vs generalizing ds k with
  | nil => cases h; simp; exact .nil
  | cons v vs ih =>
    cases h with
    | cons h r =>
      cases k with
      | zero => exact .cons h r
      | succ k => exact ih r k
theorem RdL.dropLast (h : RdL G vs ds) : RdL G vs.dropLast ds.dropLast := by
  rw [List.dropLast_eq_take, List.dropLast_eq_take, h.length]; exact h.take _
end

theorem getL_cons (x k : Str) (t : Tok) (hs : Int) (v : Value) (es : List DictEntry) : getL x (⟨hs, .str k t, v⟩ :: es) = if k = x then some (some v) else getL x es := by
  unfold getL
  rw [List.find?_cons, List.any_cons]
  by_cases q : k = x
  · have e : (DictEntry.mk hs (.str k t) v).key.isStr x = true := by simpa [Value.isStr] using q
    rw [e, if_pos q]
  · have e : (DictEntry.mk hs (.str k t) v).key.isStr x = false := by simpa [Value.isStr] using q
    have e2 : (DictEntry.mk hs (.str k t) v).refKey = false := rfl
    rw [e, e2, if_neg q, Bool.false_or]
theorem RdF.look {G : GM} {es : List DictEntry} {fs : List (Str × D)} (h : RdF G es fs) {x : Str} {d : D} (e : fs.lookup x = some d) : ∃ v, getL x es = some (some v) ∧ Rd G v d := by
  induction es generalizing fs with
  | nil => cases h; cases e
  | cons en es ih =>
    cases h with
    | @cons k t hs v _ d' fs' hd r =>
      rw [List.lookup_cons] at e
      rw [getL_cons]
      by_cases q : k = x
      · subst q
        rw [beq_self_eq_true] at e
        cases e
        rw [if_pos rfl]
        exact ⟨v, rfl, hd⟩
      · have q1 : (x == k) = false := by simpa using fun z => q z.symm
        rw [q1] at e
        rw [if_neg q]
        exact ih r e
theorem RdF.miss {G : GM} {es : List DictEntry} {fs : List (Str × D)} (h : RdF G es fs) {x : Str} (e : fs.lookup x = none) : getL x es = some none := by
  induction es generalizing fs with
  | nil => cases h; rfl
  | cons en es ih =>
    cases h with
    | @cons k t hs v _ d' fs' hd r =>
      rw [List.lookup_cons] at e
      rw [getL_cons]
      by_cases q : k = x
      · subst q
        rw [beq_self_eq_true] at e
        cases e
      · have q1 : (x == k) = false := by simpa using fun z => q z.symm
        rw [q1] at e
        rw [if_neg q]
        exact ih r e

/-- an attribute stored: in its place if it stands, at the end if not -/
noncomputable def put (x : Str) (d : D) : List (Str × D) → List (Str × D)
  | [] => [(x, d)]
  | p :: r => if p.1 = x then (p.1, d) :: r else p :: put x d r
theorem RdF.put {G : GM} {es : List DictEntry} {fs : List (Str × D)} (h : RdF G es fs) {x : Str} {hs : Int} {t : Tok} {v : Value} {d : D} (hd : Rd G v d) : RdF G (putL x hs (.str x t) v es) (Mine.put x d fs) := by
  induction es generalizing fs with
  | nil => cases h; exact .cons hd .nil
  | cons en es ih =>
    cases h with
    | @cons k t' hs' v' _ d' fs' hd' r =>
      unfold putL Mine.put
      by_cases q : k = x
      · have e : (DictEntry.mk hs' (.str k t') v').key.isStr x = true := by simpa [Value.isStr] using q
        rw [if_pos e, if_pos q]
        exact .cons hd r
      · have e : ¬ (DictEntry.mk hs' (.str k t') v').key.isStr x = true := by simpa [Value.isStr] using q
        rw [if_neg e, if_neg q]
        exact .cons hd' (ih r)
theorem RdF.length {G : GM} {es : List DictEntry} {fs : List (Str × D)} (h : RdF G es fs) : es.length = fs.length := by
  induction es generalizing fs with
  | nil => cases h; rfl
  | cons en es ih => cases h with | cons _ r => rw [List.length_cons, List.length_cons, ih r]

inductive MO where
  | list (ds : List D)
  | inst (C dx : Addr) (fs : List (Str × D))
  | obj (o : Obj)
noncomputable abbrev Led := List (Addr × MO)
noncomputable def MO.adr (a : Addr) : MO → List Addr
  | .list _ => [a]
  | .inst _ dx _ => [a, dx]
  | .obj _ => [a]
noncomputable def adrs (π : Led) : List Addr := π.flatMap fun p => p.2.adr p.1
noncomputable def MIn (G : GM) (h : Heap) (a : Addr) : MO → Prop
  | .list ds => ∃ vs n, h.get? a = some { cls := .type "list", data := .seq vs.toArray n } ∧ RdL G vs ds
  | .inst C dx fs => ∃ es n, h.get? a = some (instObj C dx) ∧ h.get? dx = some (dictOf es n) ∧ RdF G es fs
  | .obj o => h.get? a = some o

structure Stp (fr W : List Addr) (h h' : Heap) : Prop where
  keep : ∀ a o, h.get? a = some o → a ∉ W → a ∉ fr → h'.get? a = some o
  slot : ∀ a o, h.get? a = some o → a ∉ W → a ∈ fr → ∃ sl, h'.get? a = some { o with slots := sl }
  live : ∀ a, h'.get? a = none → h.get? a = none
/-- a step that may write to more, all of which is new or writable -/
theorem Stp.then {fr fr' W W' : List Addr} {h₁ h₂ h₃ : Heap} (x : Stp fr W h₁ h₂) (y : Stp fr' W' h₂ h₃) (hw : ∀ a ∈ W', h₁.get? a = none ∨ a ∈ W) (hf : ∀ a ∈ fr', h₁.get? a = none ∨ a ∈ fr) (hf' : ∀ a ∈ fr, a ∈ fr') : Stp fr W h₁ h₃ := by
  refine ⟨fun a o e n m => y.keep a o (x.keep a o e n m) (fun q => ?_) (fun q => ?_), fun a o e n m => ?_, fun a e => x.live a (y.live a e)⟩
  · rcases hw a q with z | z
    · rw [e] at z; cases z
    · exact n z
  · rcases hf a q with z | z
    · rw [e] at z; cases z
    · exact m z
  · obtain ⟨sl, e1⟩ := x.slot a o e n m
    have nW : a ∉ W' := fun q => by
      rcases hw a q with z | z
      · rw [e] at z; cases z
      · exact n z
    obtain ⟨sl', e2⟩ := y.slot a _ e1 nW (hf' a m)
    exact ⟨sl', e2⟩

structure Aft (fr : List Addr) (G : GM) (h : Heap) (W : List Addr) (G' : GM) (h' : Heap) (π : Led) : Prop where
  sub : Sub G' h'
  ext : GLe G G'
  new : ∀ a o, G' a = some o → G a = some o ∨ h.get? a = none
  stp : Stp fr W h h'
  led : ∀ p ∈ π, MIn G' h' p.1 p.2
  nodup : (adrs π).Nodup
  off : ∀ a ∈ adrs π, G' a = none ∧ a ∉ fr
  own : ∀ a ∈ adrs π, h.get? a = none ∨ a ∈ W
end

section
open PySem PySem.Calls PySem.W PyProof.Rows
/-- the world that the law's call stands in -/
structure Wo where
  prog : Program
  w : World
  K : Frag
  p : Program
  loose : List Str
  mg : Str → Option Value
  mb : Str → Option Value
  b : Heap
  kin : K.In b
  top : TopRead p loose mg mb b

noncomputable def fad (l : List Env) : List Addr := l.filterMap (·.frame)

structure Ctx where
  names : List (Str × NameKind)
  env : Env
  fs : List Env
  fr : List Addr
  G₀ : GM
  h₀ : Heap
  W : List Addr

noncomputable abbrev Loc := List (Option D)

structure COk (Ω : Wo) (Γ : Ctx) (A : Around) : Prop where
  frames : A.frames = some Γ.fs
  kind : Γ.env.scope.kind = .function
  glob : Γ.env.globals = mainGlobals
  blt : Γ.env.builtins = builtinsNs
  nms : Γ.env.scope.names = Γ.names
  nd : (Γ.names.map (·.1)).Nodup
  base : Sub Ω.b.get? Γ.h₀ ∧ GLe Ω.b.get? Γ.G₀
  wex : ∀ a ∈ Γ.W, ∃ o, Γ.h₀.get? a = some o

structure Rel (Γ : Ctx) (ρ : Loc) (π : Led) (G : GM) (h : Heap) : Prop where
  aft : Aft Γ.fr Γ.G₀ Γ.h₀ Γ.W G h π
  frs : h.FunFrames ({} : Heap) Γ.fs
  frSub : (∀ a ∈ Γ.fr, a ∈ fad Γ.fs) ∧ ∀ a ∈ fad Γ.fs, Γ.h₀.get? a = none ∨ a ∈ Γ.fr
  offF : ∀ a ∈ fad Γ.fs, G a = none ∧ a ∉ adrs π
  ns : ∃ m, h.Ns Γ.env.locals m ∧ ∀ (i : Nat) x d, Γ.names[i]? = some (x, .local) → ρ[i]? = some (some d) → ∃ v, m x = some v ∧ Rd G v d
  offL : G Γ.env.locals = none ∧ Γ.env.locals ∉ adrs π ∧ Γ.h₀.get? Γ.env.locals = none
  cl : ∀ c ∈ Γ.env.cells.map (·.2), (∃ o v, h.get? c = some o ∧ o.data = .cell v) ∧ G c = none ∧ c ∉ adrs π ∧ c ∉ fad Γ.fs ∧ c ≠ Γ.env.locals
  cv : ∀ (i : Nat) x k d, Γ.names[i]? = some (x, k) → (k = .cell ∨ k = .free) → ρ[i]? = some (some d) → ∃ c o v, Γ.env.cells.lookup x = some c ∧ h.get? c = some o ∧ o.data = .cell (some v) ∧ Rd G v d

section
variable {Ω : Wo} {Γ : Ctx} {A : Around} {ρ : Loc} {π : Led} {G : GM} {h : Heap}
theorem Rel.sub (R : Rel Γ ρ π G h) : Sub G h := R.aft.sub
theorem Rel.inG (R : Rel Γ ρ π G h) (C : COk Ω Γ A) : GLe Ω.b.get? G := C.base.2.trans R.aft.ext
theorem Rel.stays (R : Rel Γ ρ π G h) (C : COk Ω Γ A) : ∀ b o, Ω.b.get? b = some o → h.get? b = some o := fun b o e => R.sub b o (R.inG C b o e)
theorem Rel.kin (R : Rel Γ ρ π G h) (C : COk Ω Γ A) : Ω.K.In h := Ω.kin.keeps (R.stays C)
theorem Rel.top (R : Rel Γ ρ π G h) (C : COk Ω Γ A) : TopRead Ω.p Ω.loose Ω.mg Ω.mb h := Ω.top.keeps (R.stays C)

/-- one name at its place -/
inductive At : List (Str × NameKind) → Loc → Str → NameKind → D → Prop
  | here {x k d ns ρ} : At ((x, k) :: ns) (some d :: ρ) x k d
  | there {x k d y j o ns ρ} : At ns ρ x k d → At ((y, j) :: ns) (o :: ρ) x k d
theorem At.idx {ns : List (Str × NameKind)} {ρ : Loc} {x : Str} {k : NameKind} {d : D} (h : At ns ρ x k d) : ∃ i : Nat, ns[i]? = some (x, k) ∧ ρ[i]? = some (some d) := by
  induction h with
  | here => exact ⟨0, rfl, rfl⟩
  | there _ ih =>
    obtain ⟨i, a, b⟩ := ih
    exact ⟨i + 1, a, b⟩
theorem lookup_nodup {ns : List (Str × NameKind)} (nd : (ns.map (·.1)).Nodup) {i : Nat} {x : Str} {k : NameKind} (h : ns[i]? = some (x, k)) : ns.lookup x = some k := by
  induction ns generalizing i with
  | nil => cases h
  | cons p ns ih =>
    obtain ⟨y, j⟩ := p
    rw [List.map_cons, List.nodup_cons] at nd
    rw [List.lookup_cons]
    cases i with
    | zero => cases h; rw [beq_self_eq_true]
    | succ i =>
      have hm : x ∈ ns.map (·.1) := List.mem_map.mpr ⟨_, List.mem_of_getElem? h, rfl⟩
      have : (x == y) = false := by
        rw [beq_eq_false_iff_ne]
        rintro rfl
        exact nd.1 hm
      rw [this]
      exact ih nd.2 h
theorem COk.kindOf (C : COk Ω Γ A) {i : Nat} {x : Str} {k : NameKind} (h : Γ.names[i]? = some (x, k)) : Γ.env.kindOf x = some k := by
  unfold Env.kindOf
  rw [C.nms]
  exact lookup_nodup C.nd h
end

/-- an expression that changes nothing: its value -/
noncomputable def EvP (Ω : Wo) (Γ : Ctx) (A : Around) (ρ : Loc) (π : Led) (t : Sem Value) (d : D) : Prop :=
  ∀ (s : Shared) (G : GM) (Q E : Value → Shared → Prop), Rel Γ ρ π G s.heap →
    (∀ v G' h' tk', Rel Γ ρ π G' h' → GLe G G' → Rd G' v d → Q v { s with heap := h', toks := tk' }) → wpAny (model Ω.prog Ω.w) A t Q E s
/-- a test -/
noncomputable def TsP (Ω : Wo) (Γ : Ctx) (A : Around) (ρ : Loc) (π : Led) (t : Sem Bool) (c : Bool) : Prop :=
  ∀ (s : Shared) (G : GM) (Q : Bool → Shared → Prop) (E : Value → Shared → Prop), Rel Γ ρ π G s.heap →
    (∀ G' h' tk', Rel Γ ρ π G' h' → GLe G G' → Q c { s with heap := h', toks := tk' }) → wpAny (model Ω.prog Ω.w) A t Q E s
/-- a row of expressions -/
noncomputable def ElP (Ω : Wo) (Γ : Ctx) (A : Around) (ρ : Loc) (π : Led) (t : Sem (List Value)) (ds : List D) : Prop :=
  ∀ (s : Shared) (G : GM) (Q : List Value → Shared → Prop) (E : Value → Shared → Prop), Rel Γ ρ π G s.heap →
    (∀ vs G' h' tk', Rel Γ ρ π G' h' → GLe G G' → RdL G' vs ds → Q vs { s with heap := h', toks := tk' }) → wpAny (model Ω.prog Ω.w) A t Q E s

section
variable {Ω : Wo} {Γ : Ctx} {A : Around} {ρ : Loc} {π : Led}

theorem EvP.local {x : Str} {pos : Pos} {d : D} (C : COk Ω Γ A) (h : At Γ.names ρ x .local d) (hd : (x == ("__debug__" : Str)) = false := by decide) : EvP Ω Γ A ρ π (eval (.Name x pos) Γ.env) d := by
  intro s G Q E R hQ
  obtain ⟨i, hi, hr⟩ := h.idx
  obtain ⟨m, hm, hv⟩ := R.ns
  obtain ⟨v, e, r⟩ := hv i x d hi hr
  exact wpAny_Name (wpAny_loadName_local C.kind (C.kindOf hi) hm e (hQ v G s.heap s.toks R (GLe.refl G) r)) hd
theorem EvP.cell {x : Str} {pos : Pos} {d : D} (C : COk Ω Γ A) (h : At Γ.names ρ x .cell d) (hd : (x == ("__debug__" : Str)) = false := by decide) : EvP Ω Γ A ρ π (eval (.Name x pos) Γ.env) d := by
  intro s G Q E R hQ
  obtain ⟨i, hi, hr⟩ := h.idx
  obtain ⟨c, o, v, hc, ho, hd', r⟩ := R.cv i x .cell d hi (.inl rfl) hr
  exact wpAny_Name (wpAny_loadName_cell C.kind (C.kindOf hi) hc ⟨o, ho, hd'⟩ (hQ v G s.heap s.toks R (GLe.refl G) r)) hd
/-- a def or a class of the text's top -/
theorem EvP.glob {x : Str} {pos : Pos} {v : Value} (C : COk Ω Γ A) (hk : Γ.names.lookup x = some .globalImplicit) (e : nsIn Ω.K mainGlobals x = some (some v)) (hd : (x == ("__debug__" : Str)) = false := by decide) :
    EvP Ω Γ A ρ π (eval (.Name x pos) Γ.env) (.raw v) := by
  intro s G Q E R hQ
  have T := R.top C
  refine Name_function_global C.kind (by unfold Env.kindOf; rw [C.nms]; exact hk) (loadGlobal_global (by rw [C.glob]; exact T.g) (mg_of (R.kin C) T.g e) (hQ v G s.heap s.toks R (GLe.refl G) (.raw v))) hd
theorem EvP.blt {x : Str} {pos : Pos} {v : Value} (C : COk Ω Γ A) (hk : Γ.names.lookup x = some .globalImplicit) (e : nsIn Ω.K mainGlobals x = some none) (hv : bootBuiltins x = some v) (hn : x ≠ "__name__") (hd : (x == ("__debug__" : Str)) = false := by decide) :
    EvP Ω Γ A ρ π (eval (.Name x pos) Γ.env) (.raw v) := by
  intro s G Q E R hQ
  have T := R.top C
  refine Name_function_global C.kind (by unfold Env.kindOf; rw [C.nms]; exact hk) (loadGlobal_builtin (by rw [C.glob]; exact T.g) (mg_none_of (R.kin C) T.g e) (by rw [C.blt]; exact T.b) ((T.builtins x hn).trans hv) (hQ v G s.heap s.toks R (GLe.refl G) (.raw v))) hd

theorem EvP.cint {i : Int} {k : Nat} {pos : Pos} : EvP Ω Γ A ρ π (eval (.Constant (.int i) k pos) Γ.env) (.int i) := fun s G _ _ R hQ => wpAny_Constant_int (hQ _ G s.heap _ R (GLe.refl G) (.int ..))
theorem EvP.cnone {k : Nat} {pos : Pos} : EvP Ω Γ A ρ π (eval (.Constant .none k pos) Γ.env) .none := fun s G _ _ R hQ => wpAny_Constant_none (hQ _ G s.heap s.toks R (GLe.refl G) .none)
theorem EvP.cbool {b : Bool} {k : Nat} {pos : Pos} : EvP Ω Γ A ρ π (eval (.Constant (.bool b) k pos) Γ.env) (.bool b) := fun s G _ _ R hQ => wpAny_Constant_bool (hQ _ G s.heap s.toks R (GLe.refl G) (.bool b))
theorem EvP.cstr {x : Str} {k : Nat} {pos : Pos} : EvP Ω Γ A ρ π (eval (.Constant (.str x) k pos) Γ.env) (.str x) := fun s G _ _ R hQ => wpAny_Constant_str (hQ _ G s.heap _ R (GLe.refl G) (.str ..))
theorem EvP.cbytes {x : List UInt8} {k : Nat} {pos : Pos} : EvP Ω Γ A ρ π (eval (.Constant (.bytes x) k pos) Γ.env) (.bytes x.toArray) := fun s G _ _ R hQ => by
  show wpAny _ _ (mkTextBytes x.toArray) _ _ _
  exact wpAny_mkTextBytes (hQ _ G s.heap _ R (GLe.refl G) (.bytes ..))

theorem EvP.bin {l r : Expr} {op : Operator} {pos : Pos} {a b d : D} (h1 : EvP Ω Γ A ρ π (eval l Γ.env) a) (h2 : EvP Ω Γ A ρ π (eval r Γ.env) b)
    (h : ∀ s G u v Q E, Rel Γ ρ π G s.heap → Rd G u a → Rd G v b → (∀ v G' h' tk', Rel Γ ρ π G' h' → GLe G G' → Rd G' v d → Q v { s with heap := h', toks := tk' }) → wpAny (model Ω.prog Ω.w) A (binaryOp op u v) Q E s) :
    EvP Ω Γ A ρ π (eval (.BinOp l op r pos) Γ.env) d := by
  intro s G Q E R hQ
  refine wpAny_BinOp (h1 s G _ E R fun u G1 h1 tk1 R1 g1 r1 => h2 _ G1 _ E R1 fun v G2 h2 tk2 R2 g2 r2 => ?_)
  exact h _ G2 u v Q E R2 (r1.mono g2) r2 fun v G3 h3 tk3 R3 g3 r3 => hQ v G3 h3 tk3 R3 (g1.trans (g2.trans g3)) r3
theorem EvP.add {l r : Expr} {pos : Pos} {a b : Int} (h1 : EvP Ω Γ A ρ π (eval l Γ.env) (.int a)) (h2 : EvP Ω Γ A ρ π (eval r Γ.env) (.int b)) : EvP Ω Γ A ρ π (eval (.BinOp l .Add r pos) Γ.env) (.int (a + b)) :=
  h1.bin h2 fun s G u v Q E R r1 r2 hQ => by
    cases r1; cases r2
    exact add_int (hQ _ G s.heap _ R (GLe.refl G) (.int ..))
theorem EvP.sub {l r : Expr} {pos : Pos} {a b : Int} (h1 : EvP Ω Γ A ρ π (eval l Γ.env) (.int a)) (h2 : EvP Ω Γ A ρ π (eval r Γ.env) (.int b)) : EvP Ω Γ A ρ π (eval (.BinOp l .Sub r pos) Γ.env) (.int (a - b)) :=
  h1.bin h2 fun s G u v Q E R r1 r2 hQ => by
    cases r1; cases r2
    exact sub_int (hQ _ G s.heap _ R (GLe.refl G) (.int ..))
theorem EvP.mul {l r : Expr} {pos : Pos} {a b : Int} (h1 : EvP Ω Γ A ρ π (eval l Γ.env) (.int a)) (h2 : EvP Ω Γ A ρ π (eval r Γ.env) (.int b)) (ok : IntMulOk a b) : EvP Ω Γ A ρ π (eval (.BinOp l .Mult r pos) Γ.env) (.int (a * b)) :=
  h1.bin h2 fun s G u v Q E R r1 r2 hQ => by
    cases r1; cases r2
    exact mul_int (hQ _ G s.heap _ R (GLe.refl G) (.int ..)) ok
theorem EvP.fdiv {l r : Expr} {pos : Pos} {a b : Int} (h1 : EvP Ω Γ A ρ π (eval l Γ.env) (.int a)) (h2 : EvP Ω Γ A ρ π (eval r Γ.env) (.int b)) (h0 : b ≠ 0) (ok : Builtin.divisionGoesByPylong a b = false) : EvP Ω Γ A ρ π (eval (.BinOp l .FloorDiv r pos) Γ.env) (.int (Int.fdiv a b)) :=
  h1.bin h2 fun s G u v Q E R r1 r2 hQ => by
    cases r1; cases r2
    exact floordiv_int h0 (hQ _ G s.heap _ R (GLe.refl G) (.int ..)) (.inl ok)
theorem EvP.fmod {l r : Expr} {pos : Pos} {a b : Int} (h1 : EvP Ω Γ A ρ π (eval l Γ.env) (.int a)) (h2 : EvP Ω Γ A ρ π (eval r Γ.env) (.int b)) (h0 : b ≠ 0) : EvP Ω Γ A ρ π (eval (.BinOp l .Mod r pos) Γ.env) (.int (Int.fmod a b)) :=
  h1.bin h2 fun s G u v Q E R r1 r2 hQ => by
    cases r1; cases r2
    exact mod_int h0 (hQ _ G s.heap _ R (GLe.refl G) (.int ..))
theorem EvP.neg {e : Expr} {pos : Pos} {a : Int} (h1 : EvP Ω Γ A ρ π (eval e Γ.env) (.int a)) : EvP Ω Γ A ρ π (eval (.UnaryOp .USub e pos) Γ.env) (.int (-a)) := fun s G Q E R hQ =>
  wpAny_UnaryOp (h1 s G _ E R fun v G1 h1 tk1 R1 g1 r1 => by
    cases r1
    exact neg_int (hQ _ G1 h1 _ R1 g1 (.int ..)))

/-- a comparison of two values -/
noncomputable def CmpP (Ω : Wo) (A : Around) (G : GM) (op : CmpOp) (a b : D) (c : Bool) : Prop :=
  ∀ s u v Q E, Sub G s.heap → Rd G u a → Rd G v b → Q (.bool c) s → wpAny (model Ω.prog Ω.w) A (compareOp op u v) Q E s
theorem CmpP.lt {G : GM} {a b : Int} : CmpP Ω A G .Lt (.int a) (.int b) (decide (a < b)) := fun s u v Q E _ r1 r2 hQ => by cases r1; cases r2; exact lt_int hQ
theorem CmpP.le {G : GM} {a b : Int} : CmpP Ω A G .LtE (.int a) (.int b) (decide (a ≤ b)) := fun s u v Q E _ r1 r2 hQ => by cases r1; cases r2; exact le_int hQ
theorem CmpP.gt {G : GM} {a b : Int} : CmpP Ω A G .Gt (.int a) (.int b) (decide (b < a)) := fun s u v Q E _ r1 r2 hQ => by cases r1; cases r2; exact gt_int hQ
theorem CmpP.ge {G : GM} {a b : Int} : CmpP Ω A G .GtE (.int a) (.int b) (decide (b ≤ a)) := fun s u v Q E _ r1 r2 hQ => by cases r1; cases r2; exact ge_int hQ
theorem CmpP.eq {G : GM} {a b : Int} : CmpP Ω A G .Eq (.int a) (.int b) (a == b) := fun s u v Q E _ r1 r2 hQ => by cases r1; cases r2; exact eq_int hQ
theorem CmpP.ne {G : GM} {a b : Int} : CmpP Ω A G .NotEq (.int a) (.int b) (a != b) := fun s u v Q E _ r1 r2 hQ => by cases r1; cases r2; exact ne_int hQ

theorem EvP.cmp {l r : Expr} {op : CmpOp} {pos : Pos} {a b : D} {c : Bool} (h1 : EvP Ω Γ A ρ π (eval l Γ.env) a) (h2 : EvP Ω Γ A ρ π (eval r Γ.env) b) (h : ∀ G, CmpP Ω A G op a b c) (hm : behindInMarks op r = false := by rfl) :
    EvP Ω Γ A ρ π (eval (.Compare l [op] [r] pos) Γ.env) (.bool c) := fun s G Q E R hQ =>
  wpAny_Compare1 (h1 s G _ E R fun u G1 h1 tk1 R1 g1 r1 => h2 _ G1 _ E R1 fun v G2 h2 tk2 R2 g2 r2 => h G2 _ u v Q E R2.sub (r1.mono g2) r2 (hQ _ G2 h2 tk2 R2 (g1.trans g2) (.bool c))) hm

theorem TsP.cmp {l r : Expr} {op : CmpOp} {pos : Pos} {a b : D} {c : Bool} {whole : Sem Value} (h1 : EvP Ω Γ A ρ π (eval l Γ.env) a) (h2 : EvP Ω Γ A ρ π (eval r Γ.env) b) (h : ∀ G, CmpP Ω A G op a b c) (hm : behindInMarks op r = false := by rfl) :
    TsP Ω Γ A ρ π (PySem.isTrue (.Compare l [op] [r] pos) Γ.env whole) c := fun s G Q E R hQ =>
  wpAny_isTrue_Compare1 (h1 s G _ E R fun u G1 h1 tk1 R1 g1 r1 => h2 _ G1 _ E R1 fun v G2 h2 tk2 R2 g2 r2 => h G2 _ u v _ E R2.sub (r1.mono g2) r2 (wpAny_truthy_bool (hQ G2 h2 tk2 R2 (g1.trans g2)))) hm
theorem TsP.not {x : Expr} {pos : Pos} {c : Bool} {whole : Sem Value} (h : TsP Ω Γ A ρ π (PySem.isTrue x Γ.env (eval x Γ.env)) c) : TsP Ω Γ A ρ π (PySem.isTrue (.UnaryOp .Not x pos) Γ.env whole) (!c) := fun s G Q E R hQ =>
  wpAny_isTrue_Not (h s G _ E R hQ)
theorem TsP.and2 {x y : Expr} {pos : Pos} {c d : Bool} {whole : Sem Value} (h1 : TsP Ω Γ A ρ π (PySem.isTrue x Γ.env (eval x Γ.env)) c) (h2 : c = true → TsP Ω Γ A ρ π (PySem.isTrue y Γ.env (eval y Γ.env)) d) :
    TsP Ω Γ A ρ π (PySem.isTrue (.BoolOp .And [x, y] pos) Γ.env whole) (c && d) := fun s G Q E R hQ => by
  refine wpAny_isTrue_BoolOp (wpAny_allTrue_And_cons (h1 s G _ E R fun G1 k1 tk1 R1 g1 => ?_))
  cases c with
  | false => exact hQ G1 k1 tk1 R1 g1
  | true =>
    refine wpAny_allTrue_And_cons (h2 rfl _ G1 _ E R1 fun G2 k2 tk2 R2 g2 => ?_)
    cases d with
    | false => exact hQ G2 k2 tk2 R2 (g1.trans g2)
    | true => exact wpAny_allTrue_And_nil (hQ G2 k2 tk2 R2 (g1.trans g2))
theorem TsP.or2 {x y : Expr} {pos : Pos} {c d : Bool} {whole : Sem Value} (h1 : TsP Ω Γ A ρ π (PySem.isTrue x Γ.env (eval x Γ.env)) c) (h2 : c = false → TsP Ω Γ A ρ π (PySem.isTrue y Γ.env (eval y Γ.env)) d) :
    TsP Ω Γ A ρ π (PySem.isTrue (.BoolOp .Or [x, y] pos) Γ.env whole) (c || d) := fun s G Q E R hQ => by
  refine wpAny_isTrue_BoolOp (wpAny_allTrue_Or_cons (h1 s G _ E R fun G1 k1 tk1 R1 g1 => ?_))
  cases c with
  | true => exact hQ G1 k1 tk1 R1 g1
  | false =>
    refine wpAny_allTrue_Or_cons (h2 rfl _ G1 _ E R1 fun G2 k2 tk2 R2 g2 => ?_)
    cases d with
    | true => exact hQ G2 k2 tk2 R2 (g1.trans g2)
    | false => exact wpAny_allTrue_Or_nil (hQ G2 k2 tk2 R2 (g1.trans g2))
theorem EvP.ite {t x y : Expr} {pos : Pos} {c : Bool} {d : D} (h : TsP Ω Γ A ρ π (PySem.isTrue t Γ.env (eval t Γ.env)) c) (h1 : c = true → EvP Ω Γ A ρ π (eval x Γ.env) d) (h2 : c = false → EvP Ω Γ A ρ π (eval y Γ.env) d) :
    EvP Ω Γ A ρ π (eval (.IfExp t x y pos) Γ.env) d := fun s G Q E R hQ => by
  refine wpAny_IfExp (h s G _ E R fun G1 h1' tk1 R1 g1 => ?_)
  cases c with
  | true => exact h1 rfl _ G1 Q E R1 fun v G2 h2 tk2 R2 g2 r2 => hQ v G2 h2 tk2 R2 (g1.trans g2) r2
  | false => exact h2 rfl _ G1 Q E R1 fun v G2 h2 tk2 R2 g2 r2 => hQ v G2 h2 tk2 R2 (g1.trans g2) r2
end
end

section
open PySem PySem.Calls PySem.W PyProof.Rows
theorem mem_adrs {π : Led} {p : Addr × MO} {b : Addr} (hp : p ∈ π) (hb : b ∈ p.2.adr p.1) : b ∈ adrs π := List.mem_flatMap.mpr ⟨p, hp, hb⟩
theorem adrs_append (π₁ π₂ : Led) : adrs (π₁ ++ π₂) = adrs π₁ ++ adrs π₂ := List.flatMap_append
theorem adrs_cons (p : Addr × MO) (π : Led) : adrs (p :: π) = p.2.adr p.1 ++ adrs π := List.flatMap_cons
theorem MIn.ex {G : GM} {h : Heap} {a : Addr} {mo : MO} (x : MIn G h a mo) : ∀ b ∈ mo.adr a, ∃ o, h.get? b = some o := by
  intro b hb
  cases mo with
  | list ds =>
    obtain ⟨_, _, ho, _⟩ := x
    rw [List.mem_singleton.mp hb]
    exact ⟨_, ho⟩
  | inst C dx fs =>
    obtain ⟨es, n, h1, h2, _⟩ := x
    rcases List.mem_cons.mp hb with rfl | hb
    · exact ⟨_, h1⟩
    · rw [List.mem_singleton.mp hb]
      exact ⟨_, h2⟩
  | obj o => rw [List.mem_singleton.mp hb]; exact ⟨o, x⟩
theorem MIn.keep {G G' : GM} {h h' : Heap} {a : Addr} {mo : MO} (x : MIn G h a mo) (g : GLe G G') (k : ∀ b ∈ mo.adr a, ∀ o, h.get? b = some o → h'.get? b = some o) : MIn G' h' a mo := by
  cases mo with
  | list ds =>
    obtain ⟨vs, n, ho, r⟩ := x
    exact ⟨vs, n, k a (.head _) _ ho, r.mono g⟩
  | inst C dx fs =>
    obtain ⟨es, n, h1, h2, r⟩ := x
    exact ⟨es, n, k a (.head _) _ h1, k dx (.tail _ (.head _)) _ h2, r.mono g⟩
  | obj o => exact k a (.head _) o x

noncomputable def Keeps (h h' : Heap) : Prop := ∀ a o, h.get? a = some o → h'.get? a = some o
theorem Keeps.trans {h h' h'' : Heap} (x : Keeps h h') (y : Keeps h' h'') : Keeps h h'' := fun a o e => y a o (x a o e)
theorem Keeps.live {h h' : Heap} (x : Keeps h h') {a : Addr} (e : h'.get? a = none) : h.get? a = none := by
  cases q : h.get? a with
  | none => rfl
  | some o => rw [x a o q] at e; cases e
theorem keeps_push (h : Heap) (o : Obj) : Keeps h (h.push o) := fun _ _ e => Heap.get?_push_of_some _ e

theorem lookup_mem {α β : Type} [BEq α] [LawfulBEq α] {l : List (α × β)} {x : α} {c : β} (h : l.lookup x = some c) : (x, c) ∈ l := by
  induction l with
  | nil => cases h
  | cons p l ih =>
    obtain ⟨y, d⟩ := p
    rw [List.lookup_cons] at h
    by_cases q : x = y
    · subst q
      rw [beq_self_eq_true] at h
      cases h
      exact .head _
    · have : (x == y) = false := by simpa using q
      rw [this] at h
      exact .tail _ (ih h)
theorem empty_get (a : Addr) : ({} : Heap).get? a = none := by simp [Heap.get?]

section
variable {Γ : Ctx} {ρ : Loc} {π : Led} {G G' : GM} {h h' : Heap}

theorem Rel.exF (R : Rel Γ ρ π G h) : ∀ a ∈ fad Γ.fs, ∃ o, h.get? a = some o := fun a ha => by
  obtain ⟨_, o, ho, _⟩ := R.frs.mem ha
  exact ⟨o, ho⟩
theorem Rel.exM (R : Rel Γ ρ π G h) : ∀ a ∈ adrs π, ∃ o, h.get? a = some o := fun a ha => by
  obtain ⟨p, hp, hb⟩ := List.mem_flatMap.mp ha
  exact (R.aft.led p hp).ex a hb
theorem Rel.exL (R : Rel Γ ρ π G h) : ∃ o, h.get? Γ.env.locals = some o := by
  obtain ⟨m, ⟨o, _, _, ho, _⟩, _⟩ := R.ns
  exact ⟨o, ho⟩

/-- the heap grows: all that stands stays; new frozen objects -/
theorem Rel.grow (R : Rel Γ ρ π G h) (k : Keeps h h') (g : GLe G G') (sub : Sub G' h') (new : ∀ a o, G' a = some o → G a = some o ∨ h.get? a = none) : Rel Γ ρ π G' h' := by
  have no : ∀ a, G a = none → (∃ o, h.get? a = some o) → G' a = none := fun a e ⟨o, ho⟩ => by
    cases q : G' a with
    | none => rfl
    | some x =>
      rcases new a x q with z | z
      · rw [e] at z; cases z
      · rw [ho] at z; cases z
  obtain ⟨aft, frs, frSub, offF, ⟨m, hm, hv⟩, offL, cl, cv⟩ := id R
  refine ⟨⟨sub, aft.ext.trans g, fun a o e => ?_, ⟨fun a o e n m => k a o (aft.stp.keep a o e n m), fun a o e n m => ?_, fun a e => aft.stp.live a (k.live e)⟩, fun p hp => (aft.led p hp).keep g fun b _ o e => k b o e, aft.nodup, fun a ha => ⟨no a (aft.off a ha).1 (R.exM a ha), (aft.off a ha).2⟩, aft.own⟩,
    frs.of_keeps fun b o e _ => ⟨o, k b o e, rfl⟩, frSub, fun a ha => ⟨no a (offF a ha).1 (R.exF a ha), (offF a ha).2⟩, ⟨m, hm.keeps k, fun i x d e1 e2 => ?_⟩, ⟨no _ offL.1 R.exL, offL.2⟩, fun c hc => ?_, fun i x kd d e1 e2 e3 => ?_⟩
  · rcases new a o e with z | z
    · exact aft.new a o z
    · exact .inr (aft.stp.live a z)
  · obtain ⟨sl, e1⟩ := aft.stp.slot a o e n m
    exact ⟨sl, k _ _ e1⟩
  · obtain ⟨v, a, b⟩ := hv i x d e1 e2
    exact ⟨v, a, b.mono g⟩
  · obtain ⟨⟨o, v, ho, hd⟩, h2, r⟩ := cl c hc
    exact ⟨⟨o, v, k _ _ ho, hd⟩, no c h2 ⟨o, ho⟩, r⟩
  · obtain ⟨c, o, v, a, b, e, r⟩ := cv i x kd d e1 e2 e3
    exact ⟨c, o, v, a, k _ _ b, e, r.mono g⟩

noncomputable def ext1 (G : GM) (a : Addr) (o : Obj) : GM := fun b => if b = a then some o else G b
theorem ext1_at (G : GM) (a : Addr) (o : Obj) : ext1 G a o a = some o := if_pos rfl
theorem ext1_le {G : GM} {a : Addr} {o : Obj} (e : G a = none) : GLe G (ext1 G a o) := fun b x q => by
  unfold ext1
  by_cases z : b = a
  · subst z; rw [e] at q; cases q
  · rw [if_neg z]; exact q
theorem Sub.none {G : GM} {h : Heap} (s : Sub G h) {a : Addr} (e : h.get? a = none) : G a = none := by
  cases q : G a with
  | none => rfl
  | some o => rw [s a o q] at e; cases e
theorem get_size (h : Heap) : h.get? h.objs.size = none := by
  cases q : h.get? h.objs.size with
  | none => rfl
  | some o => exact absurd (Heap.lt_size q) (Nat.lt_irrefl _)
/-- a new frozen object -/
theorem Rel.alloc (R : Rel Γ ρ π G h) (o : Obj) (hf : o.isFreed = false) : Rel Γ ρ π (ext1 G h.objs.size o) (h.push o) ∧ GLe G (ext1 G h.objs.size o) := by
  have hn := R.aft.sub.none (get_size h)
  refine ⟨R.grow (keeps_push h o) (ext1_le hn) (fun a x e => ?_) (fun a x e => ?_), ext1_le hn⟩
  · unfold ext1 at e
    by_cases z : a = h.objs.size
    · subst z; rw [if_pos rfl] at e; cases e; exact Heap.get?_push_size _ hf
    · rw [if_neg z] at e; exact Heap.get?_push_of_some _ (R.aft.sub a x e)
  · unfold ext1 at e
    by_cases z : a = h.objs.size
    · subst z; exact .inr (get_size h)
    · rw [if_neg z] at e; exact .inl e
/-- a new object that nobody looks at -/
theorem Rel.waste (R : Rel Γ ρ π G h) (o : Obj) : Rel Γ ρ π G (h.push o) :=
  R.grow (keeps_push h o) (GLe.refl G) (fun a x e => Heap.get?_push_of_some _ (R.aft.sub a x e)) fun a x e => .inl e
theorem Rel.keep (R : Rel Γ ρ π G h) (k : Keeps h h') : Rel Γ ρ π G h' :=
  R.grow k (GLe.refl G) (fun a x e => k _ _ (R.aft.sub a x e)) fun a x e => .inl e

/-- a new mutable object -/
theorem Rel.addMut (R : Rel Γ ρ π G h) (k : Keeps h h') {a : Addr} {mo : MO} (hn : ∀ b ∈ mo.adr a, h.get? b = none) (nd : (mo.adr a).Nodup) (hm : MIn G h' a mo) : Rel Γ ρ ((a, mo) :: π) G h' := by
  have R' := R.keep k
  have nx : ∀ b ∈ mo.adr a, ∀ (c : Addr), (∃ o, h.get? c = some o) → b ≠ c := fun b hb c ⟨o, ho⟩ q => by
    have := hn b hb
    rw [q, ho] at this
    cases this
  obtain ⟨aft, frs, frSub, offF, ns, offL, cl, cv⟩ := R'
  have mem : ∀ {b : Addr}, b ∈ adrs ((a, mo) :: π) → b ∈ mo.adr a ∨ b ∈ adrs π := fun hb => by
    rw [adrs_cons] at hb
    exact List.mem_append.mp hb
  refine ⟨⟨aft.sub, aft.ext, aft.new, aft.stp, fun p hp => ?_, ?_, fun b hb => ?_, fun b hb => ?_⟩, frs, frSub, fun b hb => ⟨(offF b hb).1, fun q => ?_⟩, ns, ⟨offL.1, fun q => ?_, offL.2.2⟩, fun c hc => ?_, cv⟩
  · rcases List.mem_cons.mp hp with rfl | hp
    · exact hm
    · exact aft.led p hp
  · rw [adrs_cons]
    exact List.nodup_append.mpr ⟨nd, aft.nodup, fun x hx y hy q => nx x hx y (R.exM y hy) q⟩
  · rcases mem hb with hb | hb
    · exact ⟨R.aft.sub.none (hn b hb), fun q => nx b hb b (R.exF b (frSub.1 b q)) rfl⟩
    · exact aft.off b hb
  · rcases mem hb with hb | hb
    · exact .inl (R.aft.stp.live b (hn b hb))
    · exact aft.own b hb
  · rcases mem q with q | q
    · exact nx b q b (R.exF b hb) rfl
    · exact (offF b hb).2 q
  · rcases mem q with q | q
    · exact nx _ q _ R.exL rfl
    · exact offL.2.1 q
  · obtain ⟨h1, h2, h3, r⟩ := cl c hc
    refine ⟨h1, h2, fun q => ?_, r⟩
    rcases mem q with q | q
    · obtain ⟨⟨o, v, ho, _⟩, _⟩ := R.cl c hc
      exact nx c q c ⟨o, ho⟩ rfl
    · exact h3 q

/-- a mutable object changed -/
theorem Rel.setMut {πa πb : Led} {a : Addr} {mo mo' : MO} (R : Rel Γ ρ (πa ++ (a, mo) :: πb) G h) (k : ∀ b o, h.get? b = some o → b ∉ mo.adr a → h'.get? b = some o) (hl : ∀ b, h'.get? b = none → h.get? b = none)
    (ha : mo'.adr a = mo.adr a) (hm : MIn G h' a mo') : Rel Γ ρ (πa ++ (a, mo') :: πb) G h' := by
  have eA : adrs (πa ++ (a, mo') :: πb) = adrs (πa ++ (a, mo) :: πb) := by
    rw [adrs_append, adrs_append, adrs_cons, adrs_cons]
    show _ ++ (mo'.adr a ++ _) = _ ++ (mo.adr a ++ _)
    rw [ha]
  have hin : ∀ b ∈ mo.adr a, b ∈ adrs (πa ++ (a, mo) :: πb) := fun b hb => mem_adrs (p := (a, mo)) (List.mem_append_right _ (.head _)) hb
  obtain ⟨aft, frs, frSub, offF, ⟨m, hm', hv⟩, offL, cl, cv⟩ := id R
  have nd := aft.nodup
  rw [adrs_append, adrs_cons] at nd
  obtain ⟨nd1, nd2, nd3⟩ := List.nodup_append.mp nd
  obtain ⟨nd4, nd5, nd6⟩ := List.nodup_append.mp nd2
  have kG : ∀ b o, G b = some o → h'.get? b = some o := fun b o e => k b o (aft.sub b o e) fun q => by
    have := (aft.off b (hin b q)).1
    rw [e] at this; cases this
  have kF : ∀ b ∈ fad Γ.fs, ∀ o, h.get? b = some o → h'.get? b = some o := fun b hb o e => k b o e fun q => (offF b hb).2 (hin b q)
  have kL : ∀ o, h.get? Γ.env.locals = some o → h'.get? Γ.env.locals = some o := fun o e => k _ o e fun q => offL.2.1 (hin _ q)
  have kC : ∀ c ∈ Γ.env.cells.map (·.2), ∀ o, h.get? c = some o → h'.get? c = some o := fun c hc o e => k c o e fun q => (cl c hc).2.2.1 (hin c q)
  refine ⟨⟨kG, aft.ext, aft.new, ⟨fun b o e n m => ?_, fun b o e n m => ?_, fun b e => aft.stp.live b (hl b e)⟩, fun p hp => ?_, eA ▸ aft.nodup, eA ▸ aft.off, eA ▸ aft.own⟩,
    ?_, frSub, eA ▸ offF, ⟨m, ?_, hv⟩, eA ▸ offL, fun c hc => ?_, fun i x kd d e1 e2 e3 => ?_⟩
  · refine k b o (aft.stp.keep b o e n m) fun q => ?_
    rcases aft.own b (hin b q) with z | z
    · rw [e] at z; cases z
    · exact n z
  · obtain ⟨sl, e1⟩ := aft.stp.slot b o e n m
    exact ⟨sl, kF b (frSub.1 b m) _ e1⟩
  · rcases List.mem_append.mp hp with hp | hp
    · refine (aft.led p (List.mem_append_left _ hp)).keep (GLe.refl G) fun b hb o e => k b o e fun q => ?_
      exact nd3 b (mem_adrs hp hb) b (List.mem_append_left _ q) rfl
    · rcases List.mem_cons.mp hp with rfl | hp
      · exact hm
      · refine (aft.led p (List.mem_append_right _ (.tail _ hp))).keep (GLe.refl G) fun b hb o e => k b o e fun q => ?_
        exact nd6 b q b (mem_adrs hp hb) rfl
  · have : ∀ (l : List Env), (∀ a ∈ fad l, a ∈ fad Γ.fs) → h.FunFrames {} l → h'.FunFrames {} l := by
      intro l
      induction l with
      | nil => intro _ _; trivial
      | cons env l ih =>
        intro hs ⟨hk, ⟨L, o, hf, hn, ho, hd⟩, hr⟩
        have e : fad (env :: l) = L :: fad l := by unfold fad; rw [List.filterMap_cons, hf]
        refine ⟨hk, ⟨L, o, hf, hn, kF L (hs L (e ▸ .head _)) o ho, hd⟩, ih (fun a ha => hs a (e ▸ .tail _ ha)) hr⟩
    exact this _ (fun _ h => h) frs
  · obtain ⟨o, es, ep, ho, r⟩ := hm'
    exact ⟨o, es, ep, kL o ho, r⟩
  · obtain ⟨⟨o, v, ho, hd⟩, r⟩ := cl c hc
    exact eA ▸ ⟨⟨o, v, kC c hc o ho, hd⟩, r⟩
  · obtain ⟨c, o, v, h1, h2, r⟩ := cv i x kd d e1 e2 e3
    exact ⟨c, o, v, h1, kC c (List.mem_map.mpr ⟨(x, c), lookup_mem h1, rfl⟩) o h2, r⟩

/-- less is known -/
noncomputable def LocLe (ρ' ρ : Loc) : Prop := ∀ (i : Nat) d, ρ'[i]? = some (some d) → ρ[i]? = some (some d)
theorem Rel.less {ρ' : Loc} (R : Rel Γ ρ π G h) (l : LocLe ρ' ρ) : Rel Γ ρ' π G h := by
  obtain ⟨aft, frs, frSub, offF, ⟨m, hm', hv⟩, offL, cl, cv⟩ := R
  exact ⟨aft, frs, frSub, offF, ⟨m, hm', fun i x d e1 e2 => hv i x d e1 (l i d e2)⟩, offL, cl, fun i x kd d e1 e2 e3 => cv i x kd d e1 e2 (l i d e3)⟩
theorem Rel.drop {πa πb : Led} {p : Addr × MO} (R : Rel Γ ρ (πa ++ p :: πb) G h) : Rel Γ ρ (πa ++ πb) G h := by
  obtain ⟨aft, frs, frSub, offF, ns, offL, cl, cv⟩ := R
  have hs : (adrs (πa ++ πb)).Sublist (adrs (πa ++ p :: πb)) := by
    rw [adrs_append, adrs_append, adrs_cons]
    exact (List.Sublist.refl _).append (List.sublist_append_right _ _)
  exact ⟨⟨aft.sub, aft.ext, aft.new, aft.stp, fun q hq => aft.led q (by
      rcases List.mem_append.mp hq with h | h
      · exact List.mem_append_left _ h
      · exact List.mem_append_right _ (.tail _ h)), aft.nodup.sublist hs, fun a ha => aft.off a (hs.subset ha), fun a ha => aft.own a (hs.subset ha)⟩, frs, frSub,
    fun a ha => ⟨(offF a ha).1, fun q => (offF a ha).2 (hs.subset q)⟩, ns, ⟨offL.1, fun q => offL.2.1 (hs.subset q), offL.2.2⟩, fun c hc => ⟨(cl c hc).1, (cl c hc).2.1, fun q => (cl c hc).2.2.1 (hs.subset q), (cl c hc).2.2.2⟩, cv⟩
theorem Rel.perm {π' : Led} (R : Rel Γ ρ π G h) (p : π.Perm π') : Rel Γ ρ π' G h := by
  obtain ⟨aft, frs, frSub, offF, ns, offL, cl, cv⟩ := R
  have pa : (adrs π).Perm (adrs π') := p.flatMap_right _
  exact ⟨⟨aft.sub, aft.ext, aft.new, aft.stp, fun q hq => aft.led q (p.mem_iff.mpr hq), pa.nodup_iff.mp aft.nodup, fun a ha => aft.off a (pa.mem_iff.mpr ha), fun a ha => aft.own a (pa.mem_iff.mpr ha)⟩, frs, frSub,
    fun a ha => ⟨(offF a ha).1, fun q => (offF a ha).2 (pa.mem_iff.mpr q)⟩, ns, ⟨offL.1, fun q => offL.2.1 (pa.mem_iff.mpr q), offL.2.2⟩, fun c hc => ⟨(cl c hc).1, (cl c hc).2.1, fun q => (cl c hc).2.2.1 (pa.mem_iff.mpr q), (cl c hc).2.2.2⟩, cv⟩
/-- a mutable object that nobody will change any more -/
theorem Rel.freeze {πa πb : Led} {a : Addr} {mo : MO} (R : Rel Γ ρ (πa ++ (a, mo) :: πb) G h) (nw : ∀ b ∈ mo.adr a, b ∉ Γ.W) :
    ∃ G', Rel Γ ρ (πa ++ πb) G' h ∧ GLe G G' ∧ Rd G' (.ref a) (match mo with | .list ds => .list ds | .inst C _ fs => .inst C fs | .obj _ => .raw (.ref a)) := by
  have hin : ∀ b ∈ mo.adr a, b ∈ adrs (πa ++ (a, mo) :: πb) := fun b hb => mem_adrs (p := (a, mo)) (List.mem_append_right _ (.head _)) hb
  have M := R.aft.led (a, mo) (List.mem_append_right _ (.head _))
  have nd := R.aft.nodup
  rw [adrs_append, adrs_cons] at nd
  obtain ⟨nd1, nd2, nd3⟩ := List.nodup_append.mp nd
  obtain ⟨nd4, nd5, nd6⟩ := List.nodup_append.mp nd2
  let G' : GM := fun b => if b ∈ mo.adr a then h.get? b else G b
  have g : GLe G G' := fun b o e => by
    show (if b ∈ mo.adr a then h.get? b else G b) = some o
    by_cases z : b ∈ mo.adr a
    · have := (R.aft.off b (hin b z)).1
      rw [e] at this; cases this
    · rw [if_neg z]; exact e
  have g1 : ∀ b ∈ mo.adr a, G' b = h.get? b := fun b hb => if_pos hb
  have g2 : ∀ b, b ∉ mo.adr a → G' b = G b := fun b hb => if_neg hb
  have R' := R.drop
  have sub : Sub G' h := fun b o e => by
    by_cases z : b ∈ mo.adr a
    · rw [g1 b z] at e; exact e
    · rw [g2 b z] at e; exact R.aft.sub b o e
  have offA : ∀ b ∈ adrs (πa ++ πb), b ∉ mo.adr a := fun b hb q => by
    rw [adrs_append] at hb
    rcases List.mem_append.mp hb with hb | hb
    · exact nd3 b hb b (List.mem_append_left _ q) rfl
    · exact nd6 b q b hb rfl
  refine ⟨G', ?_, g, ?_⟩
  · obtain ⟨aft, frs, frSub, offF, ⟨m, hm', hv⟩, offL, cl, cv⟩ := R'
    refine ⟨⟨sub, aft.ext.trans g, fun b o e => ?_, aft.stp, fun p hp => (aft.led p hp).keep g fun _ _ _ e => e, aft.nodup, fun b hb => ⟨(g2 b (offA b hb)).trans (aft.off b hb).1, (aft.off b hb).2⟩, aft.own⟩, frs, frSub, fun b hb => ⟨(g2 b fun q => (R.offF b hb).2 (hin b q)).trans (offF b hb).1, (offF b hb).2⟩,
      ⟨m, hm', fun i x d e1 e2 => ?_⟩, ⟨(g2 _ fun q => R.offL.2.1 (hin _ q)).trans offL.1, offL.2⟩, fun c hc => ⟨(cl c hc).1, (g2 c fun q => (R.cl c hc).2.2.1 (hin c q)).trans (cl c hc).2.1, (cl c hc).2.2⟩, fun i x kd d e1 e2 e3 => ?_⟩
    · by_cases z : b ∈ mo.adr a
      · rcases R.aft.own b (hin b z) with y | y
        · exact .inr y
        · exact absurd y (nw b z)
      · rw [g2 b z] at e; exact aft.new b o e
    · obtain ⟨v, h1, h2⟩ := hv i x d e1 e2
      exact ⟨v, h1, h2.mono g⟩
    · obtain ⟨c, o, v, h1, h2, h3, r⟩ := cv i x kd d e1 e2 e3
      exact ⟨c, o, v, h1, h2, h3, r.mono g⟩
  · cases mo with
    | list ds =>
      obtain ⟨vs, n, ho, r⟩ := M
      exact .list ((g1 a (.head _)).trans ho) rfl rfl (r.mono g)
    | inst C dx fs =>
      obtain ⟨es, n, h1, h2, r⟩ := M
      exact .inst ((g1 a (.head _)).trans h1) ((g1 dx (.tail _ (.head _))).trans h2) (r.mono g)
    | obj o => exact .raw _
end
end

section
open PySem PySem.Calls PySem.W PyProof.Rows
/-- an exception under way: made just now, or come from below, or held by this frame -/
inductive ExcSt (B : Heap) (fs : List Env) (e : Addr) (c : Value) (h : Heap) : Prop
  | made {h₂ : Heap} {args : List Value} : B.StaysIn h₂ → h₂.FunFrames B fs → Heap.MadeExcOf h₂ h e c args → ExcSt B fs e c h
  | fly {a0 : Value} : Heap.FlyingW B fs e c a0 h → ExcSt B fs e c h
  | held {a0 : Value} {L : Addr} {env : Env} {outer : List Env} : fs = env :: outer → env.frame = some L → Heap.HeldW B fs e c a0 L h → ExcSt B fs e c h

section
variable {M : Model} {A : Around} {E : Value → Shared → Prop} {s : Shared} {B : Heap} {env : Env} {outer : List Env} {L e : Addr} {c : Value} {Q : Unit → Shared → Prop}

theorem stays_fresh {B h : Heap} (k : B.StaysIn h) {a : Addr} (e : h.get? a = none) : B.get? a = none := by
  cases q : B.get? a with
  | none => rfl
  | some o => rw [k a o q] at e; cases e

theorem exc_note (X : ExcSt B (env :: outer) e c s.heap) (hfr : A.frames = some (env :: outer)) (hf : env.frame = some L)
    (hQ : ∀ h' a0, Heap.HeldW B (env :: outer) e c a0 L h' → s.heap.UpToSlots h' → Q () { s with heap := h' }) : wpAny M A (noteFrame (.ref e) env) Q E s := by
  cases X with
  | @made h₂ args hB hF hx =>
    obtain ⟨t, he, htn, ht⟩ := hx.there
    have hen := stays_fresh hB hx.new
    have hF' : s.heap.FunFrames B (env :: outer) := hF.of_keeps fun b o q _ => ⟨o, hx.keeps b o q, rfl⟩
    unfold noteFrame
    simp only [hf]
    refine wpAny_bind (wpAny_field (x := Value.none) he rfl rfl ?_)
    rw [if_neg (show ¬ ((Value.none != Value.none) = true) from by decide)]
    refine wpAny_entryW (a0 := .ref t) hfr hF' hf he (fun b o q => hx.keeps b o (hB b o q)) hen rfl (show 1 < 6 from by decide) rfl fun h' hN => ?_
    obtain ⟨k1, k2, k3, k4⟩ := hN
    exact hQ h' _ ⟨k1, hen, k2, k3⟩ k4
  | fly hx => exact wpAny_looks_onW hfr hf hx fun h' hh hu => hQ h' _ hh hu
  | held h1 h2 hh =>
    cases h1
    rw [hf] at h2
    cases h2
    exact wpAny_noteFrame_againW hf hh.2.2.2 (hQ s.heap _ hh fun b o q _ => ⟨o.slots, q⟩)

theorem exc_leave (X : ExcSt B (env :: outer) e c s.heap) (hfr : A.frames = some (env :: outer)) (hf : env.frame = some L)
    (hQ : ∀ h' a0, Heap.FlyingW B outer e c a0 h' → s.heap.UpToSlots h' → Q () { s with heap := h' }) : wpAny M A (leaving env (.ref e)) Q E s := by
  unfold leaving
  refine wpAny_bind (exc_note X hfr hf fun h' a0 hh hu => ?_)
  refine wpAny_landsW hh fun h'' hfl hu' => ?_
  obtain ⟨k1, k2, ⟨_, _, k3⟩, k4⟩ := hfl
  exact hQ h'' a0 ⟨k1, k2, k3, k4⟩ (hu.trans hu')

theorem exc_lands {a0 : Value} {l : List Env} (hh : Heap.HeldW B l e c a0 L s.heap) (hQ : ∀ h', Heap.FlyingW B l e c a0 h' → s.heap.UpToSlots h' → Q () { s with heap := h' }) : wpAny M A (setFlight (.ref e) none) Q E s :=
  wpAny_landsW hh hQ

/-- out of a loop's own activation -/
theorem exc_back {a0 : Value} {E' : Value → Shared → Prop} (hf : env.frame = some L) (hh : Heap.HeldW B (env :: outer) e c a0 L s.heap)
    (hE : ∀ h', Heap.HeldW B (env :: outer) e c a0 L h' → s.heap.UpToSlots h' → E' (.ref e) { s with heap := h' }) : cameBackBy M A env E' (.ref e) s := by
  obtain ⟨k1, k2, k3, oe, vs, T, oT, ts, he, hc, hd, h1, hnT, hTe, hT, hdT, h3⟩ := hh
  unfold cameBackBy
  refine wpAny_bind (wpAny_field he hd h1 ?_)
  rw [if_neg (show ¬ ((Value.ref T == Value.none) = true) from by simp)]
  unfold setFlight
  refine wpAny_bind (wpAny_field he hd h1 ?_)
  rw [if_pos (show (Value.ref T != Value.none) = true from by simp)]
  have hsz3 : 3 < ts.size := (Array.getElem?_eq_some_iff.mp h3).1
  refine wpAny_setField hT hdT hsz3 ?_
  have other : ∀ b, b ≠ T → (s.heap.update T (Obj.mapFields (·.setIfInBounds 3 (env.frame.elim Value.none fun f => rawInt f)))).get? b = s.heap.get? b :=
    fun b hb => Heap.get?_update_other _ _ (Ne.symm hb)
  have noRecord : ∀ b o, s.heap.get? b = some o → (∀ vs, o.data ≠ .fields vs) → b ≠ T := fun b o hb hnf q => by
    rw [q, hT] at hb; injection hb with hb; subst hb; exact hnf ts hdT
  refine hE _ ⟨fun b o hbo => (other b fun q => by rw [q, hnT] at hbo; cases hbo).trans (k1 b o hbo), k2, k3.of_keeps fun b o hb hnf => ⟨o, (other b (noRecord b o hb hnf)).trans hb, rfl⟩, ?_⟩
    fun b o hb hnf => ⟨o.slots, (other b (noRecord b o hb hnf)).trans hb⟩
  refine ⟨oe, vs, T, _, _, (other e (Ne.symm hTe)).trans he, hc, hd, h1, hnT, hTe, Heap.get?_update_self _ hT (Obj.isFreed_of_fields (Obj.data_mapFields hdT _)), Obj.data_mapFields hdT _, ?_⟩
  simp [hf, hsz3]
end

/-- the exception stands beside what the frame knows -/
structure Flies (Γ : Ctx) (ρ : Loc) (π : Led) (G : GM) (e : Addr) (c : Value) (h : Heap) : Prop where
  out : ∃ h₁ B, Rel Γ ρ π G h₁ ∧ (∀ a o, h₁.get? a = some o → a ∉ fad Γ.fs → B.get? a = some o) ∧ (∀ a o, h₁.get? a = some o → a ∈ fad Γ.fs → ∃ sl, h.get? a = some { o with slots := sl }) ∧ ExcSt B Γ.fs e c h

section
variable {Γ : Ctx} {ρ : Loc} {π : Led} {G : GM} {h h' : Heap}
/-- the heap turns outside what is known; the frames' slots too -/
theorem Rel.turn (R : Rel Γ ρ π G h) (k : ∀ a o, h.get? a = some o → a ∉ fad Γ.fs → h'.get? a = some o) (sl : ∀ a o, h.get? a = some o → a ∈ fad Γ.fs → ∃ sl, h'.get? a = some { o with slots := sl }) : Rel Γ ρ π G h' := by
  obtain ⟨aft, frs, frSub, offF, ⟨m, hm', hv⟩, offL, cl, cv⟩ := id R
  have up : ∀ a o, h.get? a = some o → ∃ sl, h'.get? a = some { o with slots := sl } := fun a o e => by
    by_cases z : a ∈ fad Γ.fs
    · exact sl a o e z
    · exact ⟨o.slots, k a o e z⟩
  have live : ∀ a, h'.get? a = none → h.get? a = none := fun a e => by
    cases q : h.get? a with
    | none => rfl
    | some o =>
      obtain ⟨x, hx⟩ := up a o q
      rw [hx] at e; cases e
  refine ⟨⟨fun a o e => k a o (aft.sub a o e) fun q => ?_, aft.ext, aft.new, ⟨fun a o e n m => ?_, fun a o e n m => ?_, fun a e => aft.stp.live a (live a e)⟩, fun p hp => (aft.led p hp).keep (GLe.refl G) fun b hb o e => k b o e fun q => (offF b q).2 (mem_adrs hp hb), aft.nodup, aft.off, aft.own⟩,
    frs.of_keeps fun b o e _ => ?_, frSub, offF, ⟨m, ?_, hv⟩, offL, fun c hc => ?_, fun i x kd d e1 e2 e3 => ?_⟩
  · rw [(offF a q).1] at e; cases e
  · have e1 := aft.stp.keep a o e n m
    by_cases z : a ∈ fad Γ.fs
    · rcases frSub.2 a z with y | y
      · rw [e] at y; cases y
      · exact absurd y m
    · exact k a o e1 z
  · obtain ⟨s1, e1⟩ := aft.stp.slot a o e n m
    obtain ⟨s2, e2⟩ := up a _ e1
    exact ⟨s2, e2⟩
  · obtain ⟨x, hx⟩ := up b o e
    exact ⟨_, hx, rfl⟩
  · obtain ⟨o, es, ep, ho, hd, r⟩ := hm'
    obtain ⟨x, hx⟩ := up _ o ho
    exact ⟨_, es, ep, hx, hd, r⟩
  · obtain ⟨⟨o, v, ho, hd⟩, r⟩ := cl c hc
    exact ⟨⟨o, v, k c o ho r.2.2.1, hd⟩, r⟩
  · obtain ⟨c, o, v, h1, h2, r⟩ := cv i x kd d e1 e2 e3
    exact ⟨c, o, v, h1, k c o h2 (cl c (List.mem_map.mpr ⟨(x, c), lookup_mem h1, rfl⟩)).2.2.2.1, r⟩
end
end

section
open PySem PySem.Calls PySem.W PyProof.Rows
inductive Fl where
  | next | brk | cont
  | ret (d : D)
inductive FlRd (G : GM) : Flow → Fl → Prop
  | next : FlRd G .next .next
  | brk : FlRd G .brk .brk
  | cont : FlRd G .cont .cont
  | ret {v : Value} {d : D} : Rd G v d → FlRd G (.ret v) (.ret d)

/-- an expression that may change the mutable objects, or raise -/
noncomputable def Ev (Ω : Wo) (Γ : Ctx) (A : Around) (ρ : Loc) (π : Led) (t : Sem Value) (Φ : D → Led → Prop) (Ψ : Addr → Led → Prop) : Prop :=
  ∀ (s : Shared) (G : GM) (Q E : Value → Shared → Prop), Rel Γ ρ π G s.heap →
    (∀ v d π' G' h' tk', Φ d π' → Rel Γ ρ π' G' h' → GLe G G' → Rd G' v d → Q v { s with heap := h', toks := tk' }) →
    (∀ e c π' G' h' tk', Ψ c π' → Flies Γ ρ π' G' e (.ref c) h' → GLe G G' → E (.ref e) { s with heap := h', toks := tk' }) → wpAny (model Ω.prog Ω.w) A t Q E s
/-- statements -/
noncomputable def Ex (Ω : Wo) (Γ : Ctx) (A : Around) (ρ : Loc) (π : Led) (t : Sem Flow) (Φ : Fl → Loc → Led → Prop) (Ψ : Addr → Loc → Led → Prop) : Prop :=
  ∀ (s : Shared) (G : GM) (Q : Flow → Shared → Prop) (E : Value → Shared → Prop), Rel Γ ρ π G s.heap →
    (∀ fl f ρ' π' G' h' tk', Φ f ρ' π' → Rel Γ ρ' π' G' h' → GLe G G' → FlRd G' fl f → Q fl { s with heap := h', toks := tk' }) →
    (∀ e c ρ' π' G' h' tk', Ψ c ρ' π' → Flies Γ ρ' π' G' e (.ref c) h' → GLe G G' → E (.ref e) { s with heap := h', toks := tk' }) → wpAny (model Ω.prog Ω.w) A t Q E s

/-- a name's place, and the row of values with another value there -/
inductive Put : List (Str × NameKind) → Loc → Str → NameKind → (D → Loc) → Prop
  | here {x k ns o ρ} : Put ((x, k) :: ns) (o :: ρ) x k (fun d => some d :: ρ)
  | there {x k y j o ns ρ f} : Put ns ρ x k f → Put ((y, j) :: ns) (o :: ρ) x k (fun d => o :: f d)
theorem Put.idx {ns : List (Str × NameKind)} {ρ : Loc} {x : Str} {k : NameKind} {f : D → Loc} (h : Put ns ρ x k f) : ∃ i : Nat, ns[i]? = some (x, k) ∧ i < ρ.length ∧ ∀ d, f d = ρ.set i (some d) := by
  induction h with
  | here => exact ⟨0, rfl, Nat.succ_pos _, fun _ => rfl⟩
  | there _ ih =>
    obtain ⟨i, a, b, c⟩ := ih
    exact ⟨i + 1, a, Nat.succ_lt_succ b, fun d => by show _ :: _ = _ :: _; rw [c d]⟩

structure CellsOk (Γ : Ctx) : Prop where
  nd : (Γ.env.cells.map (·.2)).Nodup
  own : ∀ c ∈ Γ.env.cells.map (·.2), Γ.h₀.get? c = none

section
variable {Ω : Wo} {Γ : Ctx} {A : Around} {ρ : Loc} {π : Led} {G : GM} {h h' : Heap}

/-- a frame's object may change so long as it stays no record -/
theorem funFrames_at {b : Addr} (k : ∀ a o, a ≠ b → h.get? a = some o → h'.get? a = some o) (hb : ∀ o, h.get? b = some o → (∀ vs, o.data ≠ .fields vs) → ∃ o', h'.get? b = some o' ∧ ∀ vs, o'.data ≠ .fields vs) :
    ∀ {l : List Env}, h.FunFrames {} l → h'.FunFrames {} l := by
  intro l
  induction l with
  | nil => intro _; trivial
  | cons env l ih =>
    intro ⟨hk, ⟨L, o, hf, hn, ho, hd⟩, hr⟩
    refine ⟨hk, ?_, ih hr⟩
    by_cases q : L = b
    · subst q
      obtain ⟨o', h1, h2⟩ := hb o ho hd
      exact ⟨L, o', hf, hn, h1, h2⟩
    · exact ⟨L, o, hf, hn, k L o q ho, hd⟩

theorem Rel.setLocal {x : Str} {f : D → Loc} {d : D} {v : Value} (C : COk Ω Γ A) (R : Rel Γ ρ π G h) (p : Put Γ.names ρ x .local f) (r : Rd G v d) {m : Str → Option Value} (hm : h.Ns Γ.env.locals m)
    (hm' : h'.Ns Γ.env.locals (fun y => if y = x then some v else m y)) (sb : Heap.SameBut Γ.env.locals h h') : Rel Γ (f d) π G h' := by
  obtain ⟨i, hi, hl, hf⟩ := p.idx
  rw [hf d]
  obtain ⟨aft, frs, frSub, offF, ⟨m₀, hm₀, hv⟩, offL, cl, cv⟩ := R
  have em : m₀ = m := by
    obtain ⟨o, es, ep, ho, hd, _, hn⟩ := hm
    obtain ⟨o', es', ep', ho', hd', _, hn'⟩ := hm₀
    rw [ho] at ho'
    cases ho'
    rw [hd] at hd'
    cases hd'
    funext y
    exact (hn' y).symm.trans (hn y)
  subst em
  have k : ∀ a o, a ≠ Γ.env.locals → h.get? a = some o → h'.get? a = some o := fun a o n e => (sb.2 a n).trans e
  have live : ∀ a, h'.get? a = none → h.get? a = none := fun a e => by
    by_cases q : a = Γ.env.locals
    · subst q
      obtain ⟨o, _, _, ho, _⟩ := hm'
      rw [ho] at e; cases e
    · exact (sb.2 a q).symm.trans e
  have key : ∀ (j : Nat) y (kd : NameKind) e, Γ.names[j]? = some (y, kd) → (ρ.set i (some d))[j]? = some (some e) → (y = x ∧ kd = .local ∧ e = d) ∨ (y ≠ x ∧ ρ[j]? = some (some e)) := fun j y kd e e1 e2 => by
    by_cases q : i = j
    · subst q
      rw [hi] at e1
      cases e1
      rw [List.getElem?_set_self hl] at e2
      cases e2
      exact .inl ⟨rfl, rfl, rfl⟩
    · rw [List.getElem?_set_ne q] at e2
      refine .inr ⟨?_, e2⟩
      rintro rfl
      have h1 := lookup_nodup C.nd hi
      have g1 : (Γ.names.map (·.1))[i]? = some y := by rw [List.getElem?_map, hi]; rfl
      have g2 : (Γ.names.map (·.1))[j]? = some y := by rw [List.getElem?_map, e1]; rfl
      have b1 := (List.getElem?_eq_some_iff.mp g1).1
      exact q ((List.getElem?_inj b1 C.nd).mp (g1.trans g2.symm))
  refine ⟨⟨fun a o e => k a o (fun q => by rw [q, offL.1] at e; cases e) (aft.sub a o e), aft.ext, aft.new, ⟨fun a o e n m => k a o (fun q => by rw [q, offL.2.2] at e; cases e) (aft.stp.keep a o e n m), fun a o e n m => ?_, fun a e => aft.stp.live a (live a e)⟩,
      fun q hq => (aft.led q hq).keep (GLe.refl G) fun b hb o e => k b o (fun z => offL.2.1 (z ▸ mem_adrs hq hb)) e, aft.nodup, aft.off, aft.own⟩,
    funFrames_at k (fun o ho hd => ?_) frs, frSub, offF, ⟨_, hm', fun j y e e1 e2 => ?_⟩, offL, fun c hc => ?_, fun j y kd e e1 e2 e3 => ?_⟩
  · obtain ⟨sl, e1⟩ := aft.stp.slot a o e n m
    exact ⟨sl, k a _ (fun q => by rw [q, offL.2.2] at e; cases e) e1⟩
  · obtain ⟨o', es, ep, ho', hd', _⟩ := hm'
    exact ⟨o', ho', fun vs q => by rw [hd'] at q; cases q⟩
  · rcases key j y .local e e1 e2 with ⟨rfl, _, rfl⟩ | ⟨n, e2'⟩
    · exact ⟨v, if_pos rfl, r⟩
    · obtain ⟨u, h1, h2⟩ := hv j y e e1 e2'
      exact ⟨u, (if_neg n).trans h1, h2⟩
  · obtain ⟨⟨o, v, ho, hd⟩, z⟩ := cl c hc
    exact ⟨⟨o, v, k c o z.2.2.2 ho, hd⟩, z⟩
  · rcases key j y kd e e1 e3 with ⟨_, rfl, _⟩ | ⟨n, e3'⟩
    · rcases e2 with q | q <;> cases q
    · obtain ⟨c, o, u, h1, h2, z⟩ := cv j y kd e e1 e2 e3'
      exact ⟨c, o, u, h1, k c o (cl c (List.mem_map.mpr ⟨(y, c), lookup_mem h1, rfl⟩)).2.2.2.2 h2, z⟩

theorem store_local {s : Shared} {x : Str} {f : D → Loc} {d : D} {v : Value} {Q : Unit → Shared → Prop} {E : Value → Shared → Prop} (C : COk Ω Γ A) (R : Rel Γ ρ π G s.heap) (p : Put Γ.names ρ x .local f) (r : Rd G v d)
    (hQ : ∀ h' tk', Rel Γ (f d) π G h' → Q () { s with heap := h', toks := tk' }) : wpAny (model Ω.prog Ω.w) A (storeName Γ.env x v) Q E s := by
  obtain ⟨i, hi, _⟩ := p.idx
  obtain ⟨m, hm, _⟩ := id R.ns
  refine wpAny_storeName_local (C.kindOf hi) hm (fun h' hn sb => hQ h' _ (R.setLocal C p r hm hn sb)) ?_
  rw [C.kind]; rfl

theorem Rel.setCell {x : Str} {f : D → Loc} {d : D} {v : Value} {c : Addr} (C : COk Ω Γ A) (W : CellsOk Γ) (R : Rel Γ ρ π G h) (p : Put Γ.names ρ x .cell f) (r : Rd G v d) (hc : Γ.env.cells.lookup x = some c)
    (hc' : Heap.IsCell h' c (some v)) (sb : Heap.SameBut c h h') : Rel Γ (f d) π G h' := by
  obtain ⟨i, hi, hl, hf⟩ := p.idx
  rw [hf d]
  obtain ⟨aft, frs, frSub, offF, ⟨m₀, hm₀, hv⟩, offL, cl, cv⟩ := R
  have cm : c ∈ Γ.env.cells.map (·.2) := List.mem_map.mpr ⟨(x, c), lookup_mem hc, rfl⟩
  obtain ⟨⟨oc, vc, hoc, hdc⟩, n1, n2, n3, n4⟩ := cl c cm
  have n5 := W.own c cm
  have k : ∀ a o, a ≠ c → h.get? a = some o → h'.get? a = some o := fun a o n e => (sb.2 a n).trans e
  obtain ⟨o', ho', hd'⟩ := hc'
  have live : ∀ a, h'.get? a = none → h.get? a = none := fun a e => by
    by_cases q : a = c
    · subst q
      rw [ho'] at e; cases e
    · exact (sb.2 a q).symm.trans e
  have key : ∀ (j : Nat) y (kd : NameKind) e, Γ.names[j]? = some (y, kd) → (ρ.set i (some d))[j]? = some (some e) → (y = x ∧ kd = .cell ∧ e = d) ∨ (y ≠ x ∧ ρ[j]? = some (some e)) := fun j y kd e e1 e2 => by
    by_cases q : i = j
    · subst q
      rw [hi] at e1
      cases e1
      rw [List.getElem?_set_self hl] at e2
      cases e2
      exact .inl ⟨rfl, rfl, rfl⟩
    · rw [List.getElem?_set_ne q] at e2
      refine .inr ⟨?_, e2⟩
      rintro rfl
      have g1 : (Γ.names.map (·.1))[i]? = some y := by rw [List.getElem?_map, hi]; rfl
      have g2 : (Γ.names.map (·.1))[j]? = some y := by rw [List.getElem?_map, e1]; rfl
      have b1 := (List.getElem?_eq_some_iff.mp g1).1
      exact q ((List.getElem?_inj b1 C.nd).mp (g1.trans g2.symm))
  refine ⟨⟨fun a o e => k a o (fun q => by rw [q, n1] at e; cases e) (aft.sub a o e), aft.ext, aft.new, ⟨fun a o e n m => k a o (fun q => by rw [q, n5] at e; cases e) (aft.stp.keep a o e n m), fun a o e n m => ?_, fun a e => aft.stp.live a (live a e)⟩,
      fun q hq => (aft.led q hq).keep (GLe.refl G) fun b hb o e => k b o (fun z => n2 (z ▸ mem_adrs hq hb)) e, aft.nodup, aft.off, aft.own⟩,
    funFrames_at k (fun o ho hd => ⟨o', ho', fun vs q => by rw [hd'] at q; cases q⟩) frs, frSub, offF, ⟨m₀, ?_, fun j y e e1 e2 => ?_⟩, offL, fun c₁ hc₁ => ?_, fun j y kd e e1 e2 e3 => ?_⟩
  · obtain ⟨sl, e1⟩ := aft.stp.slot a o e n m
    exact ⟨sl, k a _ (fun q => by rw [q, n5] at e; cases e) e1⟩
  · obtain ⟨o, es, ep, ho, z⟩ := hm₀
    exact ⟨o, es, ep, k _ _ (Ne.symm n4) ho, z⟩
  · rcases key j y .local e e1 e2 with ⟨_, q, _⟩ | ⟨n, e2'⟩
    · cases q
    · exact hv j y e e1 e2'
  · by_cases q : c₁ = c
    · subst q
      exact ⟨⟨o', _, ho', hd'⟩, n1, n2, n3, n4⟩
    · obtain ⟨⟨o, u, ho, hd⟩, z⟩ := cl c₁ hc₁
      exact ⟨⟨o, u, k c₁ o q ho, hd⟩, z⟩
  · rcases key j y kd e e1 e3 with ⟨rfl, rfl, rfl⟩ | ⟨n, e3'⟩
    · exact ⟨c, o', v, hc, ho', hd', r⟩
    · obtain ⟨c₁, o, u, h1, h2, z⟩ := cv j y kd e e1 e2 e3'
      refine ⟨c₁, o, u, h1, k c₁ o (fun q => ?_) h2, z⟩
      subst q
      have m1 := lookup_mem h1
      have m2 := lookup_mem hc
      have := W.nd
      obtain ⟨a1, b1⟩ := List.getElem_of_mem m1
      obtain ⟨b1, b2⟩ := b1
      obtain ⟨a2, c1⟩ := List.getElem_of_mem m2
      obtain ⟨c1, c2⟩ := c1
      have g1 : (Γ.env.cells.map (·.2))[a1]? = some c₁ := by rw [List.getElem?_map, List.getElem?_eq_getElem b1, b2]; rfl
      have g2 : (Γ.env.cells.map (·.2))[a2]? = some c₁ := by rw [List.getElem?_map, List.getElem?_eq_getElem c1, c2]; rfl
      have e := (List.getElem?_inj (List.getElem?_eq_some_iff.mp g1).1 W.nd).mp (g1.trans g2.symm)
      subst e
      rw [b2] at c2
      cases c2
      exact n rfl

theorem store_cell {s : Shared} {x : Str} {f : D → Loc} {d : D} {v : Value} {Q : Unit → Shared → Prop} {E : Value → Shared → Prop} (C : COk Ω Γ A) (W : CellsOk Γ) (R : Rel Γ ρ π G s.heap) (p : Put Γ.names ρ x .cell f) (hx : (Γ.env.cells.lookup x).isSome = true) (r : Rd G v d)
    (hQ : ∀ h' tk', Rel Γ (f d) π G h' → Q () { s with heap := h', toks := tk' }) : wpAny (model Ω.prog Ω.w) A (storeName Γ.env x v) Q E s := by
  obtain ⟨i, hi, _⟩ := p.idx
  obtain ⟨c, hc⟩ := Option.isSome_iff_exists.mp hx
  obtain ⟨⟨o, v₀, ho, hd⟩, _⟩ := R.cl c (List.mem_map.mpr ⟨(x, c), lookup_mem hc, rfl⟩)
  exact wpAny_storeName_cell C.kind (C.kindOf hi) hc ⟨o, ho, hd⟩ fun h' hcell sb => hQ h' _ (R.setCell C W p r hc hcell sb)

/-- a name of the frame's is stored: a local one or a cell -/
inductive Sto (Γ : Ctx) (ρ : Loc) (x : Str) (f : D → Loc) : Prop
  | loc : Put Γ.names ρ x .local f → Sto Γ ρ x f
  | cel : CellsOk Γ → Put Γ.names ρ x .cell f → (Γ.env.cells.lookup x).isSome = true → Sto Γ ρ x f
theorem Sto.run {s : Shared} {x : Str} {f : D → Loc} {d : D} {v : Value} {Q : Unit → Shared → Prop} {E : Value → Shared → Prop} (p : Sto Γ ρ x f) (C : COk Ω Γ A) (R : Rel Γ ρ π G s.heap) (r : Rd G v d)
    (hQ : ∀ h' tk', Rel Γ (f d) π G h' → Q () { s with heap := h', toks := tk' }) : wpAny (model Ω.prog Ω.w) A (storeName Γ.env x v) Q E s := by
  cases p with
  | loc p => exact store_local C R p r hQ
  | cel W p hx => exact store_cell C W R p hx r hQ
end
end

section
open PySem PySem.Calls PySem.W PyProof.Rows
structure Amb (A : Around) (fs : List Env) (n : Nat) : Prop where
  frames : A.frames = some fs
  handled : A.handled = none
  depth : A.depth + 3 * n + 3 < recursionLimit
  units : A.units + 8 * n + 80 < cLine

/-- what a call of f does: to what it is handed, to the mutable objects that it is handed -/
noncomputable def Fn (Ω : Wo) (f : Value) (args : List D) (π : Led) (n : Nat) (Φ : D → Led → Prop) (Ψ : Addr → Led → Prop) : Prop :=
  ∀ (A : Around) (fs : List Env) (s : Shared) (G : GM) (vs : List Value) (Q E : Value → Shared → Prop),
    Amb A fs n → GLe Ω.b.get? G → Sub G s.heap → s.heap.FunFrames ({} : Heap) fs → (∀ a ∈ fad fs, G a = none ∧ a ∉ adrs π) →
    (∀ p ∈ π, MIn G s.heap p.1 p.2) → (adrs π).Nodup → (∀ a ∈ adrs π, G a = none) → RdL G vs args →
    (∀ v d π' G' h' tk', Φ d π' → Aft (fad fs) G s.heap (adrs π) G' h' π' → Rd G' v d → Q v { s with heap := h', toks := tk' }) →
    (∀ e c π' G' h₁ B a0 h' tk', Ψ c π' → Aft (fad fs) G s.heap (adrs π) G' h₁ π' → (∀ a o, h₁.get? a = some o → a ∉ fad fs → B.get? a = some o) →
      (∀ a o, h₁.get? a = some o → a ∈ fad fs → ∃ sl, h'.get? a = some { o with slots := sl }) → Heap.FlyingW B fs e (.ref c) a0 h' → E (.ref e) { s with heap := h', toks := tk' }) →
    codeAny (model Ω.prog Ω.w) A (.call f ⟨vs, []⟩) (fun r s' => match r with | .ok (.ret v) => Q v s' | .ok _ => False | .error e => E e s') s

theorem bindL_of {kindOf : Str → Option NameKind} : ∀ (binds : List (Str × Value)) (m : Str → Option Value) {x : Str} {v : Value}, (binds.map (·.1)).Nodup → (x, v) ∈ binds → kindOf x = some .local → bindL kindOf binds m x = some v := by
  intro binds
  induction binds with
  | nil => intro m x v _ h _; cases h
  | cons p r ih =>
    intro m x v nd h hk
    obtain ⟨y, u⟩ := p
    rw [List.map_cons, List.nodup_cons] at nd
    unfold bindL
    rcases List.mem_cons.mp h with e | h
    · cases e
      rw [if_pos hk]
      have : ∀ (r : List (Str × Value)) (m : Str → Option Value), x ∉ r.map (·.1) → bindL kindOf r m x = m x := by
        intro r
        induction r with
        | nil => intro m _; rfl
        | cons q r ih =>
          intro m hn
          obtain ⟨z, w⟩ := q
          rw [List.map_cons, List.mem_cons, not_or] at hn
          unfold bindL
          rw [ih _ hn.2]
          split
          · exact if_neg hn.1
          · rfl
      rw [this r _ nd.1, if_pos rfl]
    · exact ih _ nd.2 h hk
theorem bindC_of {kindOf : Str → Option NameKind} : ∀ (binds : List (Str × Value)) (m : Str → Option Value) {x : Str} {v : Value}, (binds.map (·.1)).Nodup → (x, v) ∈ binds → kindOf x ≠ some .local → bindC kindOf binds m x = some v := by
  intro binds
  induction binds with
  | nil => intro m x v _ h _; cases h
  | cons p r ih =>
    intro m x v nd h hk
    obtain ⟨y, u⟩ := p
    rw [List.map_cons, List.nodup_cons] at nd
    unfold bindC
    rcases List.mem_cons.mp h with e | h
    · cases e
      rw [if_neg hk]
      have : ∀ (r : List (Str × Value)) (m : Str → Option Value), x ∉ r.map (·.1) → bindC kindOf r m x = m x := by
        intro r
        induction r with
        | nil => intro m _; rfl
        | cons q r ih =>
          intro m hn
          obtain ⟨z, w⟩ := q
          rw [List.map_cons, List.mem_cons, not_or] at hn
          unfold bindC
          rw [ih _ hn.2]
          split
          · rfl
          · exact if_neg hn.1
      rw [this r _ nd.1, if_pos rfl]
    · exact ih _ nd.2 h hk

theorem cellsFrom_fst : ∀ (names : List (Str × NameKind)) (n : Nat) (acc : List (Str × Addr)), (cellsFrom n names acc).map (·.1) = ((names.filter fun x => x.2 == .cell).map (·.1)).reverse ++ acc.map (·.1) := by
  intro names
  induction names with
  | nil => intro n acc; rfl
  | cons x r ih =>
    intro n acc
    obtain ⟨y, k⟩ := x
    unfold cellsFrom
    rw [List.filter_cons]
    by_cases q : (k == NameKind.cell) = true
    · rw [if_pos q, if_pos q, ih]
      simp
    · rw [if_neg q, if_neg q, ih]
theorem cellsFrom_nd {names : List (Str × NameKind)} (nd : (names.map (·.1)).Nodup) (n : Nat) : ((cellsFrom n names []).map (·.1)).Nodup := by
  rw [cellsFrom_fst]
  simp only [List.map_nil, List.append_nil]
  exact List.pairwise_reverse.mpr ((nd.sublist ((List.filter_sublist).map _)).imp fun h => Ne.symm h)

/-- the frame's values at its start: the parameters stand first -/
noncomputable def loc0 (names : List (Str × NameKind)) (args : List D) : Loc := args.map some ++ (names.drop args.length).map fun _ => none

theorem loc0_at {names : List (Str × NameKind)} {args : List D} {i : Nat} {d : D} (h : (loc0 names args)[i]? = some (some d)) : i < args.length ∧ args[i]? = some d := by
  unfold loc0 at h
  by_cases q : i < args.length
  · rw [List.getElem?_append_left (by simpa using q), List.getElem?_map] at h
    refine ⟨q, ?_⟩
    cases z : args[i]? with
    | none => rw [z] at h; cases h
    | some x => rw [z] at h; cases h; rfl
  · rw [List.getElem?_append_right (by simpa using q), List.getElem?_map] at h
    cases z : (names.drop args.length)[i - (args.map some).length]? with
    | none => rw [z] at h; cases h
    | some x => rw [z] at h; cases h

/-- what a def's body is proved under -/
structure Body (Ω : Wo) (names : List (Str × NameKind)) (π : Led) (n : Nat) (Γ : Ctx) (A : Around) : Prop where
  ok : COk Ω Γ A
  nms : Γ.names = names
  cells : CellsOk Γ
  cell : ∀ x, names.lookup x = some .cell → (Γ.env.cells.lookup x).isSome = true
  amb : Amb A Γ.fs n
  W : Γ.W = adrs π
  own : ∃ outer L, Γ.fs = Γ.env :: outer ∧ Γ.env.frame = some L

/-- the frame of a def's call as it begins -/
structure Starts (names : List (Str × NameKind)) (env : Env) (h h₁ : Heap) (binds : List (Str × Value)) : Prop where
  keep : Keeps h h₁
  loc : env.locals = h.objs.size
  frame : env.frame = some h.objs.size
  kind : env.scope.kind = .function
  nms : env.scope.names = names
  ns : h₁.Ns h.objs.size (bindL env.kindOf binds fun _ => none)
  cell : ∀ n c, env.cells.lookup n = some c → h₁.IsCell c (bindC env.kindOf binds (fun _ => none) n)
  above : ∀ n c, (n, c) ∈ env.cells → h.objs.size < c
  cells : env.cells = cellsFrom (h.objs.size + 1) names []
  apart : env.cells.Pairwise fun x y => x.2 ≠ y.2

theorem Rel.start {names : List (Str × NameKind)} {env : Env} {fs : List Env} {h h₁ : Heap} {G : GM} {π : Led} {ps : List Str} {vs : List Value} {args : List D} (S : Starts names env h h₁ (ps.zip vs)) (nd : (names.map (·.1)).Nodup) (hlen : args.length = ps.length) (hrd : RdL G vs args)
    (hps : (names.take ps.length).map (·.1) = ps) (hkinds : ((names.take ps.length).all fun x => x.2 == .local || x.2 == .cell) = true)
    (hsub : Sub G h) (hfr : h.FunFrames ({} : Heap) fs) (hoff : ∀ a ∈ fad fs, G a = none ∧ a ∉ adrs π) (hled : ∀ p ∈ π, MIn G h p.1 p.2) (hnd : (adrs π).Nodup) (hoffG : ∀ a ∈ adrs π, G a = none) :
    Rel ⟨names, env, env :: fs, fad fs, G, h, adrs π⟩ (loc0 names args) π G h₁ := by
  obtain ⟨hkeep, hloc, hframe, hkd, hnm, hns, hcell, hab, hcells, hap⟩ := S
  have hvl : vs.length = ps.length := by rw [hrd.length, hlen]
  have hsL := get_size h
  have hGL : G h.objs.size = none := hsub.none hsL
  have hzip : ((ps.zip vs).map (·.1)) = ps := List.map_fst_zip (Nat.le_of_eq hvl.symm)
  have ndps : ps.Nodup := by
    rw [← hps]
    exact nd.sublist ((List.take_sublist _ _).map _)
  have hcg : ∀ c ∈ env.cells.map (·.2), h.get? c = none ∧ h.objs.size < c := by
    intro c hc
    obtain ⟨p, hp, rfl⟩ := List.mem_map.mp hc
    have := hab p.1 p.2 hp
    refine ⟨?_, this⟩
    cases q : h.get? p.2 with
    | none => rfl
    | some o => exact absurd (Nat.lt_trans this (Heap.lt_size q)) (Nat.lt_irrefl _)
  have exA : ∀ a ∈ adrs π, ∃ o, h.get? a = some o := fun a ha => by
    obtain ⟨p, hp, hb⟩ := List.mem_flatMap.mp ha
    exact (hled p hp).ex a hb
  have exF : ∀ a ∈ fad fs, ∃ o, h.get? a = some o := fun a ha => by
    obtain ⟨_, o, ho, _⟩ := hfr.mem ha
    exact ⟨o, ho⟩
  have ne : ∀ {a b : Addr}, h.get? a = none → (∃ o, h.get? b = some o) → a ≠ b := fun e ⟨o, ho⟩ q => by
    rw [q, ho] at e; cases e
  have hfad : fad (env :: fs) = h.objs.size :: fad fs := by unfold fad; rw [List.filterMap_cons, hframe]
  have hlk : ∀ c ∈ env.cells.map (·.2), ∃ y, env.cells.lookup y = some c := by
    intro c hc
    obtain ⟨p, hp, rfl⟩ := List.mem_map.mp hc
    refine ⟨p.1, lookup_of_mem_nodup ?_ hp⟩
    rw [hcells]
    exact cellsFrom_nd nd _
  have hloc' : ∀ i y k d, names[i]? = some (y, k) → (loc0 names args)[i]? = some (some d) → ∃ v, (y, v) ∈ ps.zip vs ∧ Rd G v d := fun i y k d e1 e2 => by
    obtain ⟨h1, h2⟩ := loc0_at e2
    obtain ⟨v, h3, h4⟩ := RdL.get hrd h2
    refine ⟨v, ?_, h4⟩
    have h5 : (names.take ps.length)[i]? = some (y, k) := by
      rw [List.getElem?_take, if_pos (by omega)]; exact e1
    have h6 : ps[i]? = some y := by rw [← hps, List.getElem?_map, h5]; rfl
    exact List.mem_of_getElem? (List.getElem?_zip_eq_some.mpr ⟨h6, h3⟩ : (ps.zip vs)[i]? = some (y, v))
  have hko : ∀ {i : Nat} {y : Str} {k : NameKind}, names[i]? = some (y, k) → env.kindOf y = some k := fun e => by
    unfold Env.kindOf
    rw [hnm]
    exact lookup_nodup nd e
  refine ⟨⟨fun a o e => hkeep a o (hsub a o e), GLe.refl G, fun a o e => .inl e, ⟨fun a o e _ _ => hkeep a o e, fun a o e _ _ => ⟨o.slots, hkeep a o e⟩, fun a e => Keeps.live hkeep e⟩, fun p hp => (hled p hp).keep (GLe.refl G) fun b _ o e => hkeep b o e, hnd, fun a ha => ⟨hoffG a ha, fun q => (hoff a q).2 ha⟩, fun a ha => .inr ha⟩,
    ⟨?_, ?_, hfr.of_keeps fun b o e _ => ⟨o, hkeep b o e, rfl⟩⟩, ⟨fun a ha => ?_, fun a ha => ?_⟩, fun a ha => ?_, ⟨_, hloc ▸ hns, fun i y d e1 e2 => ?_⟩, ⟨?_, ?_, ?_⟩, fun c hc => ?_, fun i y k d e1 e2 e3 => ?_⟩
  · rw [hkd]; decide
  · obtain ⟨o, es, ep, ho, hd, _⟩ := hns
    exact ⟨_, o, hframe, empty_get _, ho, fun vs q => by rw [hd] at q; cases q⟩
  · show a ∈ fad (env :: fs)
    rw [hfad]; exact .tail _ ha
  · have ha : a ∈ fad (env :: fs) := ha
    rw [hfad] at ha
    rcases List.mem_cons.mp ha with rfl | ha
    · exact .inl hsL
    · exact .inr ha
  · have ha : a ∈ fad (env :: fs) := ha
    rw [hfad] at ha
    rcases List.mem_cons.mp ha with rfl | ha
    · exact ⟨hGL, fun q => ne hsL (exA _ q) rfl⟩
    · exact hoff a ha
  · obtain ⟨v, h1, h2⟩ := hloc' i y .local d e1 e2
    exact ⟨v, bindL_of _ _ (by rw [hzip]; exact ndps) h1 (hko e1), h2⟩
  · show G env.locals = none
    rw [hloc]; exact hGL
  · show env.locals ∉ adrs π
    rw [hloc]; exact fun q => ne hsL (exA _ q) rfl
  · show h.get? env.locals = none
    rw [hloc]; exact hsL
  · obtain ⟨h1, h2⟩ := hcg c hc
    obtain ⟨y, hy⟩ := hlk c hc
    refine ⟨?_, hsub.none h1, fun q => ne h1 (exA _ q) rfl, fun q => ?_, fun q => ?_⟩
    · obtain ⟨o, ho, hd⟩ := hcell y c hy
      exact ⟨o, _, ho, hd⟩
    · have q : c ∈ fad (env :: fs) := q
      rw [hfad] at q
      rcases List.mem_cons.mp q with rfl | q
      · exact Nat.lt_irrefl _ h2
      · exact ne h1 (exF _ q) rfl
    · have q : c = env.locals := q
      rw [hloc] at q
      rw [q] at h2
      exact Nat.lt_irrefl _ h2
  · obtain ⟨v, h1, h2⟩ := hloc' i y k d e1 e3
    have hk := hko e1
    have hkc : k = .cell := by
      rcases e2 with rfl | rfl
      · rfl
      · have h5 : (names.take ps.length)[i]? = some (y, NameKind.free) := by
          rw [List.getElem?_take, if_pos (by have := (loc0_at e3).1; omega)]; exact e1
        have := List.all_eq_true.mp hkinds _ (List.mem_of_getElem? h5)
        simp at this
    subst hkc
    have h6 : (env.cells.lookup y).isSome = true := by
      rw [hcells]
      exact cellsFrom_some _ _ _ (.inl (lookup_nodup nd e1))
    obtain ⟨c, hc⟩ := Option.isSome_iff_exists.mp h6
    obtain ⟨o, ho, hd⟩ := hcell y c hc
    rw [bindC_of _ _ (by rw [hzip]; exact ndps) h1 (by rw [hk]; intro z; cases z)] at hd
    exact ⟨c, o, v, hc, ho, hd, h2⟩

theorem Aft.hide {fr W : List Addr} {G G' : GM} {h h' : Heap} {π : Led} {L : Addr} (a : Aft fr G h W G' h' π) (hL : h.get? L = none) (hG : G' L = none) (hπ : L ∉ adrs π) : Aft fr G h W G' (h'.hide L) π := by
  have k : ∀ {b : Addr} {o : Obj}, b ≠ L → h'.get? b = some o → (h'.hide L).get? b = some o := fun n e => (Heap.hide_ne h' n).trans e
  have nh : ∀ {b : Addr} {o : Obj}, h.get? b = some o → b ≠ L := fun e q => by rw [q, hL] at e; cases e
  refine ⟨fun b o e => k (fun q => by rw [q, hG] at e; cases e) (a.sub b o e), a.ext, a.new, ⟨fun b o e n m => k (nh e) (a.stp.keep b o e n m), fun b o e n m => ?_, fun b e => ?_⟩, fun p hp => (a.led p hp).keep (GLe.refl _) fun b hb o e => k (fun q => hπ (q ▸ mem_adrs hp hb)) e, a.nodup, a.off, a.own⟩
  · obtain ⟨sl, e1⟩ := a.stp.slot b o e n m
    exact ⟨sl, k (nh e) e1⟩
  · by_cases q : b = L
    · rw [q]; exact hL
    · exact a.stp.live b ((Heap.hide_ne h' q).symm.trans e)

theorem Fn.of_def {Ω : Wo} {f : Addr} {args : List D} {π : Led} {n : Nat} {Φ : D → Led → Prop} {Ψ : Addr → Led → Prop} {name qual : Str} {params : Arguments} {body : List Stmt} {scope : Scope} {dV kV doc pm cdv ct oc : Value} {an od : Option Addr} {osl : Array (Option Value)} (ps : List Str) (names : List (Str × NameKind))
    (ho : Ω.K.lookup f = some ⟨oc, od, .func (fnOf name qual params body scope dV kV doc pm an cdv ct), osl⟩) (hcd : codeIn Ω.K cdv qual = true)
    (hbind : ∀ vs : List Value, vs.length = ps.length → bindArgs (fnOf name qual params body scope dV kV doc pm an cdv ct) ⟨vs, []⟩ = pure (ps.zip vs)) (hlen : args.length = ps.length)
    (hn : scope.names = names) (hps : (names.take ps.length).map (·.1) = ps) (hkinds : ((names.take ps.length).all fun x => x.2 == .local || x.2 == .cell) = true) (nd : (names.map (·.1)).Nodup)
    (hco : scope.isCoroutine = false) (hgen : scope.isGenerator = false) (hk : scope.kind = .function)
    (h : ∀ Γ A, Body Ω names π n Γ A → Ex Ω Γ A (loc0 names args) π (execs body Γ.env) (fun fl _ π' => match fl with | .ret d => Φ d π' | .next => Φ .none π' | _ => False) (fun c _ π' => Ψ c π')) :
    Fn Ω (.ref f) args π (n + 1) Φ Ψ := by
  intro A fs s G vs Q E amb hbG hsub hfr hoff hled hnd hoffG hrd hQ hE
  have hstays : ∀ b o, Ω.b.get? b = some o → s.heap.get? b = some o := fun b o e => hsub b o (hbG b o e)
  have X : Ω.K.In s.heap := Ω.kin.keeps hstays
  have T := Ω.top.keeps hstays
  have hvl : vs.length = ps.length := by rw [hrd.length, hlen]
  have hdep := amb.depth
  have hunits := amb.units
  -- a parameter's place
  have hbinds : ∀ m, ∀ x ∈ ps.zip vs, scope.names.lookup x.1 = some .local ∨ (scope.names.lookup x.1 = some .cell ∧ ((cellsFrom m scope.names []).lookup x.1).isSome = true) := by
    intro m ⟨x, v⟩ hm
    obtain ⟨i, hi⟩ := List.getElem?_of_mem hm
    obtain ⟨h1, h2⟩ := List.getElem?_zip_eq_some.mp hi
    have h3 : ((names.take ps.length).map (·.1))[i]? = some x := by rw [hps]; exact h1
    rw [List.getElem?_map] at h3
    cases z : (names.take ps.length)[i]? with
    | none => rw [z] at h3; cases h3
    | some p =>
      obtain ⟨y, k⟩ := p
      rw [z] at h3
      cases h3
      have hp := List.all_eq_true.mp hkinds _ (List.mem_of_getElem? z)
      rw [List.getElem?_take] at z
      split at z
      · rw [hn]
        have h4 := lookup_nodup nd z
        have : k = .local ∨ k = .cell := by simpa using hp
        rcases this with rfl | rfl
        · exact .inl h4
        · exact .inr ⟨h4, cellsFrom_some _ _ _ (.inl h4)⟩
      · cases z
  refine codeAny_call_function (by omega) (X _ _ ho) rfl hco hgen rfl (codeRec_of X hcd) ?_
  rw [hbind vs hvl]
  refine wpAny_pure (wpAny_newFunctionEnv_cells hk (hbinds _) fun env henv s' x => ?_)
  have hkeep := x.toInCall.keep
  refine ⟨T.nolimit.keeps hkeep, codeAny_func ?_⟩
  obtain ⟨h₁, tk, hs', _⟩ := x.done
  subst hs'
  have S : Starts names env s.heap h₁ (ps.zip vs) := by
    refine ⟨hkeep, by rw [henv]; rfl, by rw [henv]; rfl, by rw [henv]; exact hk, by rw [henv]; exact hn, ?_, x.cell, fun n c hm => ?_, by rw [henv]; show cellsFrom _ scope.names _ = _; rw [hn], x.apart⟩
    · have := x.toInCall.ns
      rw [show env.locals = s.heap.objs.size from by rw [henv]; rfl] at this
      exact this
    · have := x.above n c hm
      rw [show env.locals = s.heap.objs.size from by rw [henv]; rfl] at this
      exact this
  have R := Rel.start S nd hlen hrd hps hkinds hsub hfr hoff hled hnd hoffG
  have hfrs : (A.deeper env).frames = some (env :: fs) := Around.frames_deeper amb.frames
  have b : Body Ω names π n ⟨names, env, env :: fs, fad fs, G, s.heap, adrs π⟩ (A.deeper env) := by
    refine ⟨⟨hfrs, S.kind, ?_, ?_, S.nms, nd, ⟨hstays, hbG⟩, fun a ha => (by obtain ⟨p, hp, hb⟩ := List.mem_flatMap.mp ha; exact (hled p hp).ex a hb)⟩, rfl, ⟨?_, fun c hc => ?_⟩, fun y hy => ?_, ⟨hfrs, amb.handled, ?_, ?_⟩, rfl, ⟨fs, s.heap.objs.size, rfl, S.frame⟩⟩
    · show env.globals = mainGlobals
      rw [henv]; rfl
    · show env.builtins = builtinsNs
      rw [henv]; rfl
    · exact List.pairwise_map.mpr S.apart
    · obtain ⟨p, hp, rfl⟩ := List.mem_map.mp hc
      cases q : s.heap.get? p.2 with
      | none => rfl
      | some o => exact absurd (Nat.lt_trans (S.above p.1 p.2 hp) (Heap.lt_size q)) (Nat.lt_irrefl _)
    · show (env.cells.lookup y).isSome = true
      rw [S.cells]
      exact cellsFrom_some _ _ _ (.inl hy)
    · show A.depth + 1 + 3 * n + 3 < recursionLimit
      omega
    · show A.units + 3 + 8 * n + 80 < cLine
      omega
  refine wpAny_mono (h _ _ b _ G (fun fl s' => _) (fun e s' => _) R (fun fl f ρ' π' G' h' tk' hΦ R' g r => ?_) (fun e c ρ' π' G' h' tk' hΨ F' _ => ?_)) (fun _ _ z => z) fun _ _ z => z
  · cases r with
    | next => exact hQ _ _ π' G' h' tk' hΦ R'.aft .none
    | brk => exact hΦ.elim
    | cont => exact hΦ.elim
    | ret r => exact hQ _ _ π' G' h' tk' hΦ R'.aft r
  · obtain ⟨h₂, B, R₂, hB, hsl, X'⟩ := F'.out
    have hfad : fad (env :: fs) = s.heap.objs.size :: fad fs := by unfold fad; rw [List.filterMap_cons, S.frame]
    have hLn : ∀ a ∈ fad fs, a ≠ s.heap.objs.size := fun a ha q => by
      obtain ⟨_, o, ho, _⟩ := hfr.mem ha
      rw [q, get_size] at ho; cases ho
    have hL := R₂.offL
    have hLe : env.locals = s.heap.objs.size := S.loc
    refine exc_leave X' hfrs S.frame fun h'' a0 hfl hu => ?_
    refine hE e c π' G' (h₂.hide s.heap.objs.size) B a0 h'' tk' hΨ (R₂.aft.hide (get_size _) (hLe ▸ hL.1) (hLe ▸ hL.2.1)) (fun a o e n => ?_) (fun a o e n => ?_) hfl
    · have e1 := Heap.of_hide e
      refine hB a o e1 fun q => ?_
      have q : a ∈ fad (env :: fs) := q
      rw [hfad] at q
      rcases List.mem_cons.mp q with rfl | q
      · rw [Heap.hide_self] at e; cases e
      · exact n q
    · have e1 := Heap.of_hide e
      obtain ⟨sl, e2⟩ := hsl a o e1 (by show a ∈ fad (env :: fs); rw [hfad]; exact .tail _ n)
      obtain ⟨_, o', ho', hnf⟩ := R₂.frs.mem (show a ∈ fad (env :: fs) by rw [hfad]; exact .tail _ n)
      rw [e1] at ho'
      cases ho'
      obtain ⟨sl', e3⟩ := hu a _ e2 hnf
      exact ⟨sl', e3⟩
end

section
open PySem PySem.Calls PySem.W PyProof.Rows
noncomputable def handD : D → Prop
  | .raw v => handedIn v = true
  | _ => True
theorem Rd.handed {G : GM} {v : Value} {d : D} (r : Rd G v d) (h : handD d) : handedIn v = true := by
  cases r <;> first | exact h | rfl

/-- an object: frozen or mutable -/
inductive InsD (π : Led) : D → Addr → List (Str × D) → Prop
  | fro (C : Addr) (fs : List (Str × D)) : InsD π (.inst C fs) C fs
  | mu {a C dx : Addr} {fs : List (Str × D)} : (a, MO.inst C dx fs) ∈ π → InsD π (.raw (.ref a)) C fs
/-- a list: frozen or mutable -/
inductive LstD (π : Led) : D → List D → Prop
  | fro (ds : List D) : LstD π (.list ds) ds
  | mu {a : Addr} {ds : List D} : (a, MO.list ds) ∈ π → LstD π (.raw (.ref a)) ds

section
variable {Ω : Wo} {Γ : Ctx} {A : Around} {ρ : Loc} {π : Led} {G : GM} {h : Heap}

theorem InsD.at {d : D} {C : Addr} {fs : List (Str × D)} {v : Value} (i : InsD π d C fs) (R : Rel Γ ρ π G h) (r : Rd G v d) :
    ∃ x dx es n, v = .ref x ∧ h.get? x = some (instObj C dx) ∧ h.get? dx = some (dictOf es n) ∧ RdF G es fs := by
  cases i with
  | fro C fs =>
    cases r with
    | inst h1 h2 h3 => exact ⟨_, _, _, _, rfl, R.sub _ _ h1, R.sub _ _ h2, h3⟩
  | mu hm =>
    cases r
    obtain ⟨es, n, h1, h2, h3⟩ := R.aft.led _ hm
    exact ⟨_, _, es, n, rfl, h1, h2, h3⟩
theorem LstD.at {d : D} {ds : List D} {v : Value} (i : LstD π d ds) (R : Rel Γ ρ π G h) (r : Rd G v d) : ∃ x vs, v = .ref x ∧ h.IsList x vs.toArray ∧ RdL G vs ds := by
  cases i with
  | fro ds =>
    cases r with
    | list h1 h2 h3 h4 => exact ⟨_, _, rfl, ⟨_, R.sub _ _ h1, h2, _, h3⟩, h4⟩
  | mu hm =>
    cases r
    obtain ⟨vs, n, h1, h4⟩ := R.aft.led _ hm
    exact ⟨_, vs, rfl, ⟨_, h1, rfl, n, rfl⟩, h4⟩

theorem inst_at {x C dx : Addr} {es : List DictEntry} {n : Nat} (h1 : h.get? x = some (instObj C dx)) (h2 : h.get? dx = some (dictOf es n)) : W.InstAt h x (instObj C dx) C (some (dictOf es n)) := ⟨h1, rfl, rfl, h2⟩

/-- what a class says of an attribute that its instances hold -/
structure GetOk (K : Frag) (C : Addr) (name : Str) : Prop where
  get : plainGet K C name = true
  dict : hasDictIn K C = true
  attr : ∃ a, findIn K (.ref C) name = some a ∧ noGet K a = true
noncomputable def getOkB (K : Frag) (C : Addr) (name : Str) : Bool := plainGet K C name && hasDictIn K C && (match findIn K (.ref C) name with | some a => noGet K a | none => false)
theorem GetOk.of {K : Frag} {C : Addr} {name : Str} (e : getOkB K C name = true) : GetOk K C name := by
  unfold getOkB at e
  simp only [Bool.and_eq_true] at e
  obtain ⟨⟨e1, e2⟩, e3⟩ := e
  refine ⟨e1, e2, ?_⟩
  split at e3
  · rename_i a ha; exact ⟨a, ha, e3⟩
  · cases e3

theorem EvP.attr {o : Expr} {name : Str} {pos : Pos} {d e : D} {C : Addr} {fs : List (Str × D)} (K : COk Ω Γ A) (ho : EvP Ω Γ A ρ π (eval o Γ.env) d) (i : InsD π d C fs) (hl : fs.lookup name = some e) (g : GetOk Ω.K C name) (hh : handD e)
    (he : eval (.Attribute o name pos) Γ.env = (do let ov ← eval o Γ.env; standAt pos.atName; let r ← holding [ov] (getAttr ov name true); letTemporaryGo o ov r; pure r) := by rfl) :
    EvP Ω Γ A ρ π (eval (.Attribute o name pos) Γ.env) e := by
  intro s G Q E R hQ
  refine Attribute_any_ (ho s G _ E R fun v G1 h1 tk1 R1 g1 r1 => ?_) he
  obtain ⟨x, dx, es, n, rfl, hx, hd, rf⟩ := i.at R1 r1
  obtain ⟨u, hu, ru⟩ := rf.look hl
  obtain ⟨a, ha, hn⟩ := g.attr
  refine get_value (R1.kin K) (inst_at hx hd) (plainGet_of g.get).1 (findObj_own g.dict ha hn hu) (ru.handed hh) ?_
  exact hQ u G1 h1 _ R1 g1 ru

structure SetOk (K : Frag) (C : Addr) (name : Str) : Prop where
  set : findIn K (.ref C) "__setattr__" = some (some (.builtin "object.__setattr__"))
  over : plainOver K C = true
  take : takerIn K C name = some none
  dict : (clsIn K C).any (·.hasDict) = true
noncomputable def setOkB (K : Frag) (C : Addr) (name : Str) : Bool := (findIn K (.ref C) "__setattr__" == some (some (.builtin "object.__setattr__"))) && plainOver K C && (takerIn K C name == some none) && (clsIn K C).any (·.hasDict)
theorem SetOk.of {K : Frag} {C : Addr} {name : Str} (e : setOkB K C name = true) : SetOk K C name := by
  unfold setOkB at e
  simp only [Bool.and_eq_true, beq_iff_eq] at e
  obtain ⟨⟨⟨e1, e2⟩, e3⟩, e4⟩ := e
  exact ⟨e1, e2, e3, e4⟩

theorem osa_raw {s : Shared} {x C dx : Addr} {es : List DictEntry} {n : Nat} {name : Str} {tk : Tok} {v : Value} {R : Result → Shared → Prop} (X : Ω.K.In s.heap) (hx : s.heap.get? x = some (instObj C dx)) (hd : s.heap.get? dx = some (dictOf es n)) (g : SetOk Ω.K C name)
    (hk : getL name es ≠ none) (hz : (putL name (PyData.keyHash Ω.w.params name) (.str name s.toks) v es).length ≤ 900)
    (hQ : ∀ h', Heap.SameBut dx s.heap h' → h'.get? dx = some (dictOf (putL name (PyData.keyHash Ω.w.params name) (.str name s.toks) v es) (putN name es n)) → R (.ok (.ret .none)) { s with heap := h', toks := s.toks + 1 }) :
    codeAny (model Ω.prog Ω.w) A (.call (.builtin "object.__setattr__") ⟨[.ref x, .str name tk, v], []⟩) R s := by
  have I := inst_at hx hd
  refine osa_open X I g.over g.take fun b => ?_
  obtain ⟨cd, hc, hd'⟩ := any_some g.dict
  refine wpAny_bind (wpAny_pure (wpAny_bind (wpAny_bind (wpAny_loadPart hx (wpAny_bind ((looks_clsIn X hc).here ?_))))))
  rw [hd']
  refine wpAny_pure (a := some dx) (wpAny_bind (wpAny_pure (wpAny_bind ?_)))
  unfold nsSet
  refine wpAny_bind (wpAny_bind (wpAny_askSetting (wpAny_pure (wpAny_bind (wpAny_mkText (wpAny_bind (wpAny_loadPart hd ?_)))))))
  dsimp only
  have c : (!es.toArray.any (·.key.isStr name) && es.toArray.any (·.refKey)) = false := by
    rw [← Array.any_toList, ← Array.any_toList]
    unfold getL at hk
    split at hk
    · rename_i en he
      rw [List.any_eq_true.mpr ⟨en, List.mem_of_find?_eq_some he, List.find?_some he⟩]; rfl
    · split at hk
      · exact absurd rfl hk
      · rename_i z; rw [Bool.not_eq_true] at z; rw [z, Bool.and_false]
  rw [aRefKeyMayBeTheName_at, c]
  have ep := putName_dict name (PyData.keyHash Ω.w.params name) (.str name s.toks) v es n
  have D' := Heap.get?_update_self (Obj.putName name (PyData.keyHash Ω.w.params name) (.str name s.toks) v) hd (by rw [ep]; rfl)
  rw [ep] at D'
  refine wpAny_updatePart hd ?_
  refine wpAny_bind (wpAny_lookBehind D' (pastItsLine_dict (by rw [List.size_toArray, sizeLine_eq]; omega)) ?_)
  exact wpAny_pure (hQ _ (Heap.SameBut.update ..) D')

theorem set_raw {s : Shared} {x C dx : Addr} {es : List DictEntry} {n : Nat} {name : Str} {v : Value} {Q : Unit → Shared → Prop} {E : Value → Shared → Prop} (X : Ω.K.In s.heap) (hx : s.heap.get? x = some (instObj C dx)) (hd : s.heap.get? dx = some (dictOf es n)) (g : SetOk Ω.K C name)
    (hk : getL name es ≠ none) (hz : es.length ≤ 800)
    (hQ : ∀ h' hs t n', Heap.SameBut dx s.heap h' → h'.get? dx = some (dictOf (putL name hs (.str name t) v es) n') → Q () { s with heap := h', toks := s.toks + 2 }) : wpAny (model Ω.prog Ω.w) A (setAttr (.ref x) name v) Q E s := by
  have hlen : ∀ (hs : Int) (k : Value), (putL name hs k v es).length ≤ es.length + 1 := by
    intro hs k
    clear hd hk hz hQ
    induction es with
    | nil => exact Nat.le_refl _
    | cons e r ih =>
      unfold putL
      split
      · rw [List.length_cons, List.length_cons]; omega
      · rw [List.length_cons, List.length_cons]; omega
  exact set_plain X (inst_at hx hd) g.set (osa_raw (s := { s with toks := s.toks + 1 }) X hx hd g hk (Nat.le_trans (hlen _ _) (by omega)) fun h' sb hg => hQ h' _ _ _ sb hg)

theorem RdF.known {es : List DictEntry} {fs : List (Str × D)} (h : RdF G es fs) (x : Str) : getL x es ≠ none := by
  cases e : fs.lookup x with
  | none => rw [h.miss e]; intro q; cases q
  | some d =>
    obtain ⟨v, hv, _⟩ := h.look e
    rw [hv]; intro q; cases q

/-- an attribute of a mutable object is stored -/
theorem Rel.setAttr {s : Shared} {πa πb : Led} {a C dx : Addr} {fs : List (Str × D)} {name : Str} {v : Value} {d : D} {Q : Unit → Shared → Prop} {E : Value → Shared → Prop} (K : COk Ω Γ A) (R : Rel Γ ρ (πa ++ (a, .inst C dx fs) :: πb) G s.heap) (g : SetOk Ω.K C name) (hz : fs.length ≤ 800) (r : Rd G v d)
    (hQ : ∀ h' tk', Rel Γ ρ (πa ++ (a, .inst C dx (put name d fs)) :: πb) G h' → Q () { s with heap := h', toks := tk' }) : wpAny (model Ω.prog Ω.w) A (PySem.setAttr (.ref a) name v) Q E s := by
  obtain ⟨es, n, h1, h2, rf⟩ := R.aft.led (a, .inst C dx fs) (List.mem_append_right _ (.head _))
  have ha : a ≠ dx := fun q => by
    have := R.aft.nodup
    rw [adrs_append, adrs_cons] at this
    have := (List.nodup_append.mp (List.nodup_append.mp this).2.1).1
    rw [q] at this
    exact (List.nodup_cons.mp this).1 (.head _)
  refine set_raw (R.kin K) h1 h2 g (rf.known name) (by rw [rf.length]; exact hz) fun h' hs t n' sb hg => hQ h' _ ?_
  refine R.setMut (fun b o e nb => ?_) (fun b e => ?_) rfl ⟨_, n', ?_, hg, rf.put r⟩
  · exact (sb.2 b fun q => nb (q ▸ .tail _ (.head _))).trans e
  · by_cases q : b = dx
    · subst q; rw [hg] at e; cases e
    · exact (sb.2 b q).symm.trans e
  · exact (sb.2 a ha).trans h1
end
end

section
open PySem PySem.Calls PySem.W PyProof.Rows
section
variable {Ω : Wo} {Γ : Ctx} {A : Around} {ρ : Loc} {π : Led} {G G' : GM} {h h' : Heap}

theorem nodup_sub {l₁ l₂ : List Addr} (h : (l₁ ++ l₂).Nodup) : ∀ a ∈ l₁, a ∉ l₂ := fun a h1 h2 => (List.nodup_append.mp h).2.2 a h1 a h2 rfl

theorem Rel.call {π₁ π₂ π₁' : Led} (R : Rel Γ ρ (π₁ ++ π₂) G h) (a : Aft (fad Γ.fs) G h (adrs π₁) G' h' π₁') : Rel Γ ρ (π₁' ++ π₂) G' h' := by
  obtain ⟨aft, frs, frSub, offF, ⟨m, hm, hv⟩, offL, cl, cv⟩ := id R
  have nd := aft.nodup
  rw [adrs_append] at nd
  have in1 : ∀ b ∈ adrs π₁, b ∈ adrs (π₁ ++ π₂) := fun b hb => by rw [adrs_append]; exact List.mem_append_left _ hb
  have in2 : ∀ b ∈ adrs π₂, b ∈ adrs (π₁ ++ π₂) := fun b hb => by rw [adrs_append]; exact List.mem_append_right _ hb
  have own1 : ∀ b ∈ adrs π₁, Γ.h₀.get? b = none ∨ b ∈ Γ.W := fun b hb => aft.own b (in1 b hb)
  -- what stands stays free of the callee's frozen objects
  have no : ∀ b, G b = none → (∃ o, h.get? b = some o) → G' b = none := fun b e ⟨o, ho⟩ => by
    cases q : G' b with
    | none => rfl
    | some x =>
      rcases a.new b x q with z | z
      · rw [e] at z; cases z
      · rw [ho] at z; cases z
  have n1 : ∀ b, (∃ o, h.get? b = some o) → b ∉ adrs π₁ → b ∉ adrs π₁' := fun b ⟨o, ho⟩ hb q => by
    rcases a.own b q with z | z
    · rw [ho] at z; cases z
    · exact hb z
  have k : ∀ b o, h.get? b = some o → b ∉ adrs π₁ → b ∉ fad Γ.fs → h'.get? b = some o := a.stp.keep
  have up : ∀ b o, h.get? b = some o → b ∉ adrs π₁ → ∃ sl, h'.get? b = some { o with slots := sl } := fun b o e nb => by
    by_cases z : b ∈ fad Γ.fs
    · exact a.stp.slot b o e nb z
    · exact ⟨o.slots, k b o e nb z⟩
  have mem : ∀ {b}, b ∈ adrs (π₁' ++ π₂) → b ∈ adrs π₁' ∨ b ∈ adrs π₂ := fun hb => by
    rw [adrs_append] at hb; exact List.mem_append.mp hb
  have off2 : ∀ b, (∃ o, h.get? b = some o) → b ∉ adrs (π₁ ++ π₂) → b ∉ adrs (π₁' ++ π₂) := fun b hb nb q => by
    rcases mem q with q | q
    · exact n1 b hb (fun z => nb (in1 b z)) q
    · exact nb (in2 b q)
  refine ⟨⟨a.sub, aft.ext.trans a.ext, fun b o e => ?_, aft.stp.then a.stp own1 frSub.2 frSub.1, fun p hp => ?_, ?_, fun b hb => ?_, fun b hb => ?_⟩, ?_, frSub, fun b hb => ⟨no b (offF b hb).1 (R.exF b hb), off2 b (R.exF b hb) (offF b hb).2⟩,
    ⟨m, ?_, fun i x d e1 e2 => ?_⟩, ⟨no _ offL.1 R.exL, off2 _ R.exL offL.2.1, offL.2.2⟩, fun c hc => ?_, fun i x kd d e1 e2 e3 => ?_⟩
  · rcases a.new b o e with z | z
    · exact aft.new b o z
    · exact .inr (aft.stp.live b z)
  · rcases List.mem_append.mp hp with hp | hp
    · exact a.led p hp
    · refine (aft.led p (List.mem_append_right _ hp)).keep a.ext fun b hb o e => k b o e (fun q => nodup_sub nd b q (mem_adrs hp hb)) fun q => (offF b q).2 (in2 b (mem_adrs hp hb))
  · rw [adrs_append]
    exact List.nodup_append.mpr ⟨a.nodup, (List.nodup_append.mp nd).2.1, fun x hx y hy q => by
      subst q
      exact n1 x (R.exM x (in2 x hy)) (fun z => nodup_sub nd x z hy) hx⟩
  · rcases mem hb with hb | hb
    · exact ⟨(a.off b hb).1, fun q => (a.off b hb).2 (frSub.1 b q)⟩
    · exact ⟨no b (aft.off b (in2 b hb)).1 (R.exM b (in2 b hb)), (aft.off b (in2 b hb)).2⟩
  · rcases mem hb with hb | hb
    · rcases a.own b hb with z | z
      · exact .inl (aft.stp.live b z)
      · exact own1 b z
    · exact aft.own b (in2 b hb)
  · have : ∀ (l : List Env), (∀ a ∈ fad l, a ∈ fad Γ.fs) → h.FunFrames {} l → h'.FunFrames {} l := by
      intro l
      induction l with
      | nil => intro _ _; trivial
      | cons env l ih =>
        intro hs ⟨hk, ⟨L, o, hf, hn, ho, hd⟩, hr⟩
        have e : fad (env :: l) = L :: fad l := by unfold fad; rw [List.filterMap_cons, hf]
        obtain ⟨sl, e1⟩ := up L o ho fun q => (offF L (hs L (e ▸ .head _))).2 (in1 L q)
        exact ⟨hk, ⟨L, _, hf, hn, e1, hd⟩, ih (fun a ha => hs a (e ▸ .tail _ ha)) hr⟩
    exact this _ (fun _ h => h) frs
  · obtain ⟨o, es, ep, ho, hd, z⟩ := hm
    obtain ⟨sl, e1⟩ := up _ o ho fun q => offL.2.1 (in1 _ q)
    exact ⟨_, es, ep, e1, hd, z⟩
  · obtain ⟨v, h1, h2⟩ := hv i x d e1 e2
    exact ⟨v, h1, h2.mono a.ext⟩
  · obtain ⟨⟨o, v, ho, hd⟩, h2, h3, h4, h5⟩ := cl c hc
    exact ⟨⟨o, v, k c o ho (fun q => h3 (in1 c q)) h4, hd⟩, no c h2 ⟨o, ho⟩, off2 c ⟨o, ho⟩ h3, h4, h5⟩
  · obtain ⟨c, o, v, h1, h2, h3, r⟩ := cv i x kd d e1 e2 e3
    have z := cl c (List.mem_map.mpr ⟨(x, c), lookup_mem h1, rfl⟩)
    exact ⟨c, o, v, h1, k c o h2 (fun q => z.2.2.1 (in1 c q)) z.2.2.2.1, h3, r.mono a.ext⟩

/-- the value of a call of what is f: to a row of values -/
theorem call_of {f : Value} {args : List D} {π₁ π₂ : Led} {n : Nat} {Φ : D → Led → Prop} {Ψ : Addr → Led → Prop} (K : COk Ω Γ A) (amb : Amb A Γ.fs n) (F : Fn Ω f args π₁ n Φ Ψ) {s : Shared} {vs : List Value} {Q E : Value → Shared → Prop}
    (R : Rel Γ ρ (π₁ ++ π₂) G s.heap) (hr : RdL G vs args)
    (hQ : ∀ v d π' G' h' tk', Φ d π' → Rel Γ ρ (π' ++ π₂) G' h' → GLe G G' → Rd G' v d → Q v { s with heap := h', toks := tk' })
    (hE : ∀ e c π' G' h' tk', Ψ c π' → Flies Γ ρ (π' ++ π₂) G' e (.ref c) h' → GLe G G' → E (.ref e) { s with heap := h', toks := tk' }) : wpAny (model Ω.prog Ω.w) A (call f vs) Q E s := by
  have in1 : ∀ b ∈ adrs π₁, b ∈ adrs (π₁ ++ π₂) := fun b hb => by rw [adrs_append]; exact List.mem_append_left _ hb
  have nd := R.aft.nodup
  rw [adrs_append] at nd
  refine wpAny_call (F A Γ.fs s G vs Q E amb (R.inG K) R.sub R.frs (fun a ha => ⟨(R.offF a ha).1, fun q => (R.offF a ha).2 (in1 a q)⟩) (fun p hp => R.aft.led p (List.mem_append_left _ hp)) (List.nodup_append.mp nd).1 (fun a ha => (R.aft.off a (in1 a ha)).1) hr
    (fun v d π' G' h' tk' hΦ a r => hQ v d π' G' h' tk' hΦ (R.call a) a.ext r) fun e c π' G' h₁ B a0 h' tk' hΨ a hB hs hf => hE e c π' G' h' tk' hΨ ⟨h₁, B, R.call a, hB, hs, .fly hf⟩ a.ext)

theorem ElP.nil {pos : Pos} : ElP Ω Γ A ρ π (spliced (backTo pos (starEach [] Γ.env))) [] := fun s G Q E R hQ => wpAny_pure (hQ [] G s.heap s.toks R (GLe.refl G) .nil)
theorem ElP.cons {pos : Pos} {e : Expr} {es : List Expr} {d : D} {ds : List D} (h : EvP Ω Γ A ρ π (eval e Γ.env) d) (t : ElP Ω Γ A ρ π (spliced (backTo pos (starEach es Γ.env))) ds)
    (he : starEach (e :: es) Γ.env = (false, eval e Γ.env) :: starEach es Γ.env := by rfl) : ElP Ω Γ A ρ π (spliced (backTo pos (starEach (e :: es) Γ.env))) (d :: ds) := by
  intro s G Q E R hQ
  rw [he]
  show wpAny _ _ (spliced ((false, eval e Γ.env) :: backTo pos (starEach es Γ.env))) _ _ _
  exact spliced_cons (h s G _ E R fun v G1 h1 tk1 R1 g1 r1 => t _ G1 _ E R1 fun vs G2 h2 tk2 R2 g2 r2 => hQ (v :: vs) G2 h2 tk2 R2 (g1.trans g2) (.cons (r1.mono g2) r2))

/-- the arguments, and the call of a def's or a class's -/
theorem callWith_of' {pos : Pos} {f : Value} {first : List Value} {es : List Expr} {ds : List D} {s : Shared} {Q E : Value → Shared → Prop} (K : COk Ω Γ A) (hk : keepIn Ω.K f = true) (a : ElP Ω Γ A ρ π (spliced (backTo pos (starEach es Γ.env))) ds) (R : Rel Γ ρ π G s.heap)
    (h : ∀ vs G' h' tk', Rel Γ ρ π G' h' → GLe G G' → RdL G' vs ds → wpAny (model Ω.prog Ω.w) A (call f (first ++ vs)) Q E { s with heap := h', toks := tk' })
    (hs : ((backTo pos (starEach es Γ.env)).any (·.1)) = false) (hz : es = [] → ds = []) :
    wpAny (model Ω.prog Ω.w) A (callWith pos f first (backTo pos (starEach es Γ.env)) []) Q E s := by
  refine callWith_of (P := fun h => Ω.K.In h) (by rw [hs]; rfl) (keeps_K hk) ?_
  cases es with
  | nil =>
    refine evalArgs_nil3 ⟨R.kin K, ?_⟩
    rw [hz rfl] at h
    exact h [] G s.heap s.toks R (GLe.refl G) .nil
  | cons e es =>
    have sh : ∃ x rest, backTo pos (starEach (e :: es) Γ.env) = (false, x) :: rest := by
      cases q : backTo pos (starEach (e :: es) Γ.env) with
      | nil =>
        unfold backTo at q
        have := List.map_eq_nil_iff.mp q
        cases e <;> cases this
      | cons p r =>
        obtain ⟨b, x⟩ := p
        rw [q, List.any_cons] at hs
        cases b with
        | true => simp at hs
        | false => exact ⟨x, r, rfl⟩
    obtain ⟨x, rest, hsh⟩ := sh
    rw [hsh] at a ⊢
    exact evalArgs_plain (a s G _ E R fun vs G' h' tk' R' g r => ⟨R'.kin K, h vs G' h' tk' R' g r⟩)

/-- what a call gives and does, over the whole ledger -/
noncomputable def OnL (π₂ : Led) (Φ : D → Led → Prop) (d : D) (π' : Led) : Prop := ∃ π₁, Φ d π₁ ∧ π' = π₁ ++ π₂
noncomputable def OnC (π₂ : Led) (Ψ : Addr → Led → Prop) (c : Addr) (π' : Led) : Prop := ∃ π₁, Ψ c π₁ ∧ π' = π₁ ++ π₂

theorem Ev.call {fe : Expr} {es : List Expr} {pos : Pos} {f : Value} {ds : List D} {π₁ π₂ : Led} {n : Nat} {Φ : D → Led → Prop} {Ψ : Addr → Led → Prop} (K : COk Ω Γ A) (amb : Amb A Γ.fs n) (F : Fn Ω f ds π₁ n Φ Ψ) (hp : π.Perm (π₁ ++ π₂)) (hf : EvP Ω Γ A ρ π (eval fe Γ.env) (.raw f)) (hk : keepIn Ω.K f = true)
    (a : ElP Ω Γ A ρ π (spliced (backTo pos (starEach es Γ.env))) ds) (hs : ((backTo pos (starEach es Γ.env)).any (·.1)) = false := by rfl) (hz : es = [] → ds = [] := by first | (intro h; cases h; done) | (intro _; rfl))
    (he : eval (.Call fe es [] pos) Γ.env = (do callWith pos (← eval fe Γ.env) [] (backTo pos (starEach es Γ.env)) (backToKw pos (keywordEach [] Γ.env))) := by rfl) :
    Ev Ω Γ A ρ π (eval (.Call fe es [] pos) Γ.env) (OnL π₂ Φ) (OnC π₂ Ψ) := by
  intro s G Q E R hQ hE
  rw [he]
  refine wpAny_bind (hf s G _ E R fun v G1 h1 tk1 R1 g1 r1 => ?_)
  cases r1
  refine callWith_of' (G := G1) K hk a R1 (fun vs G2 h2 tk2 R2 g2 r2 => ?_) hs hz
  exact call_of (G := G2) (π₂ := π₂) K amb F (R2.perm hp) r2 (fun v d π' G3 h3 tk3 hΦ R3 g3 r3 => hQ v d _ G3 h3 tk3 ⟨π', hΦ, rfl⟩ R3 (g1.trans (g2.trans g3)) r3) fun e c π' G3 h3 tk3 hΨ F3 g3 => hE e c _ G3 h3 tk3 ⟨π', hΨ, rfl⟩ F3 (g1.trans (g2.trans g3))

/-- a method of an object's class -/
structure MetOk (K : Frag) (C : Addr) (name : Str) (f : Addr) : Prop where
  get : plainGet K C name = true
  find : findIn K (.ref C) name = some (some (.ref f))
  fn : typeIn K (.ref f) = some (.type "function")
  keep : keepIn K (.ref f) = true
noncomputable def metOkB (K : Frag) (C : Addr) (name : Str) (f : Addr) : Bool := plainGet K C name && (findIn K (.ref C) name == some (some (.ref f))) && (typeIn K (.ref f) == some (.type "function")) && keepIn K (.ref f)
theorem MetOk.of {K : Frag} {C : Addr} {name : Str} {f : Addr} (e : metOkB K C name f = true) : MetOk K C name f := by
  unfold metOkB at e
  simp only [Bool.and_eq_true, beq_iff_eq] at e
  obtain ⟨⟨⟨e1, e2⟩, e3⟩, e4⟩ := e
  exact ⟨e1, e2, e3, e4⟩

theorem Ev.method {o : Expr} {name : Str} {apos pos : Pos} {es : List Expr} {f C : Addr} {fs : List (Str × D)} {d : D} {ds : List D} {π₁ π₂ : Led} {n : Nat} {Φ : D → Led → Prop} {Ψ : Addr → Led → Prop} {pl : Sem Bool} (K : COk Ω Γ A) (amb : Amb A Γ.fs n) (F : Fn Ω (.ref f) (d :: ds) π₁ n Φ Ψ)
    (hp : π.Perm (π₁ ++ π₂)) (ho : EvP Ω Γ A ρ π (eval o Γ.env) d) (i : InsD π d C fs) (hn : fs.lookup name = none) (m : MetOk Ω.K C name f)
    (a : ElP Ω Γ A ρ π (spliced (backTo pos (starEach es Γ.env))) ds) (hs : ((backTo pos (starEach es Γ.env)).any (·.1)) = false := by rfl) (hz : es = [] → ds = [] := by first | (intro h; cases h; done) | (intro _; rfl))
    (he : eval (.Call (.Attribute o name apos) es [] pos) Γ.env = (do
      let ov ← eval o Γ.env
      standAt apos.atName
      let (f, first) ← holding [ov] (getMethod ov name pl)
      callWith pos f first (backTo pos (starEach es Γ.env)) (backToKw pos (keywordEach [] Γ.env))) := by rfl) :
    Ev Ω Γ A ρ π (eval (.Call (.Attribute o name apos) es [] pos) Γ.env) (OnL π₂ Φ) (OnC π₂ Ψ) := by
  intro s G Q E R hQ hE
  refine methodCall_KW (pl := pl) (ho s G _ E R fun v G1 h1 tk1 R1 g1 r1 => ?_) he
  obtain ⟨x, dx, es', n', rfl, hx, hd, rf⟩ := i.at R1 r1
  refine method_fn (R1.kin K) (inst_at hx hd) (plainGet_of m.get).1 (plainGet_of m.get).2 m.find m.fn ?_ ?_
  · show (lookIn name (dictOf es' n')).map _ = _
    rw [lookIn_dict, rf.miss hn]; rfl
  refine callWith_of' (G := G1) K m.keep a R1 (fun vs G2 h2 tk2 R2 g2 r2 => ?_) hs hz
  exact call_of (G := G2) (π₂ := π₂) K amb F (R2.perm hp) (.cons (r1.mono g2) r2) (fun v d π' G3 h3 tk3 hΦ R3 g3 r3 => hQ v d _ G3 h3 tk3 ⟨π', hΦ, rfl⟩ R3 (g1.trans (g2.trans g3)) r3) fun e c π' G3 h3 tk3 hΨ F3 g3 => hE e c _ G3 h3 tk3 ⟨π', hΨ, rfl⟩ F3 (g1.trans (g2.trans g3))

theorem Aft.rebase {fr W W' : List Addr} {π : Led} {h₁ : Heap} (a : Aft fr G h W G' h' π) (k : Keeps h₁ h) (hw : ∀ b ∈ W, h₁.get? b = none ∨ b ∈ W') : Aft fr G h₁ W' G' h' π := by
  refine ⟨a.sub, a.ext, fun b o e => ?_, ⟨fun b o e n m => a.stp.keep b o (k b o e) (fun q => ?_) m, fun b o e n m => a.stp.slot b o (k b o e) (fun q => ?_) m, fun b e => k.live (a.stp.live b e)⟩, a.led, a.nodup, a.off, fun b hb => ?_⟩
  · rcases a.new b o e with z | z
    · exact .inl z
    · exact .inr (k.live z)
  · rcases hw b q with z | z
    · rw [e] at z; cases z
    · exact n z
  · rcases hw b q with z | z
    · rw [e] at z; cases z
    · exact n z
  · rcases a.own b hb with z | z
    · exact .inl (k.live z)
    · exact hw b z

/-- a class called: its __init__ on a new object -/
theorem Fn.of_class {C fI : Addr} {args : List D} {π : Led} {n : Nat} {Φ : Addr → Addr → Led → Prop} {Ψ : Addr → Led → Prop} (hm : makesIn Ω.K C = true) (hi : findIn Ω.K (.ref C) "__init__" = some (some (.ref fI))) (hf : typeIn Ω.K (.ref fI) = some (.type "function"))
    (F : ∀ x dx, Fn Ω (.ref fI) (.raw (.ref x) :: args) ((x, .inst C dx []) :: π) n (fun d π' => d = .none ∧ Φ x dx π') Ψ) :
    Fn Ω (.ref C) args π (n + 1) (fun d π' => ∃ x dx, d = .raw (.ref x) ∧ Φ x dx π') Ψ := by
  intro A fs s G vs Q E amb hbG hsub hfr hoff hled hnd hoffG hrd hQ hE
  obtain ⟨h, gg, dd, tt, os⟩ := s
  have X : Ω.K.In h := Ω.kin.keeps fun b o e => hsub b o (hbG b o e)
  have kp : Keeps h ((h.push emptyDict).push (instObj C h.objs.size)) := fun b o e => Heap.get?_push_of_some _ (Heap.get?_push_of_some _ e)
  have e1 : ((h.push emptyDict).push (instObj C h.objs.size)).get? h.objs.size = some emptyDict := Heap.get?_push_of_some _ (Heap.get?_push_size h (o := emptyDict) rfl)
  have e2 : ((h.push emptyDict).push (instObj C h.objs.size)).get? (h.objs.size + 1) = some (instObj C h.objs.size) := by
    have := Heap.get?_push_size (h.push emptyDict) (o := instObj C h.objs.size) rfl
    rwa [Heap.size_push] at this
  have s1 : h.get? h.objs.size = none := get_size h
  have s2 : h.get? (h.objs.size + 1) = none := by
    cases q : h.get? (h.objs.size + 1) with
    | none => rfl
    | some o => exact absurd (Heap.lt_size q) (Nat.not_lt.mpr (Nat.le_succ _))
  have exA : ∀ a ∈ adrs π, ∃ o, h.get? a = some o := fun a ha => by
    obtain ⟨p, hp, hb⟩ := List.mem_flatMap.mp ha
    exact (hled p hp).ex a hb
  have exF : ∀ a ∈ fad fs, ∃ o, h.get? a = some o := fun a ha => by
    obtain ⟨_, o, ho, _⟩ := hfr.mem ha
    exact ⟨o, ho⟩
  have ne : ∀ {a b : Addr}, h.get? a = none → (∃ o, h.get? b = some o) → a ≠ b := fun e ⟨o, ho⟩ q => by
    rw [q, ho] at e; cases e
  have memA : ∀ {a}, a ∈ adrs ((h.objs.size + 1, MO.inst C h.objs.size []) :: π) → h.get? a = none ∨ a ∈ adrs π := fun ha => by
    rw [adrs_cons] at ha
    rcases List.mem_append.mp ha with ha | ha
    · rcases List.mem_cons.mp ha with rfl | ha
      · exact .inl s2
      · rw [List.mem_singleton.mp ha]; exact .inl s1
    · exact .inr ha
  have hd := amb.depth
  have hu := amb.units
  refine make_core (makes_of X hm) (looks_findIn X hi) (fun self => bind_fn X self hf) (.inl rfl) ?_
  have F' := F (h.objs.size + 1) h.objs.size (A.under (.builtin "type.__call__" ⟨.ref C :: vs, []⟩)) fs ⟨(h.push emptyDict).push (instObj C h.objs.size), gg, dd, tt, os⟩ G (.ref (h.objs.size + 1) :: vs)
    (fun v s' => v = .none ∧ Q (.ref (h.objs.size + 1)) s') E ⟨amb.frames, amb.handled, ?_, ?_⟩ hbG (fun a o e => kp a o (hsub a o e)) (hfr.of_keeps fun b o e _ => ⟨o, kp b o e, rfl⟩) (fun a ha => ⟨(hoff a ha).1, fun q => ?_⟩) (fun p hp => ?_) ?_ (fun a ha => ?_) (.cons (.raw _) hrd)
    (fun v d π' G' h' tk' hΦ a r => ?_) (fun e c π' G' h₁ B a0 h' tk' hΨ a hB hs hf => ?_)
  · refine codeAny_mono F' fun r s' z => ?_
    rcases r with e | (_ | _ | _ | v) <;> first | exact z | exact z.elim
  · show A.depth + 1 + 3 * n + 3 < recursionLimit
    omega
  · show A.units + 1 + 8 * n + 80 < cLine
    omega
  · rcases memA q with z | z
    · exact ne z (exF a ha) rfl
    · exact (hoff a ha).2 z
  · rcases List.mem_cons.mp hp with rfl | hp
    · exact ⟨[], 0, e2, e1, .nil⟩
    · exact (hled p hp).keep (GLe.refl G) fun b _ o e => kp b o e
  · rw [adrs_cons]
    refine List.nodup_append.mpr ⟨?_, hnd, fun x hx y hy q => ?_⟩
    · refine List.nodup_cons.mpr ⟨fun q => ?_, List.nodup_cons.mpr ⟨fun q => (nomatch q), List.nodup_nil⟩⟩
      exact absurd (List.mem_singleton.mp q) (Nat.succ_ne_self _)
    · rcases List.mem_cons.mp hx with rfl | hx
      · exact ne s2 (exA y hy) q
      · rw [List.mem_singleton.mp hx] at q; exact ne s1 (exA y hy) q
  · rcases memA ha with z | z
    · exact hsub.none z
    · exact hoffG a z
  · obtain ⟨rfl, hΦ⟩ := hΦ
    cases r
    exact ⟨rfl, hQ _ _ π' G' h' tk' ⟨_, _, rfl, hΦ⟩ (a.rebase kp (fun b hb => memA hb)) (.raw _)⟩
  · exact hE e c π' G' h₁ B a0 h' tk' hΨ (a.rebase kp (fun b hb => memA hb)) hB hs hf

/-- a call that changes nothing and gives d -/
noncomputable abbrev FnP (Ω : Wo) (f : Value) (args : List D) (π : Led) (n : Nat) (d : D) : Prop := Fn Ω f args π n (fun d' π' => d' = d ∧ π' = π) (fun _ _ => False)

theorem Ev.pure {t : Sem Value} {d : D} {π₁ π₂ : Led} (hp : π.Perm (π₁ ++ π₂)) (h : Ev Ω Γ A ρ π t (OnL π₂ fun d' π' => d' = d ∧ π' = π₁) (OnC π₂ fun _ _ => False)) : EvP Ω Γ A ρ π t d := by
  intro s G Q E R hQ
  refine h s G Q E R (fun v d' π' G' h' tk' hΦ R' g r => ?_) fun e c π' G' h' tk' hΨ _ => ?_
  · obtain ⟨_, ⟨rfl, rfl⟩, rfl⟩ := hΦ
    exact hQ v G' h' tk' (R'.perm hp.symm) g r
  · obtain ⟨_, z, _⟩ := hΨ
    exact z.elim
theorem EvP.toEv {t : Sem Value} {d : D} {Φ : D → Led → Prop} {Ψ : Addr → Led → Prop} (h : EvP Ω Γ A ρ π t d) (hΦ : Φ d π) : Ev Ω Γ A ρ π t Φ Ψ := fun s G Q E R hQ _ => h s G Q E R fun v G' h' tk' R' g r => hQ v d π G' h' tk' hΦ R' g r
theorem Ev.mono {t : Sem Value} {Φ Φ' : D → Led → Prop} {Ψ Ψ' : Addr → Led → Prop} (h : Ev Ω Γ A ρ π t Φ Ψ) (h1 : ∀ d π', Φ d π' → Φ' d π') (h2 : ∀ c π', Ψ c π' → Ψ' c π') : Ev Ω Γ A ρ π t Φ' Ψ' := fun s G Q E R hQ hE =>
  h s G Q E R (fun v d π' G' h' tk' hΦ => hQ v d π' G' h' tk' (h1 d π' hΦ)) fun e c π' G' h' tk' hΨ => hE e c π' G' h' tk' (h2 c π' hΨ)
end
end

section
open PySem PySem.Calls PySem.W PyProof.Rows
/-- an iterator at work: what it gives, one after the other -/
structure Nexts (Ω : Wo) (A : Around) (it : Addr) (ok : GM → Led → Prop) (ds : List D) (P : Nat → Obj → Prop) : Prop where
  item : ∀ (Γ : Ctx) (i : Nat) d ρ π o (s : Shared) G (Q : Option Value → Shared → Prop) E, ds[i]? = some d → P i o → ok G ((it, .obj o) :: π) → Rel Γ ρ ((it, .obj o) :: π) G s.heap →
    (∀ v o' G' h' tk', GLe G G' → Rd G' v d → P (i + 1) o' → Rel Γ ρ ((it, .obj o') :: π) G' h' → Q (some v) { s with heap := h', toks := tk' }) → wpAny (model Ω.prog Ω.w) A (pyNext (.ref it)) Q E s
  stop : ∀ (Γ : Ctx) ρ π o (s : Shared) G (Q : Option Value → Shared → Prop) E, Γ.h₀.get? it = none → P ds.length o → ok G ((it, .obj o) :: π) → Rel Γ ρ ((it, .obj o) :: π) G s.heap →
    (∀ h' tk', Rel Γ ρ π G h' → Q none { s with heap := h', toks := tk' }) → wpAny (model Ω.prog Ω.w) A (pyNext (.ref it)) Q E s
  self : ∀ (Γ : Ctx) i o ρ π (s : Shared) G (Q E : Value → Shared → Prop), P i o → Rel Γ ρ ((it, .obj o) :: π) G s.heap → Q (.ref it) s → wpAny (model Ω.prog Ω.w) A (pyIter (.ref it)) Q E s

/-- a value that can be gone over -/
noncomputable def Iters (Ω : Wo) (Γ : Ctx) (A : Around) (v : Value) (ok : GM → Led → Prop) (ds : List D) : Prop :=
  ∀ ρ π (s : Shared) G (Q E : Value → Shared → Prop), ok G π → Rel Γ ρ π G s.heap →
    (∀ it o P h' tk', Nexts Ω A it ok ds P → Keeps s.heap h' → s.heap.get? it = none → P 0 o → Rel Γ ρ ((it, .obj o) :: π) G h' → Q (.ref it) { s with heap := h', toks := tk' }) → wpAny (model Ω.prog Ω.w) A (pyIter v) Q E s

section
variable {Ω : Wo} {Γ : Ctx} {A : Around} {ρ : Loc} {π : Led} {G G' : GM} {h h' : Heap}

theorem Rel.lose {a : Addr} {o : Obj} (R : Rel Γ ρ ((a, .obj o) :: π) G h) (k : Heap.ExtBut a h h') (hn : Γ.h₀.get? a = none) : Rel Γ ρ π G h' := by
  have M := R.aft.led (a, .obj o) (.head _)
  have R' := Rel.drop (πa := []) R
  have hin : a ∈ adrs ((a, MO.obj o) :: π) := by rw [adrs_cons]; exact .head _
  have nd := R.aft.nodup
  rw [adrs_cons] at nd
  have na : a ∉ adrs π := fun q => nodup_sub nd a (.head _) q
  obtain ⟨aft, frs, frSub, offF, ⟨m, hm, hv⟩, offL, cl, cv⟩ := R'
  have kf : ∀ b ∈ fad Γ.fs, b ≠ a := fun b hb q => (R.offF b hb).2 (q ▸ hin)
  have kL : Γ.env.locals ≠ a := fun q => R.offL.2.1 (q ▸ hin)
  refine ⟨⟨fun b x e => k b x (fun q => by have := (R.aft.off a hin).1; rw [← q, e] at this; cases this) (aft.sub b x e), aft.ext, aft.new, ⟨fun b x e n m => k b x (fun q => by rw [q, hn] at e; cases e) (aft.stp.keep b x e n m), fun b x e n m => ?_, fun b e => ?_⟩,
      fun p hp => (aft.led p hp).keep (GLe.refl G) fun b hb x e => k b x (fun q => na (q ▸ mem_adrs hp hb)) e, aft.nodup, aft.off, aft.own⟩, ?_, frSub, offF, ⟨m, ?_, hv⟩, offL, fun c hc => ?_, fun i x kd d e1 e2 e3 => ?_⟩
  · obtain ⟨sl, e1⟩ := aft.stp.slot b x e n m
    exact ⟨sl, k b _ (fun q => by rw [q, hn] at e; cases e) e1⟩
  · by_cases q : b = a
    · rw [q]; exact hn
    · refine aft.stp.live b ?_
      cases z : h.get? b with
      | none => rfl
      | some x => rw [k b x q z] at e; cases e
  · have : ∀ (l : List Env), (∀ b ∈ fad l, b ∈ fad Γ.fs) → h.FunFrames {} l → h'.FunFrames {} l := by
      intro l
      induction l with
      | nil => intro _ _; trivial
      | cons env l ih =>
        intro hs ⟨hk, ⟨L, x, hf, hn, ho, hd⟩, hr⟩
        have e : fad (env :: l) = L :: fad l := by unfold fad; rw [List.filterMap_cons, hf]
        exact ⟨hk, ⟨L, x, hf, hn, k L x (kf L (hs L (e ▸ .head _))) ho, hd⟩, ih (fun b hb => hs b (e ▸ .tail _ hb)) hr⟩
    exact this _ (fun _ h => h) frs
  · obtain ⟨x, es, ep, ho, z⟩ := hm
    exact ⟨x, es, ep, k _ _ kL ho, z⟩
  · obtain ⟨⟨x, v, ho, hd⟩, z⟩ := cl c hc
    exact ⟨⟨x, v, k c x (fun q => (R.cl c hc).2.2.1 (q ▸ hin)) ho, hd⟩, z⟩
  · obtain ⟨c, x, v, h1, h2, z⟩ := cv i x kd d e1 e2 e3
    exact ⟨c, x, v, h1, k c x (fun q => (R.cl c (List.mem_map.mpr ⟨_, lookup_mem h1, rfl⟩)).2.2.1 (q ▸ hin)) h2, z⟩

theorem Rel.setObj {a : Addr} {o o' : Obj} (R : Rel Γ ρ ((a, .obj o) :: π) G h) (sb : Heap.SameBut a h h') (e : h'.get? a = some o') : Rel Γ ρ ((a, .obj o') :: π) G h' := by
  refine Rel.setMut (πa := []) R (fun b z e' nb => (sb.2 b fun q => nb (q ▸ .head _)).trans e') (fun b e' => ?_) rfl e
  by_cases q : b = a
  · rw [q, e] at e'; cases e'
  · exact (sb.2 b q).symm.trans e'
theorem Rel.addObj {s : Shared} (R : Rel Γ ρ π G s.heap) (o : Obj) (hf : o.isFreed = false) : Rel Γ ρ ((s.heap.objs.size, .obj o) :: π) G (s.heap.push o) := by
  refine R.addMut (keeps_push _ _) (fun b hb => ?_) ?_ ?_
  · rw [List.mem_singleton.mp hb]; exact get_size _
  · exact List.nodup_cons.mpr ⟨fun q => (nomatch q), List.nodup_nil⟩
  · exact Heap.get?_push_size _ hf

/-- a list's items, frozen or not -/
noncomputable def LstOk (v : Value) (d : D) (ds : List D) (G : GM) (π : Led) : Prop := Rd G v d ∧ LstD π d ds

theorem LstD.weak {π π' : Led} {d : D} {ds : List D} (i : LstD π d ds) (k : ∀ p ∈ π, p ∈ π') : LstD π' d ds := by
  cases i with
  | fro ds => exact .fro ds
  | mu hm => exact .mu (k _ hm)
theorem InsD.weak {π π' : Led} {d : D} {C : Addr} {fs : List (Str × D)} (i : InsD π d C fs) (k : ∀ p ∈ π, p ∈ π') : InsD π' d C fs := by
  cases i with
  | fro C fs => exact .fro C fs
  | mu hm => exact .mu (k _ hm)

theorem iters_list {v : Value} {d : D} {ds : List D} (hh : A.handled = none) : Iters Ω Γ A v (LstOk v d ds) ds := by
  intro ρ π s G Q E ok R hQ
  obtain ⟨l, vs, rfl, hl, hr⟩ := ok.2.at R ok.1
  have s1 := get_size s.heap
  have hn : Γ.h₀.get? s.heap.objs.size = none := R.aft.stp.live _ s1
  refine wpAny_pyIter_list hl (hQ s.heap.objs.size { cls := .type "list_iterator", data := .fields #[.ref l, .int 0 0] } (fun i o => o.cls = .type "list_iterator" ∧ o.data = .fields #[.ref l, .int i 0]) _ s.toks ⟨?_, ?_, ?_⟩ (keeps_push _ _) s1 ⟨rfl, rfl⟩ ?_)
  · intro Γ i e ρ π o s G Q E hi hP ok R hQ
    obtain ⟨l', vs, e1, hl, hr⟩ := ok.2.at R ok.1
    cases e1
    obtain ⟨x, hx, rx⟩ := hr.get hi
    have M := R.aft.led (_, .obj o) (.head _)
    refine wpAny_pyNext_list_item (i := i) ⟨o, M, hP.1, hP.2⟩ hl (by simpa using hx) fun h' hit sb => ?_
    obtain ⟨o', ho', hc', hd'⟩ := hit
    exact hQ x o' G h' _ (GLe.refl G) rx ⟨hc', hd'⟩ (R.setObj sb ho')
  · intro Γ ρ π o s G Q E hn hP ok R hQ
    obtain ⟨l', vs, e1, hl, hr⟩ := ok.2.at R ok.1
    cases e1
    have M := R.aft.led (_, .obj o) (.head _)
    refine wpAny_pyNext_list_end (i := ds.length) hh ⟨o, M, hP.1, hP.2⟩ hl ?_ fun h' k => hQ h' _ (R.lose k hn)
    rw [List.getElem?_toArray, ← hr.length]
    exact List.getElem?_eq_none (Nat.le_refl _)
  · intro Γ i o ρ π s G Q E hP R hQ
    exact wpAny_pyIter_listiter (l := l) (i := i) ⟨o, R.aft.led (_, .obj o) (.head _), hP.1, hP.2⟩ hQ
  · exact R.addObj _ rfl

/-- the ints from a on, n of them, by steps of c -/
noncomputable def rangeD (a c : Int) (n : Nat) : List D := (List.range n).map fun i : Nat => .int (a + c * i)
noncomputable def RngOk (r : Addr) (a b c : Int) (G : GM) (_ : Led) : Prop := ∃ t u v, G r = some { cls := .type "range", data := .fields #[.int a t, .int b u, .int c v] }
theorem iters_range {r : Addr} {a b c : Int} {n : Nat} (hh : A.handled = none) (hs : Builtin.Range.small a b c = true) (hz : Builtin.Range.rangeSize a b c = (n : Int)) : Iters Ω Γ A (.ref r) (RngOk r a b c) (rangeD a c n) := by
  intro ρ π s G Q E ok R hQ
  obtain ⟨t, u, v, hr⟩ := ok
  have s1 := get_size s.heap
  have hn : Γ.h₀.get? s.heap.objs.size = none := R.aft.stp.live _ s1
  have ln : (rangeD a c n).length = n := by simp [rangeD]
  refine wpAny_pyIter_range (R.sub _ _ hr) hs (hQ s.heap.objs.size { cls := .type "range_iterator", data := .fields #[rawInt a, rawInt (Builtin.Range.rangeSize a b c), rawInt c] } (fun i o => i ≤ n ∧ o = { cls := .type "range_iterator", data := .fields #[rawInt (a + c * i), rawInt (n - i), rawInt c] }) _ s.toks ⟨?_, ?_, ?_⟩ (keeps_push _ _) s1 ⟨Nat.zero_le _, ?_⟩ ?_)
  · intro Γ i e ρ π o s G Q E hi hP ok R hQ
    obtain ⟨_, rfl⟩ := hP
    have M := R.aft.led (_, .obj _) (.head _)
    have hin : i < n := by
      have := (List.getElem?_eq_some_iff.mp hi).1
      rwa [ln] at this
    have he : e = .int (a + c * i) := by
      unfold rangeD at hi
      rw [List.getElem?_map, List.getElem?_range hin] at hi
      cases hi; rfl
    subst he
    refine wpAny_pyNext_range_item (x := a + c * i) (left := n - i) (step := c) M (by omega) fun h' hit sb => ?_
    refine hQ _ _ G h' _ (GLe.refl G) (.int ..) ⟨hin, rfl⟩ (R.setObj sb ?_)
    have e1 : a + c * ((i + 1 : Nat) : Int) = a + c * i + c := by
      rw [Int.natCast_add, Int.mul_add]; simp; omega
    have e2 : (n : Int) - ((i + 1 : Nat) : Int) = n - i - 1 := by omega
    rw [e1, e2]; exact hit
  · intro Γ ρ π o s G Q E hn hP ok R hQ
    obtain ⟨_, rfl⟩ := hP
    rw [ln] at R
    have M := R.aft.led (_, .obj _) (.head _)
    exact wpAny_pyNext_range_end (x := a + c * n) (left := n - n) (step := c) hh M (by omega) fun h' k => hQ h' _ (R.lose k hn)
  · intro Γ i o ρ π s G Q E hP R hQ
    obtain ⟨_, rfl⟩ := hP
    exact wpAny_pyIter_rangeiter (x := a + c * i) (left := n - i) (step := c) (R.aft.led (_, .obj _) (.head _)) hQ
  · rw [hz]; simp
  · exact R.addObj _ rfl
end
end

section
open PySem PySem.Calls PySem.W PyProof.Rows
/-- the rest of the statements -/
noncomputable def Then (Ω : Wo) (Γ : Ctx) (A : Around) (rest : List Stmt) (Φ : Fl → Loc → Led → Prop) (Ψ : Addr → Loc → Led → Prop) : Fl → Loc → Led → Prop
  | .next, ρ, π => Ex Ω Γ A ρ π (execs rest Γ.env) Φ Ψ
  | .brk, ρ, π => Φ .brk ρ π
  | .cont, ρ, π => Φ .cont ρ π
  | .ret d, ρ, π => Φ (.ret d) ρ π
/-- up to a place that J describes -/
noncomputable def Upto (J : Loc → Led → Prop) (Φ : Fl → Loc → Led → Prop) : Fl → Loc → Led → Prop
  | .next, ρ, π => J ρ π
  | .brk, ρ, π => Φ .brk ρ π
  | .cont, ρ, π => Φ .cont ρ π
  | .ret d, ρ, π => Φ (.ret d) ρ π

section
variable {Ω : Wo} {Γ : Ctx} {A : Around} {ρ : Loc} {π : Led} {G G' : GM} {h h' : Heap} {Φ : Fl → Loc → Led → Prop} {Ψ : Addr → Loc → Led → Prop}

theorem Ex.go {t : Sem Flow} {G₀ : GM} {s : Shared} {Q : Flow → Shared → Prop} {E : Value → Shared → Prop} (x : Ex Ω Γ A ρ π t Φ Ψ) (R : Rel Γ ρ π G s.heap) (g : GLe G₀ G)
    (hQ : ∀ fl f ρ' π' G' h' tk', Φ f ρ' π' → Rel Γ ρ' π' G' h' → GLe G₀ G' → FlRd G' fl f → Q fl { s with heap := h', toks := tk' })
    (hE : ∀ e c ρ' π' G' h' tk', Ψ c ρ' π' → Flies Γ ρ' π' G' e (.ref c) h' → GLe G₀ G' → E (.ref e) { s with heap := h', toks := tk' }) : wpAny (model Ω.prog Ω.w) A t Q E s :=
  x s G Q E R (fun fl f ρ' π' G' h' tk' hΦ R' g' r => hQ fl f ρ' π' G' h' tk' hΦ R' (g.trans g') r) fun e c ρ' π' G' h' tk' hΨ F g' => hE e c ρ' π' G' h' tk' hΨ F (g.trans g')
theorem Ex.mono {t : Sem Flow} {Φ' : Fl → Loc → Led → Prop} {Ψ' : Addr → Loc → Led → Prop} (x : Ex Ω Γ A ρ π t Φ Ψ) (h1 : ∀ f ρ' π', Φ f ρ' π' → Φ' f ρ' π') (h2 : ∀ c ρ' π', Ψ c ρ' π' → Ψ' c ρ' π') : Ex Ω Γ A ρ π t Φ' Ψ' := fun s G Q E R hQ hE =>
  x s G Q E R (fun fl f ρ' π' G' h' tk' hΦ => hQ fl f ρ' π' G' h' tk' (h1 f ρ' π' hΦ)) fun e c ρ' π' G' h' tk' hΨ => hE e c ρ' π' G' h' tk' (h2 c ρ' π' hΨ)
theorem Ex.perm {t : Sem Flow} {π' : Led} (p : π.Perm π') (x : Ex Ω Γ A ρ π' t Φ Ψ) : Ex Ω Γ A ρ π t Φ Ψ := fun s G Q E R hQ hE => x s G Q E (R.perm p) hQ hE
theorem Ex.less {t : Sem Flow} {ρ' : Loc} (l : LocLe ρ' ρ) (x : Ex Ω Γ A ρ' π t Φ Ψ) : Ex Ω Γ A ρ π t Φ Ψ := fun s G Q E R hQ hE => x s G Q E (R.less l) hQ hE
theorem Ex.drop {t : Sem Flow} {πa πb : Led} {p : Addr × MO} (x : Ex Ω Γ A ρ (πa ++ πb) t Φ Ψ) : Ex Ω Γ A ρ (πa ++ p :: πb) t Φ Ψ := fun s G Q E R hQ hE => x s G Q E R.drop hQ hE

theorem Ex.nil (h : Φ .next ρ π) : Ex Ω Γ A ρ π (execs [] Γ.env) Φ Ψ := fun s G Q E R hQ hE => wpAny_execs_nil (hQ .next .next ρ π G s.heap s.toks h R (GLe.refl G) .next)
theorem Ex.cons {st : Stmt} {rest : List Stmt} (x : Ex Ω Γ A ρ π (exec st Γ.env) (Then Ω Γ A rest Φ Ψ) Ψ) : Ex Ω Γ A ρ π (execs (st :: rest) Γ.env) Φ Ψ := fun s G Q E R hQ hE => by
  refine wpAny_execs_cons (x s G _ E R (fun fl f ρ' π' G' h' tk' hΦ R' g r => ?_) hE)
  cases r with
  | next => exact Ex.go hΦ R' g hQ hE
  | brk => exact hQ _ _ _ _ _ _ _ hΦ R' g .brk
  | cont => exact hQ _ _ _ _ _ _ _ hΦ R' g .cont
  | ret r => exact hQ _ _ _ _ _ _ _ hΦ R' g (.ret r)
theorem Ex.seq {st : Stmt} {rest : List Stmt} (J : Loc → Led → Prop) (x : Ex Ω Γ A ρ π (exec st Γ.env) (Upto J Φ) Ψ) (k : ∀ ρ' π', J ρ' π' → Ex Ω Γ A ρ' π' (execs rest Γ.env) Φ Ψ) : Ex Ω Γ A ρ π (execs (st :: rest) Γ.env) Φ Ψ :=
  Ex.cons (x.mono (fun f ρ' π' hf => by cases f <;> first | exact k _ _ hf | exact hf) fun _ _ _ h => h)

theorem Ex.assign {x : Str} {px pos : Pos} {value : Expr} {f : D → Loc} {Φv : D → Led → Prop} (K : COk Ω Γ A) (hv : Ev Ω Γ A ρ π (eval value Γ.env) Φv (fun c π' => Ψ c ρ π')) (p : Sto Γ ρ x f) (hk : ∀ d π', Φv d π' → Φ .next (f d) π')
    (hs : swapsWith value (some (.Name x px)) pos.line Γ.env = pure false := by rfl) : Ex Ω Γ A ρ π (exec (.Assign [.Name x px] value pos) Γ.env) Φ Ψ := fun s G Q E R hQ hE =>
  wpAny_Assign_Name (hv s G _ E R (fun v d π' G' h' tk' hΦ R' g r => p.run K R' r fun h'' tk'' R'' => hQ .next .next _ π' G' h'' _ (hk d π' hΦ) R'' g .next) fun e c π' G' h' tk' hΨ F g => hE e c ρ π' G' h' tk' hΨ F g) hs
theorem Ex.assignP {x : Str} {px pos : Pos} {value : Expr} {f : D → Loc} {d : D} (K : COk Ω Γ A) (hv : EvP Ω Γ A ρ π (eval value Γ.env) d) (p : Sto Γ ρ x f) (hk : Φ .next (f d) π)
    (hs : swapsWith value (some (.Name x px)) pos.line Γ.env = pure false := by rfl) : Ex Ω Γ A ρ π (exec (.Assign [.Name x px] value pos) Γ.env) Φ Ψ := fun s G Q E R hQ hE =>
  wpAny_Assign_Name (hv s G _ E R fun v G' h' tk' R' g r => p.run K R' r fun h'' tk'' R'' => hQ .next .next _ π G' h'' _ hk R'' g .next) hs
theorem Ex.ret {e : Expr} {pos : Pos} (hv : Ev Ω Γ A ρ π (eval e Γ.env) (fun d π' => Φ (.ret d) ρ π') (fun c π' => Ψ c ρ π')) : Ex Ω Γ A ρ π (exec (.Return (some e) pos) Γ.env) Φ Ψ := fun s G Q E R hQ hE =>
  wpAny_Return_some (hv s G _ E R (fun v d π' G' h' tk' hΦ R' g r => hQ _ _ ρ π' G' h' tk' hΦ R' g (.ret r)) fun e c π' G' h' tk' hΨ F g => hE e c ρ π' G' h' tk' hΨ F g)
theorem Ex.retP {e : Expr} {pos : Pos} {d : D} (hv : EvP Ω Γ A ρ π (eval e Γ.env) d) (hk : Φ (.ret d) ρ π) : Ex Ω Γ A ρ π (exec (.Return (some e) pos) Γ.env) Φ Ψ := Ex.ret (hv.toEv hk)
theorem Ex.retN {pos : Pos} (hk : Φ (.ret .none) ρ π) : Ex Ω Γ A ρ π (exec (.Return none pos) Γ.env) Φ Ψ := fun s G Q E R hQ hE => wpAny_Return_none (hQ _ _ ρ π G s.heap s.toks hk R (GLe.refl G) (.ret .none))
theorem Ex.brk {pos : Pos} (hk : Φ .brk ρ π) : Ex Ω Γ A ρ π (exec (.Break pos) Γ.env) Φ Ψ := fun s G Q E R hQ hE => wpAny_Break (hQ _ _ ρ π G s.heap s.toks hk R (GLe.refl G) .brk)
theorem Ex.ite {t : Expr} {b o : List Stmt} {pos : Pos} {c : Bool} (ht : TsP Ω Γ A ρ π (PySem.isTrue t Γ.env (eval t Γ.env)) c) (h1 : c = true → Ex Ω Γ A ρ π (execs b Γ.env) Φ Ψ) (h2 : c = false → Ex Ω Γ A ρ π (execs o Γ.env) Φ Ψ) :
    Ex Ω Γ A ρ π (exec (.If t b o pos) Γ.env) Φ Ψ := fun s G Q E R hQ hE => wpAny_If (ht s G _ E R fun G' h' tk' R' g => by
  cases c with
  | true => exact (h1 rfl).go R' g hQ hE
  | false => exact (h2 rfl).go R' g hQ hE)
theorem Ex.expr {e : Expr} {pos : Pos} {Φv : D → Led → Prop} (hv : Ev Ω Γ A ρ π (eval e Γ.env) Φv (fun c π' => Ψ c ρ π')) (hk : ∀ d π', Φv d π' → Φ .next ρ π') (hi : interactive Γ.env = false) (hs : swapsWith e none pos.line Γ.env = pure false := by rfl) :
    Ex Ω Γ A ρ π (exec (.Expr e pos) Γ.env) Φ Ψ := fun s G Q E R hQ hE =>
  wpAny_Expr_any (hv s G _ E R (fun v d π' G' h' tk' hΦ R' g r => hQ .next .next ρ π' G' h' tk' (hk d π' hΦ) R' g .next) fun e c π' G' h' tk' hΨ F g => hE e c ρ π' G' h' tk' hΨ F g) hi hs
theorem COk.quiet (K : COk Ω Γ A) : interactive Γ.env = false := by
  unfold interactive
  rw [K.kind]; rfl

/-- self.x = value -/
theorem Ex.assignAttr {o value : Expr} {name : Str} {pos' pos : Pos} {πa πb : Led} {a C dx : Addr} {fs : List (Str × D)} {d : D} (K : COk Ω Γ A) (hv : EvP Ω Γ A ρ (πa ++ (a, .inst C dx fs) :: πb) (eval value Γ.env) d) (ho : EvP Ω Γ A ρ (πa ++ (a, .inst C dx fs) :: πb) (eval o Γ.env) (.raw (.ref a)))
    (g : SetOk Ω.K C name) (hz : fs.length ≤ 800) (hk : Φ .next ρ (πa ++ (a, .inst C dx (put name d fs)) :: πb)) (hs : swapsWith value (some (.Attribute o name pos')) pos.line Γ.env = pure false := by rfl) :
    Ex Ω Γ A ρ (πa ++ (a, .inst C dx fs) :: πb) (exec (.Assign [.Attribute o name pos'] value pos) Γ.env) Φ Ψ := fun s G Q E R hQ hE =>
  plainObj_wpAny_Assign_Attribute (hv s G _ E R fun v G1 h1 tk1 R1 g1 r1 => ho _ G1 _ E R1 fun u G2 h2 tk2 R2 g2 r2 => by
    cases r2
    exact R2.setAttr K g hz (r1.mono g2) fun h3 tk3 R3 => hQ .next .next ρ _ G2 h3 tk3 hk R3 (g1.trans g2) .next) hs
/-- o.x += value -/
theorem Ex.augAttr {o value : Expr} {name : Str} {op : Operator} {tpos pos : Pos} {πa πb : Led} {a C dx : Addr} {fs : List (Str × D)} {i j k : Int} (K : COk Ω Γ A) (ho : EvP Ω Γ A ρ (πa ++ (a, .inst C dx fs) :: πb) (eval o Γ.env) (.raw (.ref a))) (hl : fs.lookup name = some (.int i)) (gg : GetOk Ω.K C name)
    (hv : EvP Ω Γ A ρ (πa ++ (a, .inst C dx fs) :: πb) (eval value Γ.env) (.int j)) (hop : ∀ (s : Shared) t u (Q E : Value → Shared → Prop), Q (.int k s.toks) { s with toks := s.toks + 1 } → wpAny (model Ω.prog Ω.w) A (inplaceOp op (.int i t) (.int j u)) Q E s)
    (g : SetOk Ω.K C name) (hz : fs.length ≤ 800) (hk : Φ .next ρ (πa ++ (a, .inst C dx (put name (.int k) fs)) :: πb)) :
    Ex Ω Γ A ρ (πa ++ (a, .inst C dx fs) :: πb) (exec (.AugAssign (.Attribute o name tpos) op value pos) Γ.env) Φ Ψ := fun s G Q E R hQ hE =>
  wpAny_AugAssign_AttributeAny (ho s G _ E R fun u G1 h1 tk1 R1 g1 r1 => by
    cases r1
    obtain ⟨x, dx', es, n, e1, hx, hd, rf⟩ := (InsD.mu (List.mem_append_right πa (.head _)) : InsD (πa ++ (a, .inst C dx fs) :: πb) (.raw (.ref a)) C fs).at R1 (.raw (.ref a))
    cases e1
    obtain ⟨u, hu, ru⟩ := rf.look hl
    cases ru
    obtain ⟨at', ha, hn⟩ := gg.attr
    refine get_value (R1.kin K) (inst_at hx hd) (plainGet_of gg.get).1 (findObj_own gg.dict ha hn hu) rfl ?_
    refine hv _ G1 _ E R1 fun v G2 h2 tk2 R2 g2 r2 => ?_
    cases r2
    refine hop _ _ _ _ _ ?_
    exact R2.setAttr K g hz (.int ..) fun h3 tk3 R3 => hQ .next .next ρ _ G2 h3 tk3 hk R3 (g1.trans g2) .next)
/-- x += value -/
theorem Ex.aug {x : Str} {px pos : Pos} {op : Operator} {value : Expr} {f : D → Loc} {i j k : Int} (K : COk Ω Γ A) (ho : EvP Ω Γ A ρ π (eval (.Name x px) Γ.env) (.int i)) (hv : EvP Ω Γ A ρ π (eval value Γ.env) (.int j))
    (hop : ∀ (s : Shared) t u (Q E : Value → Shared → Prop), Q (.int k s.toks) { s with toks := s.toks + 1 } → wpAny (model Ω.prog Ω.w) A (inplaceOp op (.int i t) (.int j u)) Q E s)
    (p : Sto Γ ρ x f) (hk : Φ .next (f (.int k)) π) (hl : At Γ.names ρ x .local (.int i)) :
    Ex Ω Γ A ρ π (exec (.AugAssign (.Name x px) op value pos) Γ.env) Φ Ψ := fun s G Q E R hQ hE => by
  obtain ⟨ix, hi, hr⟩ := hl.idx
  obtain ⟨m, hm, hvv⟩ := R.ns
  obtain ⟨v, e, r⟩ := hvv ix x _ hi hr
  refine wpAny_AugAssign_Name (wpAny_loadName_local K.kind (K.kindOf hi) hm e ?_)
  cases r
  refine hv _ G _ E R fun v G2 h2 tk2 R2 g2 r2 => ?_
  cases r2
  exact hop _ _ _ _ _ (p.run K R2 (.int ..) fun h3 tk3 R3 => hQ .next .next _ π G2 h3 tk3 hk R3 g2 .next)

theorem slots_on {fs : List Env} {h₁ h h' : Heap} (hf : h₁.FunFrames ({} : Heap) fs) (sl : ∀ a o, h₁.get? a = some o → a ∈ fad fs → ∃ sl, h.get? a = some { o with slots := sl }) (hu : h.UpToSlots h') :
    ∀ a o, h₁.get? a = some o → a ∈ fad fs → ∃ sl, h'.get? a = some { o with slots := sl } := fun a o e m => by
  obtain ⟨s1, e1⟩ := sl a o e m
  obtain ⟨_, o', ho', hnf⟩ := hf.mem m
  rw [e] at ho'
  cases ho'
  obtain ⟨s2, e2⟩ := hu a _ e1 hnf
  exact ⟨s2, e2⟩

/-- an exception leaves a loop's own activation -/
theorem Flies.back {s : Shared} {e : Addr} {c : Value} {E : Value → Shared → Prop} {outer : List Env} {L : Addr} (K : COk Ω Γ A) (hfs : Γ.fs = Γ.env :: outer) (hL : Γ.env.frame = some L) (F : Flies Γ ρ π G e c s.heap)
    (hE : ∀ h', Flies Γ ρ π G e c h' → E (.ref e) { s with heap := h' }) : notedBy (model Ω.prog Ω.w) A Γ.env (fun e' s' => cameBackBy (model Ω.prog Ω.w) A Γ.env E e' s') (.ref e) s := by
  obtain ⟨h₁, B, R, hB, hsl, X⟩ := F.out
  have hfr := K.frames
  rw [hfs] at X hfr
  refine exc_note X hfr hL fun h' a0 hh hu => exc_back hL hh fun h'' hh' hu' => hE h'' ⟨h₁, B, R, hB, slots_on R.frs hsl (hu.trans hu'), ?_⟩
  exact .held hfs hL (hfs ▸ hh')
theorem Flies.drop {πa πb : Led} {p : Addr × MO} {e : Addr} {c : Value} (F : Flies Γ ρ (πa ++ p :: πb) G e c h) : Flies Γ ρ (πa ++ πb) G e c h := by
  obtain ⟨h₁, B, R, r⟩ := F.out
  exact ⟨h₁, B, R.drop, r⟩

theorem Flies.perm {π' : Led} {e : Addr} {c : Value} (F : Flies Γ ρ π G e c h) (p : π.Perm π') : Flies Γ ρ π' G e c h := by
  obtain ⟨h₁, B, R, r⟩ := F.out
  exact ⟨h₁, B, R.perm p, r⟩

structure Own (Γ : Ctx) : Prop where
  own : ∃ outer L, Γ.fs = Γ.env :: outer ∧ Γ.env.frame = some L

theorem Ex.while {t : Expr} {body : List Stmt} {pos : Pos} (I : Nat → Loc → Led → Prop) (O : Own Γ) (K : COk Ω Γ A)
    (turn : ∀ n ρ π, I n ρ π → ∃ c, TsP Ω Γ A ρ π (PySem.isTrue t Γ.env (eval t Γ.env)) c ∧
      (c = true → Ex Ω Γ A ρ π (execs body Γ.env) (fun f ρ' π' => match f with | .next => ∃ m, m < n ∧ I m ρ' π' | .cont => ∃ m, m < n ∧ I m ρ' π' | .brk => Φ .next ρ' π' | .ret d => Φ (.ret d) ρ' π') Ψ) ∧ (c = false → Φ .next ρ π))
    (n : Nat) (h0 : I n ρ π) : Ex Ω Γ A ρ π (exec (.While t body [] pos) Γ.env) Φ Ψ := by
  intro s G Q E R hQ hE
  obtain ⟨outer, L, hfs, hL⟩ := O.own
  refine wpAny_While (codeAny_whileLoop (fun n s' => ∃ ρ' π' G' h' tk', s' = { s with heap := h', toks := tk' } ∧ Rel Γ ρ' π' G' h' ∧ GLe G G' ∧ I n ρ' π') ?_ n ⟨ρ, π, G, s.heap, s.toks, rfl, R, GLe.refl G, h0⟩)
  rintro n s' ⟨ρ', π', G', h', tk', rfl, R', g, hI⟩
  obtain ⟨c, ht, h1, h2⟩ := turn n ρ' π' hI
  refine ht _ G' _ _ R' fun G2 h2' tk2 R2 g2 => ?_
  cases c with
  | true =>
    refine (h1 rfl).go R2 (g.trans g2) (fun fl f ρ3 π3 G3 h3 tk3 hΦ R3 g3 r => ?_) fun e c ρ3 π3 G3 h3 tk3 hΨ F3 g3 => F3.back K hfs hL fun h4 F4 => hE e c ρ3 π3 G3 h4 _ hΨ F4 g3
    cases r with
    | next =>
      obtain ⟨m, hm, hI'⟩ := hΦ
      exact ⟨m, hm, ρ3, π3, G3, h3, tk3, rfl, R3, g3, hI'⟩
    | cont =>
      obtain ⟨m, hm, hI'⟩ := hΦ
      exact ⟨m, hm, ρ3, π3, G3, h3, tk3, rfl, R3, g3, hI'⟩
    | brk => exact hQ _ _ _ _ _ _ _ hΦ R3 g3 .next
    | ret r => exact hQ _ _ _ _ _ _ _ hΦ R3 g3 (.ret r)
  | false => exact wpAny_execs_nil (hQ .next .next ρ' π' G2 h2' tk2 (h2 rfl) R2 (g.trans g2) .next)

/-- what is gone over, as an expression -/
noncomputable def SrcP (Ω : Wo) (Γ : Ctx) (A : Around) (ρ : Loc) (π : Led) (t : Sem Value) (ok : Value → GM → Led → Prop) (ds : List D) : Prop :=
  ∀ (s : Shared) (G : GM) (Q E : Value → Shared → Prop), Rel Γ ρ π G s.heap →
    (∀ v G' h' tk', Rel Γ ρ π G' h' → GLe G G' → ok v G' π → Iters Ω Γ A v (ok v) ds → Q v { s with heap := h', toks := tk' }) → wpAny (model Ω.prog Ω.w) A t Q E s
theorem SrcP.list {t : Sem Value} {d : D} {ds : List D} (hh : A.handled = none) (e : EvP Ω Γ A ρ π t d) (l : LstD π d ds) : SrcP Ω Γ A ρ π t (fun v => LstOk v d ds) ds := fun s G Q E R hQ =>
  e s G Q E R fun v G' h' tk' R' g r => hQ v G' h' tk' R' g ⟨r, l⟩ (iters_list hh)
noncomputable def RngV (a b c : Int) (v : Value) (G : GM) (π : Led) : Prop := ∃ r, v = .ref r ∧ RngOk r a b c G π

theorem Ex.forIn {x : Str} {px pos : Pos} {iter : Expr} {body : List Stmt} {ok : Value → GM → Led → Prop} {ds : List D} (I : Nat → Loc → Led → Prop) (O : Own Γ) (K : COk Ω Γ A) (src : SrcP Ω Γ A ρ π (eval iter Γ.env) ok ds)
    (hok : ∀ v G G' i ρ' π' it o, ok v G π → GLe G G' → I i ρ' π' → ok v G' ((it, .obj o) :: π'))
    (turn : ∀ i d ρ' π' it o, ds[i]? = some d → I i ρ' π' → ∃ f, Sto Γ ρ' x f ∧ Ex Ω Γ A (f d) ((it, .obj o) :: π') (execs body Γ.env)
      (fun fl ρ'' π'' => ∃ π₃, π''.Perm ((it, .obj o) :: π₃) ∧ match fl with | .next => I (i + 1) ρ'' π₃ | .cont => I (i + 1) ρ'' π₃ | .brk => Φ .next ρ'' π₃ | .ret d => Φ (.ret d) ρ'' π₃) (fun c ρ'' π'' => ∃ π₃, π''.Perm ((it, .obj o) :: π₃) ∧ Ψ c ρ'' π₃))
    (done : ∀ ρ' π', I ds.length ρ' π' → Φ .next ρ' π') (h0 : I 0 ρ π) (hs : ∀ x, foldedSetIterable iter Γ.env x = pure x := by intro _; rfl) :
    Ex Ω Γ A ρ π (exec (.For (.Name x px) iter body [] pos) Γ.env) Φ Ψ := by
  intro s G Q E R hQ hE
  obtain ⟨outer, L, hfs, hL⟩ := O.own
  refine wpAny_For (src s G _ E R fun v G1 h1 tk1 R1 g1 ok1 its => ?_) hs
  refine its ρ π _ G1 _ _ ok1 R1 fun it o P h2 tk2 N _ hit hP R2 => ?_
  refine codeAny_forLoop (fun n s' => ∃ i ρ' π' G' h' tk' o', n = ds.length - i ∧ i ≤ ds.length ∧ s' = { s with heap := h', toks := tk' } ∧ Rel Γ ρ' ((it, .obj o') :: π') G' h' ∧ GLe G1 G' ∧ P i o' ∧ I i ρ' π') ?_ (ds.length - 0) ⟨0, ρ, π, G1, h2, tk2, o, rfl, Nat.zero_le _, rfl, R2, GLe.refl G1, hP, h0⟩
  rintro n s' ⟨i, ρ', π', G', h', tk', o', rfl, hi, rfl, R', g, hP', hI⟩
  have ok' := hok v G1 G' i ρ' π' it o' ok1 g hI
  by_cases q : i < ds.length
  · refine N.item Γ i (ds[i]'q) ρ' π' o' _ G' _ _ (List.getElem?_eq_getElem q) hP' ok' R' fun u o2 G3 h3 tk3 g3 r3 hP3 R3 => ?_
    obtain ⟨f, p, x⟩ := turn i (ds[i]'q) ρ' π' it o2 (List.getElem?_eq_getElem q) hI
    refine wpAny_assign_Name (p.run K R3 r3 fun h4 tk4 R4 => ?_)
    refine x.go R4 (g.trans g3) (fun fl f' ρ5 π5 G5 h5 tk5 hΦ R5 g5 r5 => ?_) fun e c ρ5 π5 G5 h5 tk5 hΨ F5 g5 => F5.back K hfs hL fun h6 F6 => ?_
    · obtain ⟨π₃, hp, hΦ⟩ := hΦ
      have R5 := R5.perm hp
      have lt : ds.length - (i + 1) < ds.length - i := by omega
      cases r5 with
      | next => exact ⟨_, lt, i + 1, ρ5, π₃, G5, h5, tk5, o2, rfl, q, rfl, R5, g5, hP3, hΦ⟩
      | cont => exact ⟨_, lt, i + 1, ρ5, π₃, G5, h5, tk5, o2, rfl, q, rfl, R5, g5, hP3, hΦ⟩
      | brk => exact hQ _ _ _ _ _ _ _ hΦ (Rel.drop (πa := []) R5) (g1.trans g5) .next
      | ret r => exact hQ _ _ _ _ _ _ _ hΦ (Rel.drop (πa := []) R5) (g1.trans g5) (.ret r)
    · obtain ⟨π₃, hp, hΨ⟩ := hΨ
      exact hE e c ρ5 π₃ G5 h6 _ hΨ (Flies.drop (πa := []) (F6.perm hp)) (g1.trans g5)
  · have e : i = ds.length := by omega
    subst e
    refine N.stop Γ ρ' π' o' _ G' _ _ (R1.aft.stp.live _ hit) hP' ok' R' fun h3 tk3 R3 => ?_
    exact wpAny_execs_nil (hQ .next .next ρ' π' G' h3 tk3 (done ρ' π' hI) R3 (g1.trans g) .next)
end
end

section
open PySem PySem.Calls PySem.W PyProof.Rows PySem.Spec
section
variable {Ω : Wo} {Γ : Ctx} {A : Around} {ρ : Loc} {π : Led} {G G' : GM} {h h' : Heap}

/-- all but the frame's own names stay -/
theorem Rel.butL (R : Rel Γ ρ π G h) (k : ∀ a o, a ≠ Γ.env.locals → h.get? a = some o → h'.get? a = some o) (hm : ∀ m, h.Ns Γ.env.locals m → h'.Ns Γ.env.locals m) : Rel Γ ρ π G h' := by
  obtain ⟨aft, frs, frSub, offF, ⟨m, hm₀, hv⟩, offL, cl, cv⟩ := R
  have hm' := hm m hm₀
  refine ⟨⟨fun a o e => k a o (fun q => by rw [q, offL.1] at e; cases e) (aft.sub a o e), aft.ext, aft.new, ⟨fun a o e n m => k a o (fun q => by rw [q, offL.2.2] at e; cases e) (aft.stp.keep a o e n m), fun a o e n m => ?_, fun a e => aft.stp.live a ?_⟩,
      fun q hq => (aft.led q hq).keep (GLe.refl G) fun b hb o e => k b o (fun z => offL.2.1 (z ▸ mem_adrs hq hb)) e, aft.nodup, aft.off, aft.own⟩,
    funFrames_at k (fun o ho hd => ?_) frs, frSub, offF, ⟨_, hm', hv⟩, offL, fun c hc => ?_, fun j y kd e e1 e2 e3 => ?_⟩
  · obtain ⟨sl, e1⟩ := aft.stp.slot a o e n m
    exact ⟨sl, k a _ (fun q => by rw [q, offL.2.2] at e; cases e) e1⟩
  · by_cases q : a = Γ.env.locals
    · obtain ⟨o, _, _, ho, _⟩ := hm'
      rw [q, ho] at e; cases e
    · cases z : h.get? a with
      | none => rfl
      | some o => rw [k a o q z] at e; cases e
  · obtain ⟨o', es, ep, ho', hd', _⟩ := hm'
    exact ⟨o', ho', fun vs q => by rw [hd'] at q; cases q⟩
  · obtain ⟨⟨o, v, ho, hd⟩, z⟩ := cl c hc
    exact ⟨⟨o, v, k c o z.2.2.2 ho, hd⟩, z⟩
  · obtain ⟨c, o, u, h1, h2, z⟩ := cv j y kd e e1 e2 e3
    exact ⟨c, o, u, h1, k c o (cl c (List.mem_map.mpr ⟨(y, c), lookup_mem h1, rfl⟩)).2.2.2.2 h2, z⟩

theorem Rel.fresh {a : Addr} {o : Obj} (R : Rel Γ ρ π G h') (Rh : Rel Γ ρ π G h) (e : h.get? a = none) (e' : h'.get? a = some o) : Rel Γ ρ π (ext1 G a o) h' ∧ GLe G (ext1 G a o) := by
  have hn := Rh.aft.sub.none e
  refine ⟨?_, ext1_le hn⟩
  have ne : ∀ b, (∃ x, h.get? b = some x) → b ≠ a := fun b ⟨x, hx⟩ q => by rw [q, e] at hx; cases hx
  have no : ∀ b, (∃ x, h.get? b = some x) → G b = none → ext1 G a o b = none := fun b hx e => by
    unfold ext1
    rw [if_neg (ne b hx)]; exact e
  obtain ⟨aft, frs, frSub, offF, ⟨m, hm, hv⟩, offL, cl, cv⟩ := R
  refine ⟨⟨fun b x q => ?_, aft.ext.trans (ext1_le hn), fun b x q => ?_, aft.stp, fun p hp => (aft.led p hp).keep (ext1_le hn) fun _ _ _ e => e, aft.nodup, fun b hb => ⟨no b (Rh.exM b hb) (aft.off b hb).1, (aft.off b hb).2⟩, aft.own⟩, frs, frSub, fun b hb => ⟨no b (Rh.exF b hb) (offF b hb).1, (offF b hb).2⟩,
    ⟨m, hm, fun i x d e1 e2 => ?_⟩, ⟨no _ Rh.exL offL.1, offL.2⟩, fun c hc => ⟨(cl c hc).1, no c ?_ (cl c hc).2.1, (cl c hc).2.2⟩, fun i x kd d e1 e2 e3 => ?_⟩
  · unfold ext1 at q
    by_cases z : b = a
    · rw [if_pos z] at q; cases q; rw [z]; exact e'
    · rw [if_neg z] at q; exact aft.sub b x q
  · unfold ext1 at q
    by_cases z : b = a
    · rw [z]; exact .inr (Rh.aft.stp.live a e)
    · rw [if_neg z] at q; exact aft.new b x q
  · obtain ⟨v, h1, h2⟩ := hv i x d e1 e2
    exact ⟨v, h1, h2.mono (ext1_le hn)⟩
  · obtain ⟨⟨x, v, hx, _⟩, _⟩ := Rh.cl c hc
    exact ⟨x, hx⟩
  · obtain ⟨c, x, v, h1, h2, h3, r⟩ := cv i x kd d e1 e2 e3
    exact ⟨c, x, v, h1, h2, h3, r.mono (ext1_le hn)⟩

/-- the library's frame and ledger, laid over all that stands -/
theorem Rel.via (R : Rel Γ ρ π G h) : ∃ m news, Fr ({} : Heap) Γ.env.locals h m ∧ News ({} : Heap) Γ.env.locals h news ∧ ∀ h', Fr ({} : Heap) Γ.env.locals h' m → News ({} : Heap) Γ.env.locals h' news → Rel Γ ρ π G h' ∧
    ∀ a o, h.get? a = none → h'.get? a = some o → Rel Γ ρ π (ext1 G a o) h' ∧ GLe G (ext1 G a o) := by
  obtain ⟨m, hm, _⟩ := R.ns
  refine ⟨m, (List.range h.objs.size).filterMap (fun a => if a = Γ.env.locals then none else (h.get? a).map fun o => (a, o)), ⟨hm, fun b o e => ?_, Nat.zero_le _⟩, fun p hp => ?_, fun h' F N => ?_⟩
  · rw [empty_get] at e; cases e
  · obtain ⟨a, _, ha⟩ := List.mem_filterMap.mp hp
    split at ha
    · cases ha
    · rename_i q
      cases z : h.get? a with
      | none => rw [z] at ha; cases ha
      | some o =>
        rw [z] at ha
        cases ha
        exact ⟨z, q, empty_get _⟩
  · have R' : Rel Γ ρ π G h' := R.butL (fun a o n e => (N (a, o) (List.mem_filterMap.mpr ⟨a, List.mem_range.mpr (Heap.lt_size e), by rw [if_neg n, e]; rfl⟩)).1) fun m' hm' => by
      have : m' = m := by
        obtain ⟨o, es, ep, ho, hd, _, hn⟩ := hm
        obtain ⟨o', es', ep', ho', hd', _, hn'⟩ := hm'
        rw [ho] at ho'; cases ho'
        rw [hd] at hd'; cases hd'
        funext y
        exact (hn' y).symm.trans (hn y)
      rw [this]; exact F.ns
    exact ⟨R', fun a o e e' => R'.fresh R e e'⟩

/-! displays -/
theorem EvP.list {es : List Expr} {ds : List D} {pos : Pos} (h : ElP Ω Γ A ρ π (spliced (backTo pos (starEach es Γ.env))) ds) (hz : ds.length ≤ 1000 := by simp) : EvP Ω Γ A ρ π (eval (.List es pos) Γ.env) (.list ds) := by
  intro s G Q E R hQ
  refine wpAny_List_spliced (h s G _ E R fun vs G1 h1 tk1 R1 g1 r1 => ⟨by rw [r1.length, sizeLine_eq]; omega, ?_⟩)
  obtain ⟨R2, g2⟩ := R1.alloc { cls := .type "list", data := .seq vs.toArray } rfl
  exact hQ _ _ _ tk1 R2 (g1.trans g2) (.list (ext1_at ..) rfl rfl (r1.mono g2))
theorem EvP.tup {es : List Expr} {ds : List D} {k : Nat} {pos : Pos} (h : ElP Ω Γ A ρ π (spliced (backTo pos (starEach es Γ.env))) ds) (hz : ds.length ≤ 1000 := by simp) : EvP Ω Γ A ρ π (eval (.Tuple es k pos) Γ.env) (.tup ds) := by
  intro s G Q E R hQ
  refine wpAny_Tuple_spliced (h s G _ E R fun vs G1 h1 tk1 R1 g1 r1 => ⟨by rw [r1.length, sizeLine_eq]; omega, ?_⟩)
  obtain ⟨R2, g2⟩ := R1.alloc { cls := .type "tuple", data := .seq vs.toArray } rfl
  exact hQ _ _ _ tk1 R2 (g1.trans g2) (.tup (ext1_at ..) rfl rfl (r1.mono g2))
/-- a new list that will be changed -/
theorem Ev.listM {es : List Expr} {ds : List D} {pos : Pos} (h : ElP Ω Γ A ρ π (spliced (backTo pos (starEach es Γ.env))) ds) (hz : ds.length ≤ 1000 := by simp) {Ψ : Addr → Led → Prop} : Ev Ω Γ A ρ π (eval (.List es pos) Γ.env) (fun d π' => ∃ a, d = .raw (.ref a) ∧ π' = (a, .list ds) :: π) Ψ := by
  intro s G Q E R hQ _
  refine wpAny_List_spliced (h s G _ E R fun vs G1 h1 tk1 R1 g1 r1 => ⟨by rw [r1.length, sizeLine_eq]; omega, ?_⟩)
  refine hQ _ _ _ G1 _ tk1 ⟨_, rfl, rfl⟩ (R1.addMut (keeps_push _ _) (fun b hb => ?_) ?_ ⟨vs, 0, Heap.get?_push_size _ rfl, r1⟩) g1 (.raw _)
  · rw [List.mem_singleton.mp hb]; exact get_size _
  · exact List.nodup_cons.mpr ⟨fun q => (nomatch q), List.nodup_nil⟩

/-! items -/
theorem EvP.idxL {v i : Expr} {pos : Pos} {d e : D} {ds : List D} {k : Int} (hv : EvP Ω Γ A ρ π (eval v Γ.env) d) (l : LstD π d ds) (hi : EvP Ω Γ A ρ π (eval i Γ.env) (.int k)) (h0 : 0 ≤ k) (he : ds[k.toNat]? = some e) (hz : k < 2 ^ 63)
    (hs : ∀ a t, subscripted i false (.ref a) (.int k t) = operate [.ref a, .int k t] (getItem (.ref a) (.int k t)) := by intro _ _; rfl) : EvP Ω Γ A ρ π (eval (.Subscript v i pos) Γ.env) e := by
  intro s G Q E R hQ
  refine Subscript_ (hv s G _ E R fun u G1 h1 tk1 R1 g1 r1 => hi _ G1 _ E R1 fun w G2 h2 tk2 R2 g2 r2 => ?_)
  cases r2
  obtain ⟨x, vs, rfl, hl, hr⟩ := l.at R2 (r1.mono g2)
  obtain ⟨y, hy, ry⟩ := hr.get he
  exact tail_any hl.typeIs slot_list_getitem.lookup (wpAny_getItem_list hl h0 hz (by simpa using hy) (hQ y G2 h2 tk2 R2 (g1.trans g2) ry)) (hs _ _)
theorem EvP.idxLneg {v i : Expr} {pos : Pos} {d e : D} {ds : List D} {k : Int} (hv : EvP Ω Γ A ρ π (eval v Γ.env) d) (l : LstD π d ds) (hi : EvP Ω Γ A ρ π (eval i Γ.env) (.int k)) (h0 : k < 0) (h1 : -(ds.length : Int) ≤ k) (he : ds[(k + ds.length).toNat]? = some e) (hz : -(2 ^ 63) ≤ k)
    (hs : ∀ a t, subscripted i false (.ref a) (.int k t) = operate [.ref a, .int k t] (getItem (.ref a) (.int k t)) := by intro _ _; rfl) : EvP Ω Γ A ρ π (eval (.Subscript v i pos) Γ.env) e := by
  intro s G Q E R hQ
  refine Subscript_ (hv s G _ E R fun u G1 h1' tk1 R1 g1 r1 => hi _ G1 _ E R1 fun w G2 h2 tk2 R2 g2 r2 => ?_)
  cases r2
  obtain ⟨x, vs, rfl, hl, hr⟩ := l.at R2 (r1.mono g2)
  obtain ⟨y, hy, ry⟩ := hr.get he
  have e1 : vs.toArray.size = ds.length := by rw [List.size_toArray, hr.length]
  exact tail_any hl.typeIs slot_list_getitem.lookup (wpAny_getItem_list_neg hl h0 (by rw [e1]; exact h1) (by simpa using hz) (by rw [e1]; simpa using hy) (hQ y G2 h2 tk2 R2 (g1.trans g2) ry)) (hs _ _)
theorem Rd.tup_at {u : Value} {ds : List D} (R : Rel Γ ρ π G h) (r : Rd G u (.tup ds)) : ∃ x vs, u = .ref x ∧ IsTup h x vs.toArray ∧ RdL G vs ds := by
  cases r with
  | tup h1 h2 h3 h4 => exact ⟨_, _, rfl, ⟨_, R.sub _ _ h1, h2, _, h3⟩, h4⟩
theorem EvP.idxT {v i : Expr} {pos : Pos} {e : D} {ds : List D} {k : Int} (hv : EvP Ω Γ A ρ π (eval v Γ.env) (.tup ds)) (hi : EvP Ω Γ A ρ π (eval i Γ.env) (.int k)) {j : Nat} (hj : seqIndex? k ds.length = some j) (he : ds[j]? = some e) (h0 : -(2 ^ 63) ≤ k) (hz : k < 2 ^ 63)
    (hs : ∀ a t, subscripted i false (.ref a) (.int k t) = operate [.ref a, .int k t] (getItem (.ref a) (.int k t)) := by intro _ _; rfl) : EvP Ω Γ A ρ π (eval (.Subscript v i pos) Γ.env) e := by
  intro s G Q E R hQ
  refine Subscript_ (hv s G _ E R fun u G1 h1 tk1 R1 g1 r1 => hi _ G1 _ E R1 fun w G2 h2 tk2 R2 g2 r2 => ?_)
  cases r2
  obtain ⟨x, vs, rfl, hl, hr⟩ := (r1.mono g2).tup_at R2
  obtain ⟨y, hy, ry⟩ := hr.get he
  exact item_tupleT hl h0 hz (by rw [hr.length]; exact hj) hy (hQ y G2 h2 tk2 R2 (g1.trans g2) ry) (hs _ _)

/-! a call of a built-in: by its name -/
theorem EvP.bcall {x : Str} {np pos : Pos} {es : List Expr} {id : String} {ds : List D} {d : D} (K : COk Ω Γ A) (hf : EvP Ω Γ A ρ π (eval (.Name x np) Γ.env) (.raw (.builtin id))) (a : ElP Ω Γ A ρ π (spliced (backTo pos (starEach es Γ.env))) ds)
    (h : ∀ (s : Shared) G vs (Q E : Value → Shared → Prop), Rel Γ ρ π G s.heap → RdL G vs ds → (∀ v G' h' tk', Rel Γ ρ π G' h' → GLe G G' → Rd G' v d → Q v { s with heap := h', toks := tk' }) → wpAny (model Ω.prog Ω.w) A (call (.builtin id) vs) Q E s)
    (hs : ((backTo pos (starEach es Γ.env)).any (·.1)) = false := by rfl) (hz : es = [] → ds = [] := by first | (intro h; cases h; done) | (intro _; rfl)) : EvP Ω Γ A ρ π (eval (.Call (.Name x np) es [] pos) Γ.env) d := by
  intro s G Q E R hQ
  refine wpAny_Call_NameR (hf s G _ E R fun f G1 h1 tk1 R1 g1 r1 => ?_)
  cases r1
  refine callWith_builtin hs ?_
  cases es with
  | nil =>
    refine evalArgs_nil3 ?_
    rw [hz rfl] at h
    exact h _ G1 [] Q E R1 .nil fun v G2 h2 tk2 R2 g2 r2 => hQ v G2 h2 tk2 R2 (g1.trans g2) r2
  | cons e es =>
    have sh : ∃ x rest, backTo pos (starEach (e :: es) Γ.env) = (false, x) :: rest := by
      cases q : backTo pos (starEach (e :: es) Γ.env) with
      | nil =>
        unfold backTo at q
        have := List.map_eq_nil_iff.mp q
        cases e <;> cases this
      | cons p r =>
        obtain ⟨b, x⟩ := p
        rw [q, List.any_cons] at hs
        cases b with
        | true => simp at hs
        | false => exact ⟨x, r, rfl⟩
    obtain ⟨x, rest, hsh⟩ := sh
    rw [hsh] at a ⊢
    exact evalArgs_plain (a _ G1 _ E R1 fun vs G2 h2 tk2 R2 g2 r2 => h _ G2 vs Q E R2 r2 fun v G3 h3 tk3 R3 g3 r3 => hQ v G3 h3 tk3 R3 (g1.trans (g2.trans g3)) r3)
end
end

section
open PySem PySem.Calls PySem.W PyProof.Rows PySem.Spec
section
variable {Ω : Wo} {Γ : Ctx} {A : Around} {ρ : Loc} {π : Led} {G G' : GM} {h h' : Heap}

theorem EvP.lenL {x : Str} {np pos : Pos} {e : Expr} {d : D} {ds : List D} (K : COk Ω Γ A) (hf : EvP Ω Γ A ρ π (eval (.Name x np) Γ.env) (.raw (.builtin "len"))) (a : EvP Ω Γ A ρ π (eval e Γ.env) d) (l : LstD π d ds) (hz : ds.length < 2 ^ 63)
    (he : starEach [e] Γ.env = [(false, eval e Γ.env)] := by rfl) : EvP Ω Γ A ρ π (eval (.Call (.Name x np) [e] [] pos) Γ.env) (.int ds.length) :=
  EvP.bcall K hf (ElP.cons a ElP.nil he) (fun s G vs Q E R r hQ => by
    cases r with
    | cons r1 r2 =>
      cases r2
      obtain ⟨y, ws, rfl, hl, hr⟩ := l.at R r1
      refine call_len_list hl (by rw [List.size_toArray, hr.length]; exact_mod_cast hz) ?_
      rw [List.size_toArray, hr.length]
      exact hQ _ G s.heap _ R (GLe.refl G) (.int ..)) (by rw [he]; rfl)
theorem EvP.lenB {x : Str} {np pos : Pos} {e : Expr} {b : Array UInt8} (K : COk Ω Γ A) (hf : EvP Ω Γ A ρ π (eval (.Name x np) Γ.env) (.raw (.builtin "len"))) (a : EvP Ω Γ A ρ π (eval e Γ.env) (.bytes b)) (hz : b.size ≤ 1099511627776)
    (he : starEach [e] Γ.env = [(false, eval e Γ.env)] := by rfl) : EvP Ω Γ A ρ π (eval (.Call (.Name x np) [e] [] pos) Γ.env) (.int b.size) :=
  EvP.bcall K hf (ElP.cons a ElP.nil he) (fun s G vs Q E R r hQ => by
    cases r with
    | cons r1 r2 =>
      cases r2
      cases r1
      exact len_bytes hz (hQ _ G s.heap _ R (GLe.refl G) (.int ..))) (by rw [he]; rfl)

/-- a slice's bound -/
noncomputable def PtP (Ω : Wo) (Γ : Ctx) (A : Around) (ρ : Loc) (π : Led) (x : Option Expr) (lo : Option Int) : Prop :=
  ∀ (s : Shared) (G : GM) (Q E : Value → Shared → Prop), Rel Γ ρ π G s.heap →
    (∀ v G' h' tk', Rel Γ ρ π G' h' → GLe G G' → IsPart v lo → Q v { s with heap := h', toks := tk' }) → wpAny (model Ω.prog Ω.w) A (evalPart x Γ.env) Q E s
theorem PtP.none : PtP Ω Γ A ρ π none none := fun s G Q E R hQ => wpAny_evalPart_none (hQ _ G s.heap s.toks R (GLe.refl G) .none)
theorem PtP.some {e : Expr} {i : Int} (a : EvP Ω Γ A ρ π (eval e Γ.env) (.int i)) : PtP Ω Γ A ρ π (some e) (some i) := fun s G Q E R hQ =>
  wpAny_evalPart_some (a s G Q E R fun v G' h' tk' R' g r => by
    cases r
    exact hQ _ G' h' tk' R' g (.int ..))

/-- what a slice of a row gives -/
noncomputable def cut (lo hi : Option Int) (ds : List D) : List D := (ds.drop (kms_lo lo ds.length)).take (kms_hi hi ds.length - kms_lo lo ds.length)
theorem RdL.cut {vs : List Value} {ds : List D} (r : RdL G vs ds) (lo hi : Option Int) : RdL G (kms_pick vs lo hi) (cut lo hi ds) := by
  unfold kms_pick Mine.cut
  rw [r.length]
  exact (r.drop _).take _
theorem cut_from {ds : List D} {i : Int} (h : 0 ≤ i) : cut (some i) none ds = ds.drop i.toNat := by
  unfold cut kms_lo kms_hi
  dsimp only
  rw [if_neg (by omega)]
  rcases Nat.le_total i.toNat ds.length with q | q
  · rw [Nat.min_eq_left q, List.take_of_length_le (by simp)]
  · rw [Nat.min_eq_right q, List.drop_of_length_le q, List.drop_of_length_le (Nat.le_refl _)]; simp
theorem cut_upto {ds : List D} {i : Int} (h : 0 ≤ i) : cut none (some i) ds = ds.take i.toNat := by
  unfold cut kms_lo kms_hi
  dsimp only
  rw [if_neg (by omega), List.drop_zero, Nat.sub_zero]
  rcases Nat.le_total i.toNat ds.length with q | q
  · rw [Nat.min_eq_left q]
  · rw [Nat.min_eq_right q, List.take_of_length_le (Nat.le_refl _), List.take_of_length_le q]
theorem cut_run {ds : List D} {i j : Int} (h : 0 ≤ i) (h' : 0 ≤ j) : cut (some i) (some j) ds = (ds.drop i.toNat).take (j.toNat - i.toNat) := by
  unfold cut kms_lo kms_hi
  dsimp only
  rw [if_neg (by omega), if_neg (by omega)]
  rcases Nat.le_total i.toNat ds.length with q | q
  · rw [Nat.min_eq_left q]
    rcases Nat.le_total j.toNat ds.length with z | z
    · rw [Nat.min_eq_left z]
    · rw [Nat.min_eq_right z, List.take_of_length_le (l := ds.drop _) (by simp), List.take_of_length_le (by simp; omega)]
  · rw [Nat.min_eq_right q, List.drop_of_length_le (Nat.le_refl _), List.drop_of_length_le q]; simp

theorem EvP.sliceL {v : Expr} {lower upper : Option Expr} {p pos : Pos} {d : D} {ds : List D} {lo hi : Option Int} (hv : EvP Ω Γ A ρ π (eval v Γ.env) d) (l : LstD π d ds) (hlo : PtP Ω Γ A ρ π lower lo) (hhi : PtP Ω Γ A ρ π upper hi) (hz : ds.length ≤ 1000) :
    EvP Ω Γ A ρ π (eval (.Subscript v (.Slice lower upper none p) pos) Γ.env) (.list (cut lo hi ds)) := by
  intro s G Q E R hQ
  refine Subscript_ (hv s G _ E R fun u G1 h1 tk1 R1 g1 r1 => wpAny_Slice (hlo _ G1 _ E R1 fun vl G2 h2 tk2 R2 g2 p2 => hhi _ G2 _ E R2 fun vu G3 h3 tk3 R3 g3 p3 => wpAny_evalPart_none ?_))
  have R4 : Rel Γ ρ π G3 (h3.push { cls := .type "slice", data := .fields #[vl, vu, .none] }) := R3.waste _
  obtain ⟨x, vs, rfl, hl, hr⟩ := l.at R4 (r1.mono (g2.trans g3))
  refine tail_any hl.typeIs slot_list_getitem.lookup (wpAny_getItem_list_slice hl (Heap.IsSliceOf.new ..) p2 p3 .none (by simp) ?_ (by rw [List.size_toArray, hr.length, sizeLine_eq]; omega)) (by rfl)
  rw [kms_pick_eq]
  obtain ⟨R5, g5⟩ := R4.alloc { cls := .type "list", data := .seq (kms_pick vs lo hi).toArray } rfl
  exact hQ _ _ _ tk3 R5 (g1.trans (g2.trans (g3.trans g5))) (.list (ext1_at ..) rfl rfl ((hr.cut lo hi).mono g5))
theorem EvP.addL {x y : Expr} {pos : Pos} {d e : D} {ds es : List D} (hx : EvP Ω Γ A ρ π (eval x Γ.env) d) (l : LstD π d ds) (hy : EvP Ω Γ A ρ π (eval y Γ.env) e) (k : LstD π e es) (hz : ds.length + es.length ≤ 1000) :
    EvP Ω Γ A ρ π (eval (.BinOp x .Add y pos) Γ.env) (.list (ds ++ es)) :=
  hx.bin hy fun s G u v Q E R r1 r2 hQ => by
    obtain ⟨a, vs, rfl, hl, hr⟩ := l.at R r1
    obtain ⟨b, ws, rfl, hl', hr'⟩ := k.at R r2
    obtain ⟨m, news, F, N, via⟩ := R.via
    refine add_arrays F N hl hl' (fun h' F' N' => ?_) (by rw [List.size_toArray, List.size_toArray, hr.length, hr'.length, sizeLine_eq]; omega)
    obtain ⟨_, fr⟩ := via h' F' fun p hp => N' p (.tail _ hp)
    obtain ⟨R2, g2⟩ := fr _ _ (get_size s.heap) (N' _ (.head _)).1
    exact hQ _ _ _ s.toks R2 g2 (.list (ext1_at ..) rfl rfl ((hr.append hr').mono g2))
theorem carried_ints : ∀ {vs : List Value} {ns : List Int}, RdL G vs (ns.map .int) → ∃ ds, CarriedAll vs ds
  | [], [], _ => ⟨[], .nil⟩
  | v :: vs, n :: ns, r => by
    cases r with
    | cons r1 r2 =>
      cases r1
      obtain ⟨ds, h⟩ := carried_ints (ns := ns) r2
      exact ⟨.int n :: ds, .cons (.int ..) h⟩
theorem ints_are : ∀ {vs : List Value} {ns : List Int}, RdL G vs (ns.map .int) → IntsAre vs ns
  | [], [], _ => .nil
  | v :: vs, n :: ns, r => by
    cases r with
    | cons r1 r2 =>
      cases r1
      exact .cons n _ (ints_are (ns := ns) r2)
theorem ints_rd : ∀ {vs : List Value} {ns : List Int}, IntsAre vs ns → RdL G vs (ns.map .int)
  | _, _, .nil => .nil
  | _, _, .cons n t h => .cons (.int ..) (ints_rd h)
theorem RdL.rep {vs : List Value} {ds : List D} (r : RdL G vs ds) : ∀ n : Nat, RdL G (List.replicate n vs).flatten (List.replicate n ds).flatten
  | 0 => .nil
  | n + 1 => r.append (r.rep n)
end
end

section
open PySem PySem.Calls PySem.W PyProof.Rows PySem.Spec
section
variable {Ω : Wo} {Γ : Ctx} {A : Around} {ρ : Loc} {π : Led} {G G' : GM} {h h' : Heap}

theorem EvP.mulL {x y : Expr} {pos : Pos} {d : D} {ns : List Int} {k : Int} (hx : EvP Ω Γ A ρ π (eval x Γ.env) d) (l : LstD π d (ns.map .int)) (hy : EvP Ω Γ A ρ π (eval y Γ.env) (.int k)) (hz : ns.length ≤ 1000) (h0 : -1000 ≤ k) (h1 : k ≤ 1000) :
    EvP Ω Γ A ρ π (eval (.BinOp x .Mult y pos) Γ.env) (.list (List.replicate k.toNat (ns.map .int)).flatten) :=
  hx.bin hy fun s G u v Q E R r1 r2 hQ => by
    cases r2
    obtain ⟨a, vs, rfl, hl, hr⟩ := l.at R r1
    obtain ⟨m, news, F, N, via⟩ := R.via
    obtain ⟨ps, hc⟩ := carried_ints hr
    have hb : vs.length * k.toNat ≤ 2 ^ 24 := by
      have e1 : vs.length ≤ 1000 := by rw [hr.length, List.length_map]; exact hz
      have e2 : k.toNat ≤ 1000 := by omega
      exact Nat.le_trans (Nat.mul_le_mul e1 e2) (by decide)
    refine mul_list_is F N hl hc (by omega) (by omega) hb (fun h' F' N' _ hl' _ => ?_)
    obtain ⟨_, fr⟩ := via h' F' N'
    obtain ⟨o, ho, hcl, n, hd⟩ := hl'
    obtain ⟨R2, g2⟩ := fr _ _ (get_size s.heap) ho
    exact hQ _ _ _ s.toks R2 g2 (.list (ext1_at ..) hcl hd ((hr.rep _).mono g2))
theorem EvP.mulB {x y : Expr} {pos : Pos} {b : List UInt8} {k : Int} (hx : EvP Ω Γ A ρ π (eval x Γ.env) (.bytes b.toArray)) (hy : EvP Ω Γ A ρ π (eval y Γ.env) (.int k)) (hb : b ≠ []) (hz : b.length ≤ 16) (h0 : -1000 ≤ k) (h1 : k ≤ 1000) :
    EvP Ω Γ A ρ π (eval (.BinOp x .Mult y pos) Γ.env) (.bytes (List.replicate k.toNat b).flatten.toArray) :=
  hx.bin hy fun s G u v Q E R r1 r2 hQ => by
    cases r1; cases r2
    exact bytes_mul_any hb (by omega) (by omega) hz fun t' k' => hQ _ G s.heap k' R (GLe.refl G) (.bytes ..)

theorem EvP.sum {x : Str} {np pos : Pos} {e : Expr} {d : D} {ns : List Int} (K : COk Ω Γ A) (hh : A.handled = none) (hf : EvP Ω Γ A ρ π (eval (.Name x np) Γ.env) (.raw (.builtin "sum"))) (a : EvP Ω Γ A ρ π (eval e Γ.env) d) (l : LstD π d (ns.map .int))
    (he : starEach [e] Γ.env = [(false, eval e Γ.env)] := by rfl) : EvP Ω Γ A ρ π (eval (.Call (.Name x np) [e] [] pos) Γ.env) (.int ns.sum) :=
  EvP.bcall K hf (ElP.cons a ElP.nil he) (fun s G vs Q E R r hQ => by
    cases r with
    | cons r1 r2 =>
      cases r2
      obtain ⟨y, ws, rfl, hl, hr⟩ := l.at R r1
      obtain ⟨m, news, F, N, via⟩ := R.via
      exact sumK hh F N hl (ints_are hr) fun h' tk t' F' N' => hQ _ G h' tk (via h' F' N').1 (GLe.refl G) (.int ..)) (by rw [he]; rfl)
theorem EvP.max2 {x : Str} {np pos : Pos} {es : List Expr} {a b : Int} (K : COk Ω Γ A) (hh : A.handled = none) (hf : EvP Ω Γ A ρ π (eval (.Name x np) Γ.env) (.raw (.builtin "max"))) (h1 : ElP Ω Γ A ρ π (spliced (backTo pos (starEach es Γ.env))) [.int a, .int b])
    (hs : ((backTo pos (starEach es Γ.env)).any (·.1)) = false := by rfl) (hz : es ≠ [] := by intro h; cases h) : EvP Ω Γ A ρ π (eval (.Call (.Name x np) es [] pos) Γ.env) (.int (if b > a then b else a)) :=
  EvP.bcall K hf h1 (fun s G vs Q E R r hQ => by
    cases r with
    | cons r1 r2 =>
      cases r2 with
      | cons r2 r3 =>
        cases r3; cases r1; cases r2
        obtain ⟨m, news, F, N, via⟩ := R.via
        exact max_two_N hh F N fun h' tk F' N' => hQ _ G h' tk (via h' F' N').1 (GLe.refl G) (.int ..)) hs (fun e => absurd e hz)
theorem EvP.sorted {x : Str} {np pos : Pos} {e : Expr} {d : D} {ns ns' : List Int} (K : COk Ω Γ A) (hf : EvP Ω Γ A ρ π (eval (.Name x np) Γ.env) (.raw (.builtin "sorted"))) (a : EvP Ω Γ A ρ π (eval e Γ.env) d) (l : LstD π d (ns.map .int)) (hz : ns.length < 64)
    (hs : ∀ l' : List Int, l'.Perm ns → l'.Pairwise (· ≤ ·) → l' = ns') (he : starEach [e] Γ.env = [(false, eval e Γ.env)] := by rfl) : EvP Ω Γ A ρ π (eval (.Call (.Name x np) [e] [] pos) Γ.env) (.list (ns'.map .int)) :=
  EvP.bcall K hf (ElP.cons a ElP.nil he) (fun s G vs Q E R r hQ => by
    cases r with
    | cons r1 r2 =>
      cases r2
      obtain ⟨y, ws, rfl, hl, hr⟩ := l.at R r1
      obtain ⟨m, news, F, N, via⟩ := R.via
      refine sorted_N F N hl (ints_are hr) (by rw [hr.length, List.length_map]; exact hz) fun h' vs' l' e' F' N' hi hp hw => ?_
      have := hs l' hp hw
      subst this
      obtain ⟨_, fr⟩ := via h' F' fun p hp => N' p (.tail _ hp)
      have s2 : s.heap.get? (s.heap.objs.size + 1) = none := by
        cases q : s.heap.get? (s.heap.objs.size + 1) with
        | none => rfl
        | some o => exact absurd (Heap.lt_size q) (Nat.not_lt.mpr (Nat.le_succ _))
      obtain ⟨R2, g2⟩ := fr _ _ s2 (N' _ (.head _)).1
      exact hQ _ _ h' s.toks R2 g2 (.list (ext1_at ..) rfl rfl (ints_rd hi))) (by rw [he]; rfl)

/-! a call of a built-in type: by its name -/
theorem EvP.tcall {x : Str} {np pos : Pos} {e : Expr} {es : List Expr} {T : String} {ds : List D} {d : D} (hf : EvP Ω Γ A ρ π (eval (.Name x np) Γ.env) (.raw (.type T))) (a : ElP Ω Γ A ρ π (spliced (backTo pos (starEach (e :: es) Γ.env))) ds)
    (h : ∀ (s : Shared) G vs (Q E : Value → Shared → Prop), Rel Γ ρ π G s.heap → RdL G vs ds → (∀ v G' h' tk', Rel Γ ρ π G' h' → GLe G G' → Rd G' v d → Q v { s with heap := h', toks := tk' }) → wpAny (model Ω.prog Ω.w) A (call (.type T) vs) Q E s)
    (he : starEach (e :: es) Γ.env = (false, eval e Γ.env) :: starEach es Γ.env := by rfl) (hs : ((backTo pos (starEach es Γ.env)).any (·.1)) = false := by rfl) : EvP Ω Γ A ρ π (eval (.Call (.Name x np) (e :: es) [] pos) Γ.env) d := by
  intro s G Q E R hQ
  refine wpAny_Call_NameR (hf s G _ E R fun f G1 h1 tk1 R1 g1 r1 => ?_)
  cases r1
  exact PyProof.Rows.callWith_type1 (a _ G1 _ E R1 fun vs G2 h2 tk2 R2 g2 r2 => h _ G2 vs Q E R2 r2 fun v G3 h3 tk3 R3 g3 r3 => hQ v G3 h3 tk3 R3 (g1.trans (g2.trans g3)) r3) he hs
theorem EvP.tupleL {x : Str} {np pos : Pos} {e : Expr} {d : D} {ds : List D} (hf : EvP Ω Γ A ρ π (eval (.Name x np) Γ.env) (.raw (.type "tuple"))) (a : EvP Ω Γ A ρ π (eval e Γ.env) d) (l : LstD π d ds) (hz : ds.length ≤ 1000)
    (he : starEach [e] Γ.env = [(false, eval e Γ.env)] := by rfl) : EvP Ω Γ A ρ π (eval (.Call (.Name x np) [e] [] pos) Γ.env) (.tup ds) :=
  EvP.tcall hf (ElP.cons a ElP.nil he) (fun s G vs Q E R r hQ => by
    cases r with
    | cons r1 r2 =>
      cases r2
      obtain ⟨y, ws, rfl, hl, hr⟩ := l.at R r1
      refine call_tuple_list hl (fun h' hk => ?_) (by rw [List.size_toArray, hr.length, sizeLine_eq]; omega)
      obtain ⟨R2, g2⟩ := (R.keep hk).alloc { cls := .type "tuple", data := .seq ws.toArray } rfl
      exact hQ _ _ _ s.toks R2 g2 (.tup (ext1_at ..) rfl rfl (hr.mono g2))) he (by rfl)
end
end

section
open PySem PySem.Calls PySem.W PyProof.Rows PySem.Spec
section
variable {Ω : Wo} {Γ : Ctx} {A : Around} {ρ : Loc} {π : Led} {G G' : GM} {h h' : Heap}

theorem EvP.bytesL {x : Str} {np pos : Pos} {e : Expr} {d : D} {ns : List Int} (hh : A.handled = none) (hf : EvP Ω Γ A ρ π (eval (.Name x np) Γ.env) (.raw (.type "bytes"))) (a : EvP Ω Γ A ρ π (eval e Γ.env) d) (l : LstD π d (ns.map .int)) (hb : ∀ n ∈ ns, 0 ≤ n ∧ n < 256) (hz : ns.length ≤ 1000)
    (he : starEach [e] Γ.env = [(false, eval e Γ.env)] := by rfl) : EvP Ω Γ A ρ π (eval (.Call (.Name x np) [e] [] pos) Γ.env) (.bytes (ns.map fun n => n.toNat.toUInt8).toArray) :=
  EvP.tcall hf (ElP.cons a ElP.nil he) (fun s G vs Q E R r hQ => by
    cases r with
    | cons r1 r2 =>
      cases r2
      obtain ⟨y, ws, rfl, hl, hr⟩ := l.at R r1
      obtain ⟨m, news, F, N, via⟩ := R.via
      exact bytes_K F N hl (ints_are hr) hb (by rw [hr.length, List.length_map, sizeLine_eq]; omega) hh fun h' t k F' N' _ => hQ _ G h' k (via h' F' N').1 (GLe.refl G) (.bytes ..)) he (by rfl)

theorem Iters.weak {v : Value} {ok ok' : GM → Led → Prop} {ds : List D} (i : Iters Ω Γ A v ok ds) (h : ∀ G π, ok' G π → ok G π) : Iters Ω Γ A v ok' ds := fun ρ π s G Q E hok R hQ =>
  i ρ π s G Q E (h G π hok) R fun it o P h' tk' N k z hP R' => hQ it o P h' tk' ⟨fun Γ i d ρ π o s G Q E a b c => N.item Γ i d ρ π o s G Q E a b (h _ _ c), fun Γ ρ π o s G Q E n a b => N.stop Γ ρ π o s G Q E n a (h _ _ b), N.self⟩ k z hP R'
theorem iters_rng {v : Value} {a b c : Int} {n : Nat} (hh : A.handled = none) (hs : Builtin.Range.small a b c = true) (hz : Builtin.Range.rangeSize a b c = (n : Int)) {r : Addr} : Iters Ω Γ A (.ref r) (fun G π => RngV a b c (.ref r) G π) (rangeD a c n) :=
  (iters_range hh hs hz).weak fun G π h => by
    obtain ⟨r', e, h⟩ := h
    cases e
    exact h
theorem SrcP.range {x : Str} {np pos : Pos} {e : Expr} {es : List Expr} {ds : List D} {a b c : Int} {n : Nat} (hh : A.handled = none) (hf : EvP Ω Γ A ρ π (eval (.Name x np) Γ.env) (.raw (.type "range"))) (ha : ElP Ω Γ A ρ π (spliced (backTo pos (starEach (e :: es) Γ.env))) ds)
    (h : ∀ (s : Shared) G vs (Q E : Value → Shared → Prop), Rel Γ ρ π G s.heap → RdL G vs ds → (∀ v G' h' tk', Rel Γ ρ π G' h' → GLe G G' → RngV a b c v G' π → Q v { s with heap := h', toks := tk' }) → wpAny (model Ω.prog Ω.w) A (call (.type "range") vs) Q E s)
    (hs : Builtin.Range.small a b c = true) (hz : Builtin.Range.rangeSize a b c = (n : Int)) (he : starEach (e :: es) Γ.env = (false, eval e Γ.env) :: starEach es Γ.env := by rfl) (hst : ((backTo pos (starEach es Γ.env)).any (·.1)) = false := by rfl) :
    SrcP Ω Γ A ρ π (eval (.Call (.Name x np) (e :: es) [] pos) Γ.env) (RngV a b c) (rangeD a c n) := by
  intro s G Q E R hQ
  refine wpAny_Call_NameR (hf s G _ E R fun f G1 h1 tk1 R1 g1 r1 => ?_)
  cases r1
  refine PyProof.Rows.callWith_type1 (ha _ G1 _ E R1 fun vs G2 h2 tk2 R2 g2 r2 => h _ G2 vs Q E R2 r2 fun v G3 h3 tk3 R3 g3 ok => ?_) he hst
  obtain ⟨r, rfl, hr⟩ := id ok
  exact hQ _ G3 h3 tk3 R3 (g1.trans (g2.trans g3)) ok (iters_rng (v := .none) hh hs hz)
theorem RngV.of {s : Shared} {a b c : Int} {h' : Heap} {t u v : Tok} (R : Rel Γ ρ π G s.heap) (R' : Rel Γ ρ π G h') (hr : IsRange h' s.heap.objs.size a b c t u v) : ∃ G', Rel Γ ρ π G' h' ∧ GLe G G' ∧ RngV a b c (.ref s.heap.objs.size) G' π := by
  obtain ⟨R2, g2⟩ := R'.fresh R (get_size s.heap) hr
  exact ⟨_, R2, g2, _, rfl, t, u, v, ext1_at ..⟩
theorem SrcP.range1 {x : Str} {np pos : Pos} {e : Expr} {b : Int} (hh : A.handled = none) (hf : EvP Ω Γ A ρ π (eval (.Name x np) Γ.env) (.raw (.type "range"))) (h1 : EvP Ω Γ A ρ π (eval e Γ.env) (.int b)) (hb : -1000000 ≤ b) (hb' : b ≤ 1000000)
    (he : starEach [e] Γ.env = [(false, eval e Γ.env)] := by rfl) : SrcP Ω Γ A ρ π (eval (.Call (.Name x np) [e] [] pos) Γ.env) (RngV 0 b 1) (rangeD 0 1 b.toNat) :=
  SrcP.range hh hf (ElP.cons h1 ElP.nil he) (fun s G vs Q E R r hQ => by
    cases r with
    | cons r1 r2 =>
      cases r2; cases r1
      obtain ⟨m, news, F, N, via⟩ := R.via
      refine range1_rows F N fun h' tk t₁ u₁ v₁ hr F' N' _ => ?_
      obtain ⟨G', R', g, ok⟩ := RngV.of R (via h' F' N').1 hr
      exact hQ _ G' h' tk R' g ok) (small_one (by omega) (by omega) (by omega) (by omega)) (by rw [rangeSize_nat]; simp) he (by rfl)
theorem SrcP.range2 {x : Str} {np pos : Pos} {e : Expr} {es : List Expr} {a b : Int} (hh : A.handled = none) (hf : EvP Ω Γ A ρ π (eval (.Name x np) Γ.env) (.raw (.type "range"))) (h1 : ElP Ω Γ A ρ π (spliced (backTo pos (starEach (e :: es) Γ.env))) [.int a, .int b]) (ha : -1000000 ≤ a) (ha' : a ≤ 1000000) (hb : -1000000 ≤ b) (hb' : b ≤ 1000000)
    (he : starEach (e :: es) Γ.env = (false, eval e Γ.env) :: starEach es Γ.env := by rfl) (hst : ((backTo pos (starEach es Γ.env)).any (·.1)) = false := by rfl) : SrcP Ω Γ A ρ π (eval (.Call (.Name x np) (e :: es) [] pos) Γ.env) (RngV a b 1) (rangeD a 1 (b - a).toNat) :=
  SrcP.range hh hf h1 (fun s G vs Q E R r hQ => by
    cases r with
    | cons r1 r2 =>
      cases r2 with
      | cons r2 r3 =>
        cases r3; cases r1; cases r2
        obtain ⟨m, news, F, N, via⟩ := R.via
        refine range2_rows F N fun h' tk t₁ u₁ v₁ hr F' N' _ => ?_
        obtain ⟨G', R', g, ok⟩ := RngV.of R (via h' F' N').1 hr
        exact hQ _ G' h' tk R' g ok) (small_one (by omega) (by omega) (by omega) (by omega)) (rangeSize_nat a b) he hst
theorem SrcP.rangeDown {x : Str} {np pos : Pos} {e : Expr} {es : List Expr} {a b : Int} (hh : A.handled = none) (hf : EvP Ω Γ A ρ π (eval (.Name x np) Γ.env) (.raw (.type "range"))) (h1 : ElP Ω Γ A ρ π (spliced (backTo pos (starEach (e :: es) Γ.env))) [.int a, .int b, .int (-1)]) (ha : -1000000 ≤ a) (ha' : a ≤ 1000000) (hb : -1000000 ≤ b) (hb' : b ≤ 1000000)
    (hd : Builtin.divisionGoesByPylong (b - a) (-1) = false)
    (he : starEach (e :: es) Γ.env = (false, eval e Γ.env) :: starEach es Γ.env := by rfl) (hst : ((backTo pos (starEach es Γ.env)).any (·.1)) = false := by rfl) : SrcP Ω Γ A ρ π (eval (.Call (.Name x np) (e :: es) [] pos) Γ.env) (RngV a b (-1)) (rangeD a (-1) (a - b).toNat) :=
  SrcP.range hh hf h1 (fun s G vs Q E R r hQ => by
    cases r with
    | cons r1 r2 =>
      cases r2 with
      | cons r2 r3 =>
        cases r3 with
        | cons r3 r4 =>
          cases r4; cases r1; cases r2; cases r3
          obtain ⟨m, news, F, N, via⟩ := R.via
          refine range3_rows F N (by decide) (fun h' tk t₁ u₁ v₁ hr F' N' _ => ?_) (.inl hd)
          obtain ⟨G', R', g, ok⟩ := RngV.of R (via h' F' N').1 hr
          exact hQ _ G' h' tk R' g ok) (small_down (by omega) (by omega) (by omega) (by omega)) (rangeSize_downNat a b) he hst

/-! is None -/
theorem CmpP.isN {G : GM} {d : D} {c : Bool} (h : ∀ v, Rd G v d → (v == Value.none) = c) : CmpP Ω A G .Is d .none c := fun s u v Q E _ r1 r2 hQ => by
  cases r2
  refine is_none_gen ?_
  rw [h u r1]; exact hQ
theorem CmpP.isNotN {G : GM} {d : D} {c : Bool} (h : ∀ v, Rd G v d → (v == Value.none) = !c) : CmpP Ω A G .IsNot d .none c := fun s u v Q E _ r1 r2 hQ => by
  cases r2
  refine isnot_none_gen ?_
  rw [h u r1, Bool.not_not]; exact hQ
theorem none_none {G : GM} : ∀ v, Rd G v .none → (v == Value.none) = true := fun v r => by cases r; rfl
theorem none_inst {G : GM} {C : Addr} {fs : List (Str × D)} : ∀ v, Rd G v (.inst C fs) → (v == Value.none) = false := fun v r => by cases r; rfl

theorem TsP.listT {e : Expr} {d : D} {ds : List D} (a : EvP Ω Γ A ρ π (eval e Γ.env) d) (l : LstD π d ds) (hz : ds.length ≤ 1000000)
    (hs : PySem.isTrue e Γ.env (eval e Γ.env) = (do let v ← eval e Γ.env; standAt (Expr.pos e); holding [v] (truthy v)) := by rfl) : TsP Ω Γ A ρ π (PySem.isTrue e Γ.env (eval e Γ.env)) (!ds.isEmpty) := fun s G Q E R hQ => by
  refine wpAny_isTrue_value (a s G _ E R fun v G1 h1 tk1 R1 g1 r1 => ?_) hs
  obtain ⟨y, ws, rfl, hl, hr⟩ := l.at R1 r1
  refine wpAny_truthy_list hl (by rw [List.size_toArray, hr.length]; omega) ?_
  have e : ws.toArray.isEmpty = ds.isEmpty := by
    have := hr.length
    cases ws <;> cases ds <;> simp_all
  rw [e]
  exact hQ G1 h1 _ R1 g1
end

/-! values that are equal because they are read as the same -/
inductive DtD : Nat → D → Prop
  | none (n : Nat) : DtD n .none
  | bool (n : Nat) (b : Bool) : DtD n (.bool b)
  | int (n : Nat) (i : Int) : DtD n (.int i)
  | str (n : Nat) (x : Str) : DtD n (.str x)
  | bytes (n : Nat) (b : Array UInt8) : DtD n (.bytes b)
  | tup {n : Nat} {ds : List D} : (∀ d ∈ ds, DtD n d) → DtD (n + 1) (.tup ds)
  | list {n : Nat} {ds : List D} : (∀ d ∈ ds, DtD n d) → DtD (n + 1) (.list ds)
open SeqAt in
theorem eq_bytes_at {A : Around} {s : Shared} {b : Array UInt8} {t u : Tok} : EqAt A s (.bytes b t) (.bytes b u) true := fun prog w E Q hq => by
  unfold eqBool
  refine wpAny_holding ?_
  refine wpAny_ite_split (fun _ => wpAny_bind (wpAny_rule (wpAny_pure hq))) (fun _ => ?_)
  refine wpAny_bind (eq_bytes (b := b) (c := b) (t := t) (u := u) (wpAny_truthy_bool ?_) : wpAny _ _ (compareOp .Eq (.bytes b t) (.bytes b u)) _ _ _)
  rw [beq_self_eq_true]; exact hq
open SeqAt in
theorem eqD {G : GM} {n : Nat} {d : D} (hd : DtD n d) : ∀ {A : Around} {s : Shared} {u v : Value}, Sub G s.heap → Rd G u d → Rd G v d → A.units + n < cLine → EqAt A s u v true := by
  induction hd with
  | none n => intro A s u v hs r1 r2 hu; cases r1; cases r2; exact EqAt.same _
  | bool n b => intro A s u v hs r1 r2 hu; cases r1; cases r2; exact EqAt.same _
  | int n i =>
    intro A s u v hs r1 r2 hu
    cases r1 with
    | int _ t =>
      cases r2 with
      | int _ t' =>
        have := EqAt.int_int (A := A) (s := s) i t i t'
        rw [beq_self_eq_true] at this
        exact this
  | str n x =>
    intro A s u v hs r1 r2 hu
    cases r1 with
    | str _ t =>
      cases r2 with
      | str _ t' =>
        have := EqAt.str_str (A := A) (s := s) x t x t'
        rw [beq_self_eq_true] at this
        exact this
  | bytes n b => intro A s u v hs r1 r2 hu; cases r1; cases r2; exact eq_bytes_at
  | @tup n ds hds ih =>
    intro A s u v hs r1 r2 hu
    cases r1 with
    | @tup a o vs m _ h1 h2 h3 h4 =>
      cases r2 with
      | @tup b o' ws m' _ k1 k2 k3 k4 =>
        by_cases q : a = b
        · subst q; exact EqAt.same _
        · have := RcAt.tuples (A := A) (s := s) (l := a) (b := b) (e := fun _ => true) ⟨o, hs _ _ h1, h2, _, h3⟩ ⟨o', hs _ _ k1, k2, _, k3⟩ (by omega) fun j j1 j2 => by
            have z1 := h4.length
            have z2 : j < ds.length := by rw [← z1]; simpa using j1
            obtain ⟨x, hx, rx⟩ := h4.get (List.getElem?_eq_getElem z2)
            obtain ⟨y, hy, ry⟩ := k4.get (List.getElem?_eq_getElem z2)
            have e1 : vs.toArray[j] = x := by
              have := (List.getElem?_eq_some_iff.mp hx).2
              simpa using this
            have e2 : ws.toArray[j] = y := by
              have := (List.getElem?_eq_some_iff.mp hy).2
              simpa using this
            rw [e1, e2]
            exact ih _ (List.getElem_mem z2) hs rx ry (by show A.units + 1 + n < cLine; omega)
          have z : ((List.range (min vs.toArray.size ws.toArray.size)).all (fun _ => true) && vs.toArray.size == ws.toArray.size) = true := by
            have : vs.length = ws.length := h4.length.trans k4.length.symm
            simp [this]
          rw [z] at this
          exact .of_refs q this
  | @list n ds hds ih =>
    intro A s u v hs r1 r2 hu
    cases r1 with
    | @list a o vs m _ h1 h2 h3 h4 =>
      cases r2 with
      | @list b o' ws m' _ k1 k2 k3 k4 =>
        by_cases q : a = b
        · subst q; exact EqAt.same _
        · have hl : vs.length = ws.length := h4.length.trans k4.length.symm
          have := RcAt.lists (A := A) (s := s) (l := a) (b := b) (e := fun _ => true) ⟨o, hs _ _ h1, h2, _, h3⟩ ⟨o', hs _ _ k1, k2, _, k3⟩ (by simpa using hl) (by omega) fun j j1 j2 => by
            have z1 := h4.length
            have z2 : j < ds.length := by rw [← z1]; simpa using j1
            obtain ⟨x, hx, rx⟩ := h4.get (List.getElem?_eq_getElem z2)
            obtain ⟨y, hy, ry⟩ := k4.get (List.getElem?_eq_getElem z2)
            have e1 : vs.toArray[j] = x := by
              have := (List.getElem?_eq_some_iff.mp hx).2
              simpa using this
            have e2 : ws.toArray[j] = y := by
              have := (List.getElem?_eq_some_iff.mp hy).2
              simpa using this
            rw [e1, e2]
            exact ih _ (List.getElem_mem z2) hs rx ry (by show A.units + 1 + n < cLine; omega)
          have z : (List.range vs.toArray.size).all (fun _ => true) = true := by simp
          rw [z] at this
          exact .of_refs q this

section
variable {Ω : Wo} {A : Around}
open SeqAt in
theorem rcD {G : GM} {n : Nat} {d : D} (hd : DtD n d) {s : Shared} {u v : Value} (hs : Sub G s.heap) (r1 : Rd G u d) (r2 : Rd G v d) (hu : A.units + n < cLine) {Q E : Value → Shared → Prop} :
    (Q (.bool true) s → wpAny (model Ω.prog Ω.w) A (compareOp .Eq u v) Q E s) ∧ (Q (.bool false) s → wpAny (model Ω.prog Ω.w) A (compareOp .NotEq u v) Q E s) := by
  have items : ∀ {ds : List D} {n : Nat} {vs ws : List Value}, (∀ d ∈ ds, DtD n d) → RdL G vs ds → RdL G ws ds → A.units + (n + 1) < cLine → ∀ j (h1 : j < vs.toArray.size) (h2 : j < ws.toArray.size), EqAt A.in1 s vs.toArray[j] ws.toArray[j] true := by
    intro ds n vs ws hds h4 k4 hu j j1 j2
    have z2 : j < ds.length := by rw [← h4.length]; simpa using j1
    obtain ⟨x, hx, rx⟩ := h4.get (List.getElem?_eq_getElem z2)
    obtain ⟨y, hy, ry⟩ := k4.get (List.getElem?_eq_getElem z2)
    have e1 : vs.toArray[j] = x := by
      have := (List.getElem?_eq_some_iff.mp hx).2
      simpa using this
    have e2 : ws.toArray[j] = y := by
      have := (List.getElem?_eq_some_iff.mp hy).2
      simpa using this
    rw [e1, e2]
    exact eqD (hds _ (List.getElem_mem z2)) hs rx ry (by show A.units + 1 + n < cLine; omega)
  cases hd with
  | none n => cases r1; cases r2; exact ⟨fun hQ => RcAt.none_none _ _ E Q hQ, fun hQ => RcNeAt.none_none _ _ E Q hQ⟩
  | bool n b =>
    cases r1; cases r2
    refine ⟨fun hQ => ?_, fun hQ => RcNeAt.bool_bool b b _ _ E Q (by rw [beq_self_eq_true]; exact hQ)⟩
    exact eq_bool (by rw [beq_self_eq_true]; exact hQ)
  | int n i => cases r1; cases r2; exact ⟨fun hQ => eq_int (by rw [beq_self_eq_true]; exact hQ), fun hQ => ne_int (by rw [bne_self_eq_false]; exact hQ)⟩
  | str n x => cases r1; cases r2; exact ⟨fun hQ => eq_str (by rw [beq_self_eq_true]; exact hQ), fun hQ => ne_str (by rw [bne_self_eq_false]; exact hQ)⟩
  | bytes n b => cases r1; cases r2; exact ⟨fun hQ => eq_bytes (by rw [beq_self_eq_true]; exact hQ), fun hQ => ne_bytes (by rw [bne_self_eq_false]; exact hQ)⟩
  | @tup n ds hds =>
    cases r1 with
    | @tup a o vs m _ h1 h2 h3 h4 =>
      cases r2 with
      | @tup b o' ws m' _ k1 k2 k3 k4 =>
        have z : ((List.range (min vs.toArray.size ws.toArray.size)).all (fun _ => true) && vs.toArray.size == ws.toArray.size) = true := by
          have : vs.length = ws.length := h4.length.trans k4.length.symm
          simp [this]
        have i := items hds h4 k4 hu
        refine ⟨fun hQ => RcAt.tuples (e := fun _ => true) ⟨o, hs _ _ h1, h2, _, h3⟩ ⟨o', hs _ _ k1, k2, _, k3⟩ (by omega) i _ _ E Q (by rw [z]; exact hQ), fun hQ => RcNeAt.tuples (e := fun _ => true) ⟨o, hs _ _ h1, h2, _, h3⟩ ⟨o', hs _ _ k1, k2, _, k3⟩ (by omega) i _ _ E Q (by rw [z]; exact hQ)⟩
  | @list n ds hds =>
    cases r1 with
    | @list a o vs m _ h1 h2 h3 h4 =>
      cases r2 with
      | @list b o' ws m' _ k1 k2 k3 k4 =>
        have hl : vs.length = ws.length := h4.length.trans k4.length.symm
        have z : (List.range vs.toArray.size).all (fun _ => true) = true := by simp
        have i := items hds h4 k4 hu
        refine ⟨fun hQ => RcAt.lists (e := fun _ => true) ⟨o, hs _ _ h1, h2, _, h3⟩ ⟨o', hs _ _ k1, k2, _, k3⟩ (by simpa using hl) (by omega) i _ _ E Q (by rw [z]; exact hQ), fun hQ => RcNeAt.lists (e := fun _ => true) ⟨o, hs _ _ h1, h2, _, h3⟩ ⟨o', hs _ _ k1, k2, _, k3⟩ (by simpa using hl) (by omega) i _ _ E Q (by rw [z]; exact hQ)⟩
theorem CmpP.eqD {G : GM} {n : Nat} {d : D} (hd : DtD n d) (hu : A.units + n < cLine) : CmpP Ω A G .Eq d d true := fun s u v Q E hs r1 r2 hQ => (rcD hd hs r1 r2 hu).1 hQ
theorem CmpP.neD {G : GM} {n : Nat} {d : D} (hd : DtD n d) (hu : A.units + n < cLine) : CmpP Ω A G .NotEq d d false := fun s u v Q E hs r1 r2 hQ => (rcD hd hs r1 r2 hu).2 hQ
end
end

section
open PySem PySem.Calls PySem.W PyProof.Rows PySem.Spec
section
variable {Ω : Wo} {Γ : Ctx} {A : Around} {ρ : Loc} {π : Led} {G G' : GM} {h h' : Heap}

theorem Rel.setList {πa πb : Led} {a : Addr} {ds ds' : List D} {vs : List Value} {n : Nat} (R : Rel Γ ρ (πa ++ (a, .list ds) :: πb) G h) (sb : Heap.SameBut a h h') (e : h'.get? a = some { cls := .type "list", data := .seq vs.toArray n }) (r : RdL G vs ds') :
    Rel Γ ρ (πa ++ (a, .list ds') :: πb) G h' :=
  R.setMut (fun b o e' nb => (sb.2 b fun q => nb (q ▸ .head _)).trans e') (fun b e' => by
    by_cases q : b = a
    · subst q; rw [e] at e'; cases e'
    · exact (sb.2 b q).symm.trans e') rfl ⟨vs, n, e, r⟩

theorem Ev.append {o elt : Expr} {apos pos : Pos} {πa πb : Led} {a : Addr} {ds : List D} {d : D} {Ψ : Addr → Led → Prop} {pl : Sem Bool} (ho : EvP Ω Γ A ρ (πa ++ (a, .list ds) :: πb) (eval o Γ.env) (.raw (.ref a))) (hd : EvP Ω Γ A ρ (πa ++ (a, .list ds) :: πb) (eval elt Γ.env) d) (hz : ds.length ≤ 1000)
    (he1 : starEach [elt] Γ.env = [(false, eval elt Γ.env)] := by rfl)
    (he : eval (.Call (.Attribute o "append" apos) [elt] [] pos) Γ.env = (do
      let ov ← eval o Γ.env
      standAt apos.atName
      let (f, first) ← holding [ov] (getMethod ov "append" pl)
      callWith pos f first (backTo pos (starEach [elt] Γ.env)) (backToKw pos (keywordEach [] Γ.env))) := by rfl) :
    Ev Ω Γ A ρ (πa ++ (a, .list ds) :: πb) (eval (.Call (.Attribute o "append" apos) [elt] [] pos) Γ.env) (fun r π' => r = .none ∧ π' = πa ++ (a, .list (ds ++ [d])) :: πb) Ψ := by
  intro s G Q E R hQ _
  refine methodCall_KW (pl := pl) (ho s G _ E R fun v G1 h1 tk1 R1 g1 r1 => ?_) he
  cases r1
  obtain ⟨vs, n, e1, hr⟩ := R1.aft.led (a, .list ds) (List.mem_append_right _ (.head _))
  refine getMethod_builtin ⟨_, e1, rfl⟩ PySem.F.plainAttrs_list PySem.F.slot_list_append PySem.F.type_list_append (fun b e => by cases e; exact ⟨_, e1, rfl⟩) ?_
  refine callWith_builtin (by rw [he1]; rfl) ?_
  rw [he1]
  refine evalArgs_plain ((ElP.cons hd ElP.nil he1 : ElP Ω Γ A ρ _ (spliced (backTo pos (starEach [elt] Γ.env))) [d]) |> fun x => by
    rw [he1] at x
    refine x _ G1 _ E R1 fun ws G2 h2 tk2 R2 g2 r2 => ?_
    cases r2 with
    | cons r2 r3 =>
      cases r3
      obtain ⟨vs, n, e2, hr⟩ := R2.aft.led (a, .list ds) (List.mem_append_right _ (.head _))
      refine wpAny_list_append_plain ⟨n, e2⟩ (fun h' hp sb => ?_) (by rw [List.size_toArray, hr.length, sizeLine_eq]; omega)
      obtain ⟨n', e3⟩ := hp
      rw [List.push_toArray] at e3
      exact hQ .none .none _ G2 h' tk2 ⟨rfl, rfl⟩ (R2.setList sb e3 (hr.append (.cons r2 .nil))) (g1.trans g2) .none)

theorem Ev.pop {o : Expr} {apos pos : Pos} {πa πb : Led} {a : Addr} {ds : List D} {d : D} {Ψ : Addr → Led → Prop} {pl : Sem Bool} (ho : EvP Ω Γ A ρ (πa ++ (a, .list (ds ++ [d])) :: πb) (eval o Γ.env) (.raw (.ref a))) (hz : ds.length ≤ 1000)
    (he : eval (.Call (.Attribute o "pop" apos) [] [] pos) Γ.env = (do
      let ov ← eval o Γ.env
      standAt apos.atName
      let (f, first) ← holding [ov] (getMethod ov "pop" pl)
      callWith pos f first (backTo pos (starEach [] Γ.env)) (backToKw pos (keywordEach [] Γ.env))) := by rfl) :
    Ev Ω Γ A ρ (πa ++ (a, .list (ds ++ [d])) :: πb) (eval (.Call (.Attribute o "pop" apos) [] [] pos) Γ.env) (fun r π' => r = d ∧ π' = πa ++ (a, .list ds) :: πb) Ψ := by
  intro s G Q E R hQ _
  refine methodCall_KW (pl := pl) (ho s G _ E R fun v G1 h1 tk1 R1 g1 r1 => ?_) he
  cases r1
  obtain ⟨vs, n, e1, hr⟩ := R1.aft.led (a, .list (ds ++ [d])) (List.mem_append_right _ (.head _))
  refine Copied.getMethod_pop_at e1 rfl rfl ?_
  refine callWith_builtin rfl (evalArgs_nil3 ?_)
  have hlen : vs.length = ds.length + 1 := by rw [hr.length, List.length_append]; rfl
  obtain ⟨y, hy, ry⟩ := hr.get (k := ds.length) (d := d) (by simp)
  refine Copied.pop_at (y := y) e1 ?_ (fun h' sb e2 => ?_) (by rw [List.size_toArray, hlen, sizeLine_eq]; omega)
  · rw [List.size_toArray, hlen]
    simpa using hy
  · rw [List.pop_toArray] at e2
    have hr' := hr.dropLast
    rw [List.dropLast_concat] at hr'
    exact hQ y d _ G1 h' tk1 ⟨rfl, rfl⟩ (R1.setList sb e2 hr') g1 ry
end
end

section
open PySem PySem.Calls PySem.W PyProof.Rows PySem.Spec
/-- a text of some length -/
noncomputable def TxP (Ω : Wo) (Γ : Ctx) (A : Around) (ρ : Loc) (π : Led) (n : Nat) (t : Sem Value) : Prop :=
  ∀ (s : Shared) (G : GM) (Q E : Value → Shared → Prop), Rel Γ ρ π G s.heap →
    (∀ x tk G' h' tk', x.length ≤ n → Rel Γ ρ π G' h' → GLe G G' → Q (.str x tk) { s with heap := h', toks := tk' }) → wpAny (model Ω.prog Ω.w) A t Q E s
/-- the parts of an f-string -/
noncomputable def JnP (Ω : Wo) (Γ : Ctx) (A : Around) (ρ : Loc) (π : Led) (es : List Expr) : Prop := ∀ e ∈ es, TxP Ω Γ A ρ π 600 (eval e Γ.env)

section
variable {Ω : Wo} {Γ : Ctx} {A : Around} {ρ : Loc} {π : Led} {G G' : GM} {h h' : Heap}

theorem TxP.const {x : Str} {k : Nat} {pos : Pos} (hx : x.length ≤ 600) : TxP Ω Γ A ρ π 600 (eval (.Constant (.str x) k pos) Γ.env) := fun s G Q E R hQ => wpAny_Constant_str (hQ x _ G s.heap _ hx R (GLe.refl G))
theorem TxP.int {e : Expr} {pos : Pos} {a : Int} (h : EvP Ω Γ A ρ π (eval e Γ.env) (.int a)) (ha : a.natAbs < 2 ^ 64) : TxP Ω Γ A ρ π 600 (eval (.FormattedValue e (-1) none pos) Γ.env) := fun s G Q E R hQ => by
  have hl : a.natAbs.log2 < 65 := by
    by_cases z : a.natAbs = 0
    · rw [z]; decide
    · exact Nat.lt_succ_of_lt ((Nat.log2_lt z).mpr ha)
  refine FormattedValue_plain (h s G _ E R fun v G1 h1 tk1 R1 g1 r1 => ?_)
  cases r1
  refine formatField_int_small (by omega) ?_
  refine hQ _ _ G1 h1 _ ?_ R1 g1
  have := int_text_length_le (k := 65) (by decide) hl
  rw [PySem.ofString_length]
  omega
theorem joinP : ∀ {es : List Expr} {acc : Str} {s : Shared} {G : GM} {Q E : Value → Shared → Prop}, JnP Ω Γ A ρ π es → acc.length + 600 * es.length ≤ 100000 → Rel Γ ρ π G s.heap →
    (∀ x tk G' h' tk', x.length ≤ 100000 → Rel Γ ρ π G' h' → GLe G G' → Q (.str x tk) { s with heap := h', toks := tk' }) → wpAny (model Ω.prog Ω.w) A (joinParts acc (evalEach es Γ.env)) Q E s
  | [], acc, s, G, Q, E, _, hl, R, hQ => by
    show wpAny _ _ (joinParts acc []) _ _ _
    exact joinParts_nil (hQ acc _ G s.heap _ (by simpa using hl) R (GLe.refl G)) (by rw [sizeLine_eq]; simp at hl; omega)
  | e :: es, acc, s, G, Q, E, hj, hl, R, hQ => by
    show wpAny _ _ (joinParts acc (eval e Γ.env :: evalEach es Γ.env)) _ _ _
    refine joinParts_cons (hj e (.head _) s G _ E R fun x tk G1 h1 tk1 hx R1 g1 => ?_)
    have e1 : (acc ++ x).length = acc.length + x.length := strLen_append ..
    rw [List.length_cons] at hl
    refine ⟨by rw [e1, sizeLine_eq]; omega, ?_⟩
    exact joinP (fun e he => hj e (.tail _ he)) (by rw [e1]; omega) R1 fun x tk G2 h2 tk2 hx R2 g2 => hQ x tk G2 h2 tk2 hx R2 (g1.trans g2)
theorem TxP.join {e₁ e₂ : Expr} {es : List Expr} {pos : Pos} (h : JnP Ω Γ A ρ π (e₁ :: e₂ :: es)) (hl : es.length ≤ 50 := by decide) : TxP Ω Γ A ρ π 100000 (eval (.JoinedStr (e₁ :: e₂ :: es) pos) Γ.env) := fun s G Q E R hQ =>
  JoinedStr_many (joinP (acc := Str.empty) h (by
    have : Str.empty.length = 0 := rfl
    rw [this, List.length_cons, List.length_cons]; omega) R hQ)
theorem JnP.nil : JnP Ω Γ A ρ π [] := fun e h => nomatch h
theorem JnP.cons {e : Expr} {es : List Expr} (h : TxP Ω Γ A ρ π 600 (eval e Γ.env)) (t : JnP Ω Γ A ρ π es) : JnP Ω Γ A ρ π (e :: es) := fun x hx => by
  rcases List.mem_cons.mp hx with rfl | hx
  · exact h
  · exact t x hx

/-! an exception of the program's own is raised -/
theorem Ex.raise {x : Str} {np cpos pos : Pos} {e : Expr} {C : Addr} {n : Nat} {Φ : Fl → Loc → Led → Prop} {Ψ : Addr → Loc → Led → Prop} (K : COk Ω Γ A) (hh : A.handled = none) (hk : Γ.names.lookup x = some .globalImplicit) (ex : nsIn Ω.K mainGlobals x = some (some (.ref C)))
    (hx : excIn Ω.K C [.type "Exception", .type "BaseException", .type "object"] "Exception.__new__" = true) (a : TxP Ω Γ A ρ π n (eval e Γ.env)) (hΨ : Ψ C ρ π) (hd : (x == ("__debug__" : Str)) = false := by decide)
    (he : starEach [e] Γ.env = [(false, eval e Γ.env)] := by rfl) : Ex Ω Γ A ρ π (exec (.Raise (some (.Call (.Name x np) [e] [] cpos)) none pos) Γ.env) Φ Ψ := by
  intro s G Q E R hQ hE
  have T := R.top K
  have X := R.kin K
  obtain ⟨tl, N, nm, q, bs, hdct, sn, sub, ab, col, dd, k0, k1, k2, k3, k5, mN, hC, hN, hni, T'⟩ := (own_of_in X T ex hx).obj
  have hCb : Ω.b.get? C = some (excClassObj nm q C N bs tl hdct sn sub ab col dd k0 k1 k2 k3 k5 "Exception.__new__") := by
    obtain ⟨tl, N', nm', q', bs', hdct', sn', sub', ab', col', dd', k0', k1', k2', k3', k5', mN', hC', _⟩ := (own_of_in Ω.kin Ω.top ex hx).obj
    have := R.stays K _ _ hC'
    rw [hC] at this
    rw [hC', this]
  refine wpAny_Raise_call_subT (C := C) (nm := nm) (q := q) (N := N) (bs := bs) (bm := tl) (hdct := hdct) (sn := sn) (sub := sub) (ab := ab) (col := col) (dd := dd) (k0 := k0) (k1 := k1) (k2 := k2) (k3 := k3) (k5 := k5)
    PySem.F.excBase_Exception (mN := mN) (T'.hasType PySem.F.excBase_Exception.hasBase) hh (by rw [he]; rfl) hni ?_
  refine Name_function_global K.kind (by unfold Env.kindOf; rw [K.nms]; exact hk) (loadGlobal_global (by rw [K.glob]; exact T.g) (mg_of X T.g ex) ⟨rfl, ?_⟩) hd
  rw [he]
  have hsp : ∀ {Q' : List Value → Shared → Prop}, (∀ y tk G' h' tk', Rel Γ ρ π G' h' → GLe G G' → Q' [.str y tk] { s with heap := h', toks := tk' }) → wpAny (model Ω.prog Ω.w) A (spliced (backTo cpos [(false, eval e Γ.env)])) Q' E s := fun hQ' => by
    show wpAny _ _ (spliced ((false, eval e Γ.env) :: backTo cpos [])) _ _ _
    refine spliced_cons (a s G _ E R fun y tk G1 h1 tk1 _ R1 g1 => ?_)
    exact wpAny_pure (hQ' y tk G1 h1 tk1 R1 g1)
  refine evalArgs_plain (hsp fun y tk G1 h1 tk1 R1 g1 => ?_)
  have st : ∀ b o, Ω.b.get? b = some o → h1.get? b = some o := R1.stays K
  obtain ⟨tl2, N2, nm2, q2, bs2, hdct2, sn2, sub2, ab2, col2, dd2, k02, k12, k22, k32, k52, mN2, hC2, hN2, hni2, T2⟩ := (own_of_in Ω.kin Ω.top ex hx).obj
  rw [hCb] at hC2
  cases hC2
  have eN : mN2 = mN := by
    obtain ⟨o, es, ep, ho, hd, _, hn⟩ := hN
    obtain ⟨o', es', ep', ho', hd', _, hn'⟩ := hN2
    have := R.stays K _ _ ho'
    rw [ho] at this
    cases this
    rw [hd] at hd'
    cases hd'
    funext z
    exact (hn' z).symm.trans (hn z)
  subst eN
  refine ⟨rfl, by rw [sizeLine_eq]; exact (by decide : 1 ≤ 16777216), st _ _ hCb, hN2.keeps st, T2.keeps st, fun h' e' hm => ?_⟩
  refine hE e' C ρ π G1 h' tk1 hΨ ⟨h1, hideAll h1 (fad Γ.fs), R1, fun b o e nb => hideAll_get _ e nb, fun b o e _ => ⟨o.slots, hm.keeps b o e⟩, .made (fun b o q => of_hideAll _ q) (funFrames_hide R1.frs fun env he b hb => List.mem_filterMap.mpr ⟨env, he, hb⟩) hm⟩ g1

/-- what the handlers do with an exception of class c -/
noncomputable def Hnd (Ω : Wo) (Γ : Ctx) (A : Around) (c : Addr) (ρ : Loc) (π : Led) (hs : List ExceptHandler) (Φ : Fl → Loc → Led → Prop) (Ψ : Addr → Loc → Led → Prop) : Prop :=
  ∀ (s : Shared) (G : GM) (h₁ B : Heap) (e : Addr) (a0 : Value) (Q : Flow → Shared → Prop) (E : Value → Shared → Prop), Rel Γ ρ π G h₁ → (∀ a o, h₁.get? a = some o → a ∉ fad Γ.fs → B.get? a = some o) →
    (∀ a o, h₁.get? a = some o → a ∈ fad Γ.fs → ∃ sl, s.heap.get? a = some { o with slots := sl }) → Heap.FlyingW B Γ.fs e (.ref c) a0 s.heap →
    (∀ fl f ρ' π' G' h' tk', Φ f ρ' π' → Rel Γ ρ' π' G' h' → GLe G G' → FlRd G' fl f → Q fl { s with heap := h', toks := tk' }) →
    (∀ e c ρ' π' G' h' tk', Ψ c ρ' π' → Flies Γ ρ' π' G' e (.ref c) h' → GLe G G' → E (.ref e) { s with heap := h', toks := tk' }) → wpAny (model Ω.prog Ω.w) A (handleBy (.ref e) Γ.env hs) Q E s

theorem COk.mark (K : COk Ω Γ A) (x : Option Value) : COk Ω Γ (A.mark x) := ⟨K.frames, K.kind, K.glob, K.blt, K.nms, K.nd, K.base, K.wex⟩

section
variable {c : Addr} {Φ : Fl → Loc → Led → Prop} {Ψ : Addr → Loc → Led → Prop}
theorem Rel.flown {B : Heap} {e : Addr} {c a0 : Value} {h₁ : Heap} (R : Rel Γ ρ π G h₁) (hB : ∀ a o, h₁.get? a = some o → a ∉ fad Γ.fs → B.get? a = some o) (sl : ∀ a o, h₁.get? a = some o → a ∈ fad Γ.fs → ∃ sl, h.get? a = some { o with slots := sl }) (F : Heap.FlyingW B Γ.fs e c a0 h) : Rel Γ ρ π G h :=
  R.turn (fun a o e n => F.1 a o (hB a o e n)) sl

/-- the handler's name: its class -/
theorem handler_test {x : Str} {np pos : Pos} {e C' : Addr} {b : Bool} {s : Shared} {B : Heap} {a0 : Value} {R' : Result → Shared → Prop} (K : COk Ω Γ A) (hk : Γ.names.lookup x = some .globalImplicit) (ex : nsIn Ω.K mainGlobals x = some (some (.ref C')))
    (hm : exmOne Ω.K (.ref c) (.ref C') = some b) (R : Rel Γ ρ π G s.heap) (F : Heap.FlyingW B Γ.fs e (.ref c) a0 s.heap) (hd : (x == ("__debug__" : Str)) = false := by decide)
    (hR : R' (.ok (if b then .brk else .next)) s) : codeAny (model Ω.prog Ω.w) A (.handlers (.ref e) [.ExceptHandler (some (.Name x np)) none [] pos] Γ.env) R' s := by
  have T := R.top K
  have X := R.kin K
  obtain ⟨ob, hob, hobc⟩ := F.there
  refine codeAny_handlers_test (Name_function_global K.kind (by unfold Env.kindOf; rw [K.nms]; exact hk) (loadGlobal_global (by rw [K.glob]; exact T.g) (mg_of X T.g ex) ?_) hd)
  exact (exm_one X (hobc ▸ (Looks.ld hob).andThen .now) hm).here hR

theorem Hnd.skip {x : Str} {np pos : Pos} {C' : Addr} {suite : List Stmt} {rest : List ExceptHandler} (K : COk Ω Γ A) (hk : Γ.names.lookup x = some .globalImplicit) (ex : nsIn Ω.K mainGlobals x = some (some (.ref C'))) (hm : exmOne Ω.K (.ref c) (.ref C') = some false)
    (h : Hnd Ω Γ A c ρ π rest Φ Ψ) (hd : (x == ("__debug__" : Str)) = false := by decide) : Hnd Ω Γ A c ρ π (.ExceptHandler (some (.Name x np)) none suite pos :: rest) Φ Ψ := by
  intro s G h₁ B e a0 Q E R hB sl F hQ hE
  refine wpAny_handleBy_cons (handler_test (K.mark _) hk ex hm (R.flown hB sl F) F hd ?_) (by intro q; cases q)
  exact h s G h₁ B e a0 Q E R hB sl F hQ hE
theorem Hnd.take {x : Str} {np pos : Pos} {C' : Addr} {b₀ : Stmt} {suite : List Stmt} {rest : List ExceptHandler} (K : COk Ω Γ A) (hk : Γ.names.lookup x = some .globalImplicit) (ex : nsIn Ω.K mainGlobals x = some (some (.ref C'))) (hm : exmOne Ω.K (.ref c) (.ref C') = some true)
    (h : ∀ y, Ex Ω Γ (A.mark y) ρ π (execs (b₀ :: suite) Γ.env) Φ (fun _ _ _ => False)) (hd : (x == ("__debug__" : Str)) = false := by decide) : Hnd Ω Γ A c ρ π (.ExceptHandler (some (.Name x np)) none (b₀ :: suite) pos :: rest) Φ Ψ := by
  intro s G h₁ B e a0 Q E R hB sl F hQ hE
  have R1 := R.flown hB sl F
  refine wpAny_handleBy_cons (handler_test (K.mark _) hk ex hm R1 F hd ?_) (by intro q; cases q)
  refine codeAny_handlers_suite (lands_againW F fun h6 F6 hu => ?_)
  have R6 : Rel Γ ρ π G h6 := R.flown hB (slots_on R.frs sl hu) F6
  exact (h _ { s with heap := h6 } G _ _ R6 (fun fl f ρ' π' G' h' tk' hΦ R' g r => hQ fl f ρ' π' G' h' tk' hΦ R' g r) fun e c ρ' π' G' h' tk' hf _ _ => hf.elim)

theorem Ex.try {body : List Stmt} {h₀ : ExceptHandler} {hs : List ExceptHandler} {pos : Pos} {Ψb : Addr → Loc → Led → Prop} (O : Own Γ) (K : COk Ω Γ A) (hb : Ex Ω Γ A ρ π (execs body Γ.env) Φ Ψb)
    (hh : ∀ c ρ' π', Ψb c ρ' π' → Hnd Ω Γ A c ρ' π' (h₀ :: hs) Φ Ψ) : Ex Ω Γ A ρ π (exec (.Try body (h₀ :: hs) [] [] pos) Γ.env) Φ Ψ := by
  intro s G Q E R hQ hE
  obtain ⟨outer, L, hfs, hL⟩ := O.own
  refine wpAny_Try_except (hb s G _ _ R (fun fl f ρ' π' G' h' tk' hΦ R' g r => ?_) fun e c ρ' π' G' h' tk' hΨ F g => ?_)
  · cases r with
    | next => exact wpAny_execs_nil (hQ _ _ _ _ _ _ _ hΦ R' g .next)
    | brk => exact hQ _ _ _ _ _ _ _ hΦ R' g .brk
    | cont => exact hQ _ _ _ _ _ _ _ hΦ R' g .cont
    | ret r => exact hQ _ _ _ _ _ _ _ hΦ R' g (.ret r)
  · obtain ⟨h₁, B, R1, hB, hsl, X⟩ := F.out
    have hfr := K.frames
    have R1' := R1
    rw [hfs] at X hfr
    refine exc_note X hfr hL fun h2 a0 hh2 hu2 => exc_lands hh2 fun h3 hf3 hu3 => ?_
    have sl3 := slots_on R1.frs (slots_on R1.frs hsl hu2) hu3
    rw [← hfs] at hf3
    exact hh c ρ' π' hΨ _ G' h₁ B e a0 Q E R1 hB sl3 hf3 (fun fl f ρ2 π2 G2 h4 tk4 hΦ R4 g4 r4 => hQ fl f ρ2 π2 G2 h4 tk4 hΦ R4 (g.trans g4) r4) fun e c ρ2 π2 G2 h4 tk4 hΨ F4 g4 => hE e c ρ2 π2 G2 h4 tk4 hΨ F4 (g.trans g4)
end
end
end

section
open PySem PySem.Calls PySem.W PyProof.Rows PySem.Spec
section
variable {Ω : Wo} {Γ : Ctx} {A : Around} {ρ : Loc} {π : Led} {G G' : GM} {h h' : Heap} {Φ : Fl → Loc → Led → Prop} {Ψ : Addr → Loc → Led → Prop}

theorem Rd.tuple_at {u : Value} {ds : List D} (R : Rel Γ ρ π G h) (r : Rd G u (.tup ds)) : ∃ x vs, u = .ref x ∧ Heap.IsTuple h x vs.toArray ∧ RdL G vs ds := by
  cases r with
  | tup h1 h2 h3 h4 => exact ⟨_, _, rfl, ⟨_, R.sub _ _ h1, h2, _, h3⟩, h4⟩
theorem keeps_extBut {s : Shared} (k : Heap.ExtBut s.heap.objs.size s.heap h') : Keeps s.heap h' := fun a o e => k a o (fun q => by rw [q, get_size] at e; cases e) e

theorem Ex.unpack2 {x₁ x₂ : Str} {p₁ p₂ tp pos : Pos} {k : Nat} {value : Expr} {f₁ : D → Loc} {f₂ : D → D → Loc} {Φv : D → Led → Prop} (K : COk Ω Γ A) (hh : A.handled = none) (hv : Ev Ω Γ A ρ π (eval value Γ.env) Φv (fun c π' => Ψ c ρ π'))
    (hk : ∀ d π', Φv d π' → ∃ d₁ d₂, d = .tup [d₁, d₂] ∧ Sto Γ ρ x₁ f₁ ∧ Sto Γ (f₁ d₁) x₂ (f₂ d₁) ∧ Φ .next (f₂ d₁ d₂) π')
    (hs1 : swapsWithSole [.Tuple [.Name x₁ p₁, .Name x₂ p₂] k tp] value pos.line Γ.env = pure false := by rfl) (hs2 : swappedStores [.Tuple [.Name x₁ p₁, .Name x₂ p₂] k tp] value Γ.env = pure none := by rfl) :
    Ex Ω Γ A ρ π (exec (.Assign [.Tuple [.Name x₁ p₁, .Name x₂ p₂] k tp] value pos) Γ.env) Φ Ψ := fun s G Q E R hQ hE => by
  refine wpAny_Assign_stores (hv s G _ E R (fun v d π' G1 h1 tk1 hΦ R1 g1 r1 => ?_) fun e c π' G' h' tk' hΨ F g => hE e c ρ π' G' h' tk' hΨ F g) hs1 hs2
  obtain ⟨d₁, d₂, rfl, S1, S2, hΦ'⟩ := hk d π' hΦ
  obtain ⟨y, vs, rfl, ht, hr⟩ := r1.tuple_at R1
  show wpAny _ _ (PySem.assign (.Tuple [.Name x₁ p₁, .Name x₂ p₂] k tp) Γ.env (.ref y)) _ _ _
  have hl := hr.length
  refine wpAny_assign_Tuple hh ht (by rw [List.size_toArray, hl]; rfl) rfl fun h2 hk2 => ?_
  have R2 : Rel Γ ρ π' G1 h2 := R1.keep (keeps_extBut (s := { s with heap := h1, toks := tk1 }) hk2)
  cases hr with
  | @cons v₁ vs d₁ ds r1 r2 =>
    cases r2 with
    | @cons v₂ vs d₂ ds r2 r3 =>
      cases r3
      show wpAny _ _ (assignInOrder [PySem.assign (.Name x₁ p₁) Γ.env, PySem.assign (.Name x₂ p₂) Γ.env] [v₁, v₂]) _ _ _
      refine wpAny_assignInOrder_more (wpAny_assign_Name (S1.run K R2 r1 fun h3 tk3 R3 => ?_))
      refine wpAny_assignInOrder_more (wpAny_assign_Name (S2.run K R3 r2 fun h4 tk4 R4 => ?_))
      exact wpAny_pure (hQ .next .next _ π' G1 h4 _ hΦ' R4 g1 .next)
theorem Ex.unpack3 {x₁ x₂ x₃ : Str} {p₁ p₂ p₃ tp pos : Pos} {k : Nat} {value : Expr} {f₁ : D → Loc} {f₂ : D → D → Loc} {f₃ : D → D → D → Loc} {Φv : D → Led → Prop} (K : COk Ω Γ A) (hh : A.handled = none) (hv : Ev Ω Γ A ρ π (eval value Γ.env) Φv (fun c π' => Ψ c ρ π'))
    (hk : ∀ d π', Φv d π' → ∃ d₁ d₂ d₃, d = .tup [d₁, d₂, d₃] ∧ Sto Γ ρ x₁ f₁ ∧ Sto Γ (f₁ d₁) x₂ (f₂ d₁) ∧ Sto Γ (f₂ d₁ d₂) x₃ (f₃ d₁ d₂) ∧ Φ .next (f₃ d₁ d₂ d₃) π')
    (hs1 : swapsWithSole [.Tuple [.Name x₁ p₁, .Name x₂ p₂, .Name x₃ p₃] k tp] value pos.line Γ.env = pure false := by rfl) (hs2 : swappedStores [.Tuple [.Name x₁ p₁, .Name x₂ p₂, .Name x₃ p₃] k tp] value Γ.env = pure none := by rfl) :
    Ex Ω Γ A ρ π (exec (.Assign [.Tuple [.Name x₁ p₁, .Name x₂ p₂, .Name x₃ p₃] k tp] value pos) Γ.env) Φ Ψ := fun s G Q E R hQ hE => by
  refine wpAny_Assign_stores (hv s G _ E R (fun v d π' G1 h1 tk1 hΦ R1 g1 r1 => ?_) fun e c π' G' h' tk' hΨ F g => hE e c ρ π' G' h' tk' hΨ F g) hs1 hs2
  obtain ⟨d₁, d₂, d₃, rfl, S1, S2, S3, hΦ'⟩ := hk d π' hΦ
  obtain ⟨y, vs, rfl, ht, hr⟩ := r1.tuple_at R1
  show wpAny _ _ (PySem.assign (.Tuple [.Name x₁ p₁, .Name x₂ p₂, .Name x₃ p₃] k tp) Γ.env (.ref y)) _ _ _
  have hl := hr.length
  refine wpAny_assign_Tuple hh ht (by rw [List.size_toArray, hl]; rfl) rfl fun h2 hk2 => ?_
  have R2 : Rel Γ ρ π' G1 h2 := R1.keep (keeps_extBut (s := { s with heap := h1, toks := tk1 }) hk2)
  cases hr with
  | @cons v₁ vs d₁ ds r1 r2 =>
    cases r2 with
    | @cons v₂ vs d₂ ds r2 r3 =>
      cases r3 with
      | @cons v₃ vs d₃ ds r3 r4 =>
        cases r4
        show wpAny _ _ (assignInOrder [PySem.assign (.Name x₁ p₁) Γ.env, PySem.assign (.Name x₂ p₂) Γ.env, PySem.assign (.Name x₃ p₃) Γ.env] [v₁, v₂, v₃]) _ _ _
        refine wpAny_assignInOrder_more (wpAny_assign_Name (S1.run K R2 r1 fun h3 tk3 R3 => ?_))
        refine wpAny_assignInOrder_more (wpAny_assign_Name (S2.run K R3 r2 fun h4 tk4 R4 => ?_))
        refine wpAny_assignInOrder_more (wpAny_assign_Name (S3.run K R4 r3 fun h5 tk5 R5 => ?_))
        exact wpAny_pure (hQ .next .next _ π' G1 h5 _ hΦ' R5 g1 .next)
end
end

section
open PySem PySem.Calls PySem.W PyProof.Rows PySem.Spec
section
variable {prog : Program} {w : World} {A : Around} {E : Value → Shared → Prop} {s : Shared}
theorem adjust_upto (b n : Nat) (hb : b ≤ n) : Builtin.Slice.sliceAdjust none (some (b : Int)) 1 (n : Int) = ((0 : Int), (b : Int)) := by
  unfold Builtin.Slice.sliceAdjust
  have h1 : ¬ ((1 : Int) < 0) := by omega
  have h2 : ¬ ((b : Int) < 0) := by omega
  simp only [h1, h2, if_false]
  congr 1
  omega
theorem places_upto (b : Nat) : Builtin.Slice.slicePlaces (0 : Int) (b : Int) 1 = b := by
  unfold Builtin.Slice.slicePlaces
  have h1 : (1 : Int) > 0 := by omega
  simp only [h1, if_true, Int.ediv_one]
  split <;> omega
theorem sliceApplied_upto {sl : Addr} {b n : Nat} {u : Tok} {Q : Int × Int × Nat → Shared → Prop} (hs : s.heap.IsSliceOf sl .none (.int b u) .none) (hb : b ≤ n) (h : Q ((0 : Int), 1, b) s) :
    wpAny (model prog w) A (Builtin.Slice.sliceApplied (.ref sl) (pure (n : Int))) Q E s := by
  obtain ⟨os, hos, hcs, hds⟩ := id hs
  unfold Builtin.Slice.sliceApplied Builtin.Slice.sliceFields
  refine wpAny_bind (wpAny_bind (wpAny_field hos hds (x := .none) rfl (wpAny_bind (wpAny_field hos hds (x := .int b u) rfl (wpAny_bind (wpAny_field hos hds (x := .none) rfl (wpAny_pure ?_)))))))
  refine wpAny_bind (slicePart_none ?_)
  show wpAny _ _ (if ((1 : Int) == 0) = true then _ else _) _ _ s
  rw [if_neg (by decide)]
  refine wpAny_bind (slicePart_none (wpAny_bind (slicePart_int (wpAny_bind (wpAny_pure ?_)))))
  show wpAny _ _ (match Builtin.Slice.sliceAdjust none (some (b : Int)) 1 (n : Int) with | (lo, hi) => pure (lo, (1 : Int), Builtin.Slice.slicePlaces lo hi 1)) _ _ s
  rw [adjust_upto b n hb]
  show wpAny _ _ (pure ((0 : Int), (1 : Int), Builtin.Slice.slicePlaces (0 : Int) (b : Int) 1)) _ _ s
  rw [places_upto b]
  exact wpAny_pure h
theorem pick_upto (xs : Array Value) (b : Nat) : ((List.range b).filterMap fun (k : Nat) => xs[((0 : Int) + (k : Int) * 1).toNat]?).toArray = (xs.toList.take b).toArray := by
  have e : (fun (k : Nat) => xs[((0 : Int) + (k : Int) * 1).toNat]?) = fun k => xs[0 + k]? := by
    funext k
    have : ((0 : Int) + (k : Int) * 1).toNat = 0 + k := by omega
    rw [this]
  rw [e]
  have := pick_run xs 0 b
  rw [List.filterMap_map] at this
  have e2 : ((fun x => xs[x]?) ∘ fun x => 0 + x) = fun k => xs[0 + k]? := rfl
  rw [e2] at this
  rw [this, List.drop_zero]
theorem getItem_tuple_upto {t sl : Addr} {items : Array Value} {b : Nat} {u : Tok} {Q : Value → Shared → Prop} (ht : IsTup s.heap t items) (hs : s.heap.IsSliceOf sl .none (.int b u) .none) (hb : b < items.size)
    (h : Q (.ref s.heap.objs.size) { s with heap := s.heap.push { cls := .type "tuple", data := .seq (items.toList.take b).toArray } })
    (hsz : items.size ≤ sizeLine) : wpAny (model prog w) A (getItem (.ref t) (.ref sl)) Q E s := by
  have hdrop : sizeOk (.seq (items.toList.take b).toArray) := by
    show (items.toList.take b).toArray.size ≤ sizeLine
    rw [List.size_toArray, List.length_take, Array.length_toList]
    omega
  obtain ⟨os, hos, hcs, hds⟩ := id hs
  have hTs : s.TypeIs (.ref sl) "slice" := ⟨os, hos, hcs⟩
  unfold getItem
  try with_reducible refine wpAny_holding ?_
  first | refine wpAny_bind (wpAny_pure ?_) | skip
  refine wpAny_bind (wpAny_sequenceKey ht.typeIs (by decide) ?_)
  refine wpAny_bind (wpAny_callSpecial?_slot (name := Str.ofString "__getitem__") ht.typeIs slot_tuple_getitem
    (wpAny_call_entry slot_tuple_getitem ht.typeIs entry_tuple_getitem ?_ (args_tuple_getitem _ _)))
  show wpAny _ _ (Builtin.Tuple.tupleItemsOf (.ref t) >>= _) _ _ s
  refine wpAny_bind (tupleItemsOf_ ht ?_)
  refine wpAny_bind (wpAny_typeOf hTs ?_)
  rw [if_pos (by decide)]
  refine wpAny_bind (sliceApplied_upto hs (Nat.le_of_lt hb) ?_)
  have hno : ¬ (((0 : Int) == 0 && (1 : Int) == 1 && b == items.size) = true) := by
    have : (b == items.size) = false := by rw [beq_eq_false_iff_ne]; omega
    rw [this]; simp
  show wpAny _ _ (if ((0 : Int) == 0 && (1 : Int) == 1 && b == items.size) = true then _ else _) _ _ s
  rw [if_neg hno, pick_upto items b]
  first
    | exact wpAny_bind (m := Builtin.Tuple.tupleExact _) (wpAny_newObj_type (wpAny_pure ⟨_, rfl, wpAny_pure h⟩) hdrop)
    | exact wpAny_bind (m := Builtin.Tuple.tupleExact _) (wpAny_newObj_type (wpAny_bind (wpAny_pure (wpAny_pure ⟨_, rfl, wpAny_pure h⟩))) hdrop)
    | exact wpAny_bind (wpAny_bind (m := Builtin.Tuple.tupleExact _) (wpAny_newObj_type (wpAny_pure (wpAny_pure ⟨_, rfl, wpAny_pure h⟩)) hdrop))
    | exact wpAny_bind (wpAny_bind (m := Builtin.Tuple.tupleExact _) (wpAny_newObj_type (wpAny_pure ⟨_, rfl, wpAny_pure h⟩) hdrop))
end

section
variable {Ω : Wo} {Γ : Ctx} {A : Around} {ρ : Loc} {π : Led} {G G' : GM} {h h' : Heap}
theorem EvP.sliceT {v : Expr} {p pos cp : Pos} {ck : Nat} {ds : List D} {b : Nat} (hv : EvP Ω Γ A ρ π (eval v Γ.env) (.tup ds)) (hb : b < ds.length) (hz : ds.length ≤ 1000)
    (ht : ∀ o r, letTemporaryGo v o r = pure () := by intro _ _; rfl) : EvP Ω Γ A ρ π (eval (.Subscript v (.Slice none (some (.Constant (.int b) ck cp)) none p) pos) Γ.env) (.tup (ds.take b)) := by
  intro s G Q E R hQ
  refine wpAny_Subscript_Slice (T := "tuple") slot_tuple_getitem.lookup (hv s G _ E R fun u G1 h1 tk1 R1 g1 r1 => ?_) ht
  obtain ⟨x, vs, rfl, hl, hr⟩ := r1.tup_at R1
  refine wpAny_Slice ?_
  refine wpAny_evalPart_none (wpAny_evalPart_some (wpAny_Constant_int (wpAny_evalPart_none ?_)))
  have R2 : Rel Γ ρ π G1 (h1.push { cls := .type "slice", data := .fields #[.none, .int b tk1, .none] }) := R1.waste _
  obtain ⟨x2, vs2, e2, hl2, hr2⟩ := r1.tup_at R2
  cases e2
  obtain ⟨R3, g3⟩ := R2.alloc { cls := .type "tuple", data := .seq (vs2.take b).toArray } rfl
  refine ⟨hl2.typeIs, getItem_tuple_upto hl2 (Heap.IsSliceOf.new ..) (by rw [List.size_toArray, hr2.length]; exact hb) ?_ (by rw [List.size_toArray, hr2.length, sizeLine_eq]; omega)⟩
  exact hQ _ _ _ _ R3 (g1.trans g3) (.tup (ext1_at ..) rfl rfl ((hr2.take b).mono g3))
end
end

section
open PySem PySem.Calls PySem.W PyProof.Rows PySem.Spec
/-- a comprehension's names, as the frame around it makes them -/
noncomputable def relab (out ns : List (Str × NameKind)) : List (Str × NameKind) := ns.map fun x => if x.2 == .free && out.lookup x.1 == some .cell then (x.1, .cell) else x
/-- the cells that a comprehension takes along -/
noncomputable def capt (cells : List (Str × Addr)) : List (Str × NameKind) → List (Str × Addr) → List (Str × Addr)
  | [], acc => acc
  | (y, k) :: r, acc => capt cells r (if k == .free then (match cells.lookup y with | some a => (y, a) :: acc | none => acc) else acc)

/-- the values that a comprehension takes along -/
inductive Cap (Γ : Ctx) (ρ : Loc) : List (Str × NameKind) → Loc → Prop
  | nil : Cap Γ ρ [] []
  | skip {y : Str} {k : NameKind} {cn : List (Str × NameKind)} {ρc : Loc} : k ≠ .cell → k ≠ .free → Cap Γ ρ cn ρc → Cap Γ ρ ((y, k) :: cn) (none :: ρc)
  | take {y : Str} {k kk : NameKind} {d : D} {cn : List (Str × NameKind)} {ρc : Loc} : (kk = .cell ∨ kk = .free) → At Γ.names ρ y kk d → Cap Γ ρ cn ρc → Cap Γ ρ ((y, k) :: cn) (some d :: ρc)

theorem capt_acc {cells : List (Str × Addr)} : ∀ {ns : List (Str × NameKind)} {acc : List (Str × Addr)} {p : Str × Addr}, p ∈ capt cells ns acc → p ∈ acc ∨ cells.lookup p.1 = some p.2
  | [], _, _, h => .inl h
  | (y, k) :: r, acc, p, h => by
    unfold capt at h
    rcases capt_acc h with h | h
    · split at h
      · split at h
        · rename_i a ha
          rcases List.mem_cons.mp h with rfl | h
          · exact .inr ha
          · exact .inl h
        · exact .inl h
      · exact .inl h
    · exact .inr h
theorem capt_keep {cells : List (Str × Addr)} : ∀ {ns : List (Str × NameKind)} {acc : List (Str × Addr)} {p : Str × Addr}, p ∈ acc → p ∈ capt cells ns acc
  | [], _, _, h => h
  | (y, k) :: r, acc, p, h => by
    unfold capt
    refine capt_keep ?_
    split
    · split
      · exact .tail _ h
      · exact h
    · exact h
theorem capt_has {cells : List (Str × Addr)} {y : Str} {a : Addr} (ha : cells.lookup y = some a) : ∀ {ns : List (Str × NameKind)} {acc : List (Str × Addr)}, (y, NameKind.free) ∈ ns → (y, a) ∈ capt cells ns acc
  | (z, k) :: r, acc, h => by
    unfold capt
    rcases List.mem_cons.mp h with e | h
    · cases e
      refine capt_keep ?_
      rw [if_pos (by rfl), ha]
      exact .head _
    · exact capt_has ha h
theorem lookup_all {l : List (Str × Addr)} {cells : List (Str × Addr)} {y : Str} {a : Addr} (h : ∀ p ∈ l, cells.lookup p.1 = some p.2) (m : (y, a) ∈ l) : l.lookup y = some a := by
  induction l with
  | nil => cases m
  | cons p l ih =>
    obtain ⟨z, b⟩ := p
    rw [List.lookup_cons]
    by_cases q : y = z
    · subst q
      rw [beq_self_eq_true]
      have h1 := h _ (.head _)
      have h2 := h _ m
      dsimp only at h1 h2
      rw [h1] at h2
      exact h2
    · have : (y == z) = false := by simpa using q
      rw [this]
      rcases List.mem_cons.mp m with e | m
      · cases e; exact absurd rfl q
      · exact ih (fun p hp => h p (.tail _ hp)) m

theorem Cap.src {Γ : Ctx} {ρ ρc : Loc} {cn : List (Str × NameKind)} (c : Cap Γ ρ cn ρc) {i : Nat} {y : Str} {k : NameKind} {d : D} (h1 : cn[i]? = some (y, k)) (h2 : ρc[i]? = some (some d)) : ∃ kk, (kk = .cell ∨ kk = .free) ∧ At Γ.names ρ y kk d := by
  induction c generalizing i with
  | nil => cases h1
  | skip _ _ _ ih =>
    cases i with
    | zero => cases h2
    | succ i => exact ih h1 h2
  | take hk ha _ ih =>
    cases i with
    | zero => cases h1; cases h2; exact ⟨_, hk, ha⟩
    | succ i => exact ih h1 h2
theorem Cap.has {Γ : Ctx} {ρ ρc : Loc} {cn : List (Str × NameKind)} (c : Cap Γ ρ cn ρc) {i : Nat} {y : Str} {k : NameKind} (h1 : cn[i]? = some (y, k)) (hk : k = .cell ∨ k = .free) : ∃ d, ρc[i]? = some (some d) := by
  induction c generalizing i with
  | nil => cases h1
  | skip n1 n2 _ ih =>
    cases i with
    | zero =>
      cases h1
      rcases hk with rfl | rfl
      · exact absurd rfl n1
      · exact absurd rfl n2
    | succ i => exact ih h1
  | take _ _ _ ih =>
    cases i with
    | zero => exact ⟨_, rfl⟩
    | succ i => exact ih h1
section
variable {Ω : Wo} {Γ : Ctx} {A : Around} {ρ ρc : Loc} {π : Led} {G G' : GM} {h h₁ h' : Heap}

theorem relab_eq (K : COk Ω Γ A) (scope : Scope) : (relabel scope Γ.env).names = relab Γ.names scope.names := by
  unfold relabel relab
  dsimp only
  congr 1
  funext x
  obtain ⟨n, k⟩ := x
  have e : Γ.env.kindOf n = Γ.names.lookup n := by unfold Env.kindOf; rw [K.nms]
  dsimp only
  rw [K.kind, e]
  simp

theorem capt_eq (env : Env) : ∀ (ns : List (Str × NameKind)) (acc : List (Str × Addr)), (∀ y, (y, NameKind.free) ∈ ns → (env.cells.lookup y).isSome = true) →
    (forIn (m := Sem) ns acc fun x cs => match x with | (name, kind) => if (kind == NameKind.free) = true then (do let a ← cellOf env name; pure (ForInStep.yield ((name, a) :: cs))) else pure (ForInStep.yield cs)) = pure (capt env.cells ns acc)
  | [], acc, _ => rfl
  | (y, k) :: r, acc, h => by
    rw [List.forIn_cons]
    have ih := fun acc => capt_eq env r acc fun y hy => h y (.tail _ hy)
    by_cases q : (k == NameKind.free) = true
    · have hk : k = .free := by simpa using q
      subst hk
      obtain ⟨a, ha⟩ := Option.isSome_iff_exists.mp (h y (.head _))
      have e1 : cellOf env y = pure a := by unfold cellOf; rw [ha]
      simp only [e1]
      have e2 : capt env.cells ((y, NameKind.free) :: r) acc = capt env.cells r ((y, a) :: acc) := by
        show capt env.cells r (if (NameKind.free == NameKind.free) = true then _ else _) = _
        rw [if_pos q, ha]
      rw [e2, ← ih]
      rfl
    · have e2 : capt env.cells ((y, k) :: r) acc = capt env.cells r acc := by
        show capt env.cells r (if (k == NameKind.free) = true then _ else _) = _
        rw [if_neg q]
      rw [e2, ← ih]
      simp only [if_neg q]
      rfl
theorem closure_eq {scope : Scope} {env : Env} (h : ∀ y, (y, NameKind.free) ∈ scope.names → (env.cells.lookup y).isSome = true) : closureFor scope env = pure (capt env.cells scope.names []) := by
  have := congrArg (fun m : Sem (List (Str × Addr)) => m >>= fun s => pure s) (capt_eq env scope.names [] h)
  unfold closureFor
  exact this

/-- the context of a comprehension -/
noncomputable def compCtx (Γ : Ctx) (scope : Scope) (cn : List (Str × NameKind)) (C : Addr) (G : GM) (h : Heap) (W : List Addr) : Ctx := ⟨cn, compEnvC scope (capt Γ.env.cells scope.names []) C Γ.env, Γ.fs, fad Γ.fs, G, h, W⟩

theorem compCtx_ok {scope : Scope} {cn : List (Str × NameKind)} {C : Addr} (K : COk Ω Γ A) (R : Rel Γ ρ π G h) (hcn : relab Γ.names scope.names = cn) (nd : (cn.map (·.1)).Nodup) (hkind : scope.kind = .function) : COk Ω (compCtx Γ scope cn C G h (adrs π)) A :=
  ⟨K.frames, hkind, K.glob, K.blt, (relab_eq K scope).trans hcn, nd, ⟨fun b o e => R.stays K b o e, R.inG K⟩, R.exM⟩

theorem relab_free {out ns : List (Str × NameKind)} {y : Str} (h : (y, NameKind.free) ∈ ns) : ∃ k, (k = NameKind.cell ∨ k = .free) ∧ (y, k) ∈ relab out ns := by
  refine ⟨if out.lookup y == some .cell then .cell else .free, ?_, List.mem_map.mpr ⟨(y, .free), h, ?_⟩⟩
  · split
    · exact .inl rfl
    · exact .inr rfl
  · dsimp only
    by_cases q : (out.lookup y == some NameKind.cell) = true
    · rw [if_pos q, q]; rfl
    · rw [if_neg q]
      have : (out.lookup y == some NameKind.cell) = false := by simpa using q
      rw [this]; rfl
theorem relab_mem {out ns : List (Str × NameKind)} (hcell : ∀ y ∈ ns, y.2 ≠ .cell) {y : Str} {k : NameKind} (hk : k = .cell ∨ k = .free) (h : (y, k) ∈ relab out ns) : (y, NameKind.free) ∈ ns := by
  obtain ⟨x, hx, e⟩ := List.mem_map.mp h
  obtain ⟨z, j⟩ := x
  dsimp only at e
  split at e
  · rename_i q
    cases e
    have : j = .free := by
      have := (Bool.and_eq_true _ _ ▸ q).1
      simpa using this
    subst this; exact hx
  · cases e
    rcases hk with rfl | rfl
    · exact absurd rfl (hcell _ hx)
    · exact hx

theorem comp_cells {scope : Scope} {cn : List (Str × NameKind)} (R : Rel Γ ρ π G h) (hcn : relab Γ.names scope.names = cn) (c : Cap Γ ρ cn ρc) : ∀ y, (y, NameKind.free) ∈ scope.names → (Γ.env.cells.lookup y).isSome = true := fun y hy => by
  obtain ⟨k, hk, hm⟩ := relab_free (out := Γ.names) hy
  rw [hcn] at hm
  obtain ⟨i, hi⟩ := List.getElem?_of_mem hm
  obtain ⟨d, hd⟩ := c.has hi hk
  obtain ⟨kk, hkk, ha⟩ := c.src hi hd
  obtain ⟨j, h1, h2⟩ := ha.idx
  obtain ⟨c, o, v, h3, _⟩ := R.cv j y kk d h1 hkk h2
  rw [h3]; rfl

/-- the comprehension's frame at its start -/
theorem Rel.comp {scope : Scope} {cn : List (Str × NameKind)} {C : Addr} {π₀ : Led} (R₀ : Rel Γ ρ π₀ G h) (R : Rel Γ ρ π G h₁) (k : Keeps h h₁) (hπ : ∀ a ∈ adrs π, h.get? a = none ∨ a ∈ adrs π₀) (hC : h.get? C = none) (hCπ : C ∉ adrs π) (hn : h₁.Ns C fun _ => none)
    (hcn : relab Γ.names scope.names = cn) (hcell : ∀ y ∈ scope.names, y.2 ≠ .cell) (nd : (cn.map (·.1)).Nodup) (c : Cap Γ ρ cn ρc) (hloc : ∀ (i : Nat) y, cn[i]? = some (y, .local) → ρc[i]? = some none) : Rel (compCtx Γ scope cn C G h (adrs π₀)) ρc π G h₁ := by
  have ne : ∀ {a b : Addr}, h.get? a = none → (∃ o, h.get? b = some o) → a ≠ b := fun e ⟨o, ho⟩ q => by
    rw [q, ho] at e; cases e
  have cin : ∀ p ∈ capt Γ.env.cells scope.names [], Γ.env.cells.lookup p.1 = some p.2 := fun p hp => by
    rcases capt_acc hp with h | h
    · cases h
    · exact h
  obtain ⟨aft, frs, frSub, offF, ns, offL, cl, cv⟩ := R
  refine ⟨⟨fun a o e => aft.sub a o e, GLe.refl G, fun a o e => .inl e, ⟨fun a o e _ _ => k a o e, fun a o e _ _ => ⟨o.slots, k a o e⟩, fun a e => k.live e⟩, aft.led, aft.nodup, fun a ha => ⟨(aft.off a ha).1, fun q => (offF a q).2 ha⟩, hπ⟩,
    frs, ⟨fun a ha => ha, fun a ha => .inr ha⟩, offF, ⟨_, hn, fun i y d e1 e2 => ?_⟩, ⟨R₀.aft.sub.none hC, hCπ, hC⟩, fun b hb => ?_, fun i y kd d e1 e2 e3 => ?_⟩
  · rw [hloc i y e1] at e2; cases e2
  · obtain ⟨p, hp, rfl⟩ := List.mem_map.mp hb
    have hm : p.2 ∈ Γ.env.cells.map (·.2) := List.mem_map.mpr ⟨_, lookup_mem (cin p hp), rfl⟩
    obtain ⟨h1, h2, h3, h4, _⟩ := cl p.2 hm
    obtain ⟨⟨o, v, ho, _⟩, _⟩ := R₀.cl p.2 hm
    exact ⟨h1, h2, h3, h4, fun q => ne hC ⟨o, ho⟩ q.symm⟩
  · obtain ⟨kk, hkk, ha⟩ := c.src e1 e3
    obtain ⟨j, h1, h2⟩ := ha.idx
    obtain ⟨b, o, v, h3, h4, h5, r⟩ := cv j y kk d h1 hkk h2
    refine ⟨b, o, v, ?_, h4, h5, r⟩
    have hm := List.mem_of_getElem? e1
    have hm : (y, kd) ∈ relab Γ.names scope.names := by rw [hcn]; exact hm
    exact lookup_all cin (capt_has h3 (relab_mem hcell e2 hm))

/-- and at its end -/
theorem Rel.uncomp {scope : Scope} {cn : List (Str × NameKind)} {C : Addr} {π₀ π' : Led} {ρ' : Loc} {o : Obj} (R₀ : Rel Γ ρ π₀ G h) (R : Rel (compCtx Γ scope cn C G h (adrs π₀)) ρ' π' G' h') (ho : h'.get? C = some o) : Rel Γ ρ ((C, .obj o) :: π') G' h' := by
  have hL : G' C = none ∧ C ∉ adrs π' ∧ h.get? C = none := R.offL
  have a := R.aft
  have := (show Rel Γ ρ (π₀ ++ []) G h by rw [List.append_nil]; exact R₀).call (π₁' := (C, .obj o) :: π') ⟨a.sub, a.ext, a.new, a.stp, fun p hp => ?_, ?_, fun b hb => ?_, fun b hb => ?_⟩
  · rwa [List.append_nil] at this
  · rcases List.mem_cons.mp hp with rfl | hp
    · exact ho
    · exact a.led p hp
  · rw [adrs_cons]
    exact List.nodup_cons.mpr ⟨hL.2.1, a.nodup⟩
  · rw [adrs_cons] at hb
    rcases List.mem_cons.mp hb with rfl | hb
    · refine ⟨hL.1, fun q => ?_⟩
      obtain ⟨x, hx⟩ := R₀.exF _ q
      rw [hL.2.2] at hx; cases hx
    · exact a.off b hb
  · rw [adrs_cons] at hb
    rcases List.mem_cons.mp hb with rfl | hb
    · exact .inl hL.2.2
    · exact a.own b hb
end
end

section
open PySem PySem.Calls PySem.W PyProof.Rows PySem.Spec
/-- the tests of a comprehension -/
noncomputable def TsL (Ω : Wo) (Γ : Ctx) (A : Around) (ρ : Loc) (π : Led) (ifs : List Expr) (c : Bool) : Prop :=
  ∀ (s : Shared) (G : GM) (Q : Bool → Shared → Prop) (E : Value → Shared → Prop), Rel Γ ρ π G s.heap → (∀ G' h' tk', Rel Γ ρ π G' h' → GLe G G' → Q c { s with heap := h', toks := tk' }) →
    wpAny (model Ω.prog Ω.w) A (forIn ifs true fun c r => if r = true then do let ok ← PySem.isTrue c Γ.env (eval c Γ.env); pure (ForInStep.yield ok) else pure (ForInStep.yield r)) Q E s

section
variable {Ω : Wo} {Γ : Ctx} {A : Around} {ρ ρc : Loc} {π : Led} {G G' : GM} {h h₁ h' : Heap}
theorem TsL.nil : TsL Ω Γ A ρ π [] true := fun s G Q E R hQ => wpAny_tests_nil (hQ G s.heap s.toks R (GLe.refl G))
theorem TsL.one {e : Expr} {c : Bool} (h : TsP Ω Γ A ρ π (PySem.isTrue e Γ.env (eval e Γ.env)) c) : TsL Ω Γ A ρ π [e] c := fun s G Q E R hQ => wpAny_tests_one (h s G Q E R hQ)

theorem comp_core {elt iter : Expr} {x : Str} {px : Pos} {ifs : List Expr} {scope : Scope} {pos pos' : Pos} {use : Option (Value → Sem Unit)} {cn : List (Str × NameKind)} {f : D → Loc} {ok : Value → GM → Led → Prop} {ds : List D} (I : Nat → List D → Led → Prop)
    (K : COk Ω Γ A) (src : SrcP Ω Γ A ρ π (eval iter Γ.env) ok ds) (hz : ds.length ≤ 1000) (hcn : relab Γ.names scope.names = cn) (nd : (cn.map (·.1)).Nodup) (hcell : ∀ y ∈ scope.names, y.2 ≠ .cell) (hkind : scope.kind = .function)
    (hnames : ∀ y ∈ scope.names, y.2 = .local → scope.names.lookup y.1 = some .local) (c : Cap Γ ρ cn ρc) (hloc : ∀ (i : Nat) y, cn[i]? = some (y, .local) → ρc[i]? = some none) (put : Put cn ρc x .local f)
    (hok : ∀ v G G' i acc π' it o D, ok v G π → GLe G G' → I i acc π' → ok v G' ((it, .obj o) :: (D, .list acc) :: π'))
    (turn : ∀ Γc, COk Ω Γc A → Γc.names = cn → Γc.fs = Γ.fs → ∀ i d acc π' it o D, ds[i]? = some d → I i acc π' → ∃ t, TsL Ω Γc A (f d) ((it, .obj o) :: (D, .list acc) :: π') ifs t ∧
      (t = true → Ev Ω Γc A (f d) ((it, .obj o) :: (D, .list acc) :: π') (eval elt Γc.env) (fun e π'' => ∃ π₃, π''.Perm ((it, .obj o) :: (D, .list acc) :: π₃) ∧ I (i + 1) (acc ++ [e]) π₃) (fun _ _ => False)) ∧ (t = false → I (i + 1) acc π'))
    (h0 : I 0 [] π) (hs : ∀ x, foldedSetIterable iter Γ.env x = pure x) {s : Shared} {Q E : Value → Shared → Prop} (R : Rel Γ ρ π G s.heap)
    (hQ : ∀ C oc D acc π' G' h' tk' m, I ds.length acc π' → Rel Γ ρ ((C, .obj oc) :: (D, .list acc) :: π') G' h' → GLe G G' → h'.Ns C m → h'.get? C = some oc → Γ.h₀.get? C = none → Γ.h₀.get? D = none →
      compPost (model Ω.prog Ω.w) A E use Q (.ref D) C (.ok .next) { s with heap := h', toks := tk' }) :
    wpAny (model Ω.prog Ω.w) A (comprehension (.ListComp elt [⟨.Name x px, iter, ifs, 0⟩] scope pos) scope Γ.env pos' (newList []) false (eval iter Γ.env) use) Q E s := by
  refine wpAny_comprehension_free (use := use) rfl hs (closure_eq (comp_cells R hcn c)) hkind hnames (src s G _ E R fun v G1 h1 tk1 R1 g1 ok1 its => its ρ π _ G1 _ _ ok1 R1 fun it o P h2 tk2 N k2 z2 hP R2 => ?_)
  refine wpAny_newList ?_ (Nat.zero_le _)
  refine wpAny_newFunctionEnv hcell (by intro y hy; cases hy) (fun h4 hn4 sb4 => ?_) hkind
  dsimp only at hn4 sb4 ⊢
  generalize hH3 : h2.push { cls := Value.type "list", data := Data.seq ([] : List Value).toArray } = h3 at hn4 sb4 ⊢
  have hs3 : h3.objs.size = h2.objs.size + 1 := by rw [← hH3, Heap.size_push]
  have hDC : h2.objs.size ≠ h3.objs.size := by rw [hs3]; exact Nat.ne_of_lt (Nat.lt_succ_self _)
  have k23 : Keeps h2 h3 := hH3 ▸ keeps_push _ _
  have k34 : Keeps h3 h4 := fun a x e => (sb4.2 a (Nat.ne_of_lt (Heap.lt_size e))).trans (Heap.get?_push_of_some _ e)
  have k14 : Keeps h1 h4 := k2.trans (k23.trans k34)
  have zD : h2.get? h2.objs.size = none := get_size h2
  have zC : h2.get? h3.objs.size = none := by
    cases q : h2.get? h3.objs.size with
    | none => rfl
    | some x => exact absurd (Heap.lt_size q) (by rw [hs3]; exact Nat.not_lt.mpr (Nat.le_succ _))
  have zD1 : h1.get? h2.objs.size = none := Keeps.live k2 zD
  have zC1 : h1.get? h3.objs.size = none := Keeps.live k2 zC
  have eD : h4.get? h2.objs.size = some { cls := .type "list", data := .seq ([] : List Value).toArray } := k34 _ _ (hH3 ▸ Heap.get?_push_size _ rfl)
  have R3 : Rel Γ ρ ((h2.objs.size, .list []) :: (it, .obj o) :: π) G1 h4 := R2.addMut (k23.trans k34) (fun b hb => by rw [List.mem_singleton.mp hb]; exact zD) (List.nodup_cons.mpr ⟨fun q => (nomatch q), List.nodup_nil⟩) (show MIn G1 h4 h2.objs.size (.list []) from ⟨[], 0, eD, .nil⟩)
  have hCπ : h3.objs.size ∉ adrs ((h2.objs.size, MO.list []) :: (it, MO.obj o) :: π) := fun q => by
    rw [adrs_cons] at q
    rcases List.mem_cons.mp q with q | q
    · exact hDC q.symm
    · obtain ⟨x, hx⟩ := R2.exM _ q
      rw [zC] at hx; cases hx
  have Rc := Rel.comp (C := h3.objs.size) R1 R3 k14 (fun a ha => by
    rw [adrs_cons] at ha
    rcases List.mem_cons.mp ha with rfl | ha
    · exact .inl zD1
    · have ha : a ∈ adrs ((it, MO.obj o) :: π) := ha
      rw [adrs_cons] at ha
      rcases List.mem_cons.mp ha with rfl | ha
      · exact .inl z2
      · exact .inr ha) zC1 hCπ hn4 hcn hcell nd c hloc
  have Kc := compCtx_ok (C := h3.objs.size) K R1 hcn nd hkind
  generalize hΓc : compCtx Γ scope cn h3.objs.size G1 h1 (adrs π) = Γc at Rc Kc
  have hcnm : Γc.names = cn := by rw [← hΓc]; rfl
  have hcfs : Γc.fs = Γ.fs := by rw [← hΓc]; rfl
  have hcenv : Γc.env = compEnvC scope (capt Γ.env.cells scope.names []) h3.objs.size Γ.env := by rw [← hΓc]; rfl
  have hch : Γc.h₀ = h1 := by rw [← hΓc]; rfl
  have less : ∀ d, LocLe ρc (f d) := fun d => by
    obtain ⟨i, hi, hl, hf⟩ := put.idx
    intro j e he
    rw [hf d]
    by_cases q : i = j
    · subst q
      rw [hloc i x hi] at he; cases he
    · rw [List.getElem?_set_ne q]; exact he
  have loop : ∀ (s₄ : Shared), s₄ = { s with heap := h4, toks := tk2 + ([] : List (Str × Value)).length } → codeAny (model Ω.prog Ω.w) A (.compLoop (.ListComp elt [⟨.Name x px, iter, ifs, 0⟩] scope pos) 0 (.ref it) (.ref h2.objs.size) Γc.env)
      (compPost (model Ω.prog Ω.w) A E use Q (.ref h2.objs.size) h3.objs.size) s₄ := by
    rintro s₄ rfl
    refine codeAny_compLoop_tests (fun n s' => ∃ i acc π' G' h' tk' o', n = ds.length - i ∧ i ≤ ds.length ∧ acc.length ≤ i ∧ s' = { s with heap := h', toks := tk' } ∧ Rel Γc ρc ((it, .obj o') :: (h2.objs.size, .list acc) :: π') G' h' ∧ GLe G1 G' ∧ P i o' ∧ I i acc π') ?_
      (ds.length - 0) ⟨0, [], π, G1, h4, _, o, rfl, Nat.zero_le _, Nat.le_refl _, rfl, Rc.perm (.swap _ _ _), GLe.refl G1, hP, h0⟩
    rintro n s' ⟨i, acc, π', G', h', tk', o', rfl, hi, hacc, rfl, R', g, hP', hI⟩
    have ok' := hok v G1 G' i acc π' it o' h2.objs.size ok1 g hI
    by_cases q : i < ds.length
    · have hd := List.getElem?_eq_getElem q
      refine N.item Γc i (ds[i]'q) ρc ((h2.objs.size, .list acc) :: π') o' _ G' _ _ hd hP' ok' R' fun u o2 G3 h3' tk3 g3 r3 hP3 R3 => ?_
      have lt : ds.length - (i + 1) < ds.length - i := by omega
      refine wpAny_assign_Name (store_local Kc R3 (hcnm ▸ put) r3 fun h5 tk5 R5 => ?_)
      obtain ⟨t, ht, h1t, h2t⟩ := turn Γc Kc hcnm hcfs i (ds[i]'q) acc π' it o2 h2.objs.size hd hI
      refine ht _ G3 _ _ R5 fun G6 h6 tk6 R6 g6 => ?_
      cases t with
      | false =>
        rw [if_neg Bool.false_ne_true]
        exact ⟨_, lt, i + 1, acc, π', G6, h6, tk6, o2, rfl, q, Nat.le_succ_of_le hacc, rfl, R6.less (less _), g.trans (g3.trans g6), hP3, h2t rfl⟩
      | true =>
        rw [if_pos rfl]
        refine h1t rfl _ G6 _ _ R6 (fun w e π'' G7 h7 tk7 hΦ R7 g7 r7 => ?_) fun e c π'' G7 h7 tk7 hf _ _ => hf.elim
        obtain ⟨π₃, hp, hI'⟩ := hΦ
        have R7' := R7.perm hp
        obtain ⟨vs, nn, e1, hr⟩ := R7'.aft.led (h2.objs.size, .list acc) (.tail _ (.head _))
        refine wpAny_list_append_plain ⟨nn, e1⟩ (fun h8 hpl sb => ?_) (by rw [List.size_toArray, hr.length, sizeLine_eq]; omega)
        obtain ⟨n', e3⟩ := hpl
        rw [List.push_toArray] at e3
        refine ⟨_, lt, i + 1, acc ++ [e], π₃, G7, h8, tk7, o2, rfl, q, by rw [List.length_append]; exact Nat.succ_le_succ hacc, rfl, ?_, g.trans (g3.trans (g6.trans g7)), hP3, hI'⟩
        exact (Rel.setList (πa := [(it, .obj o2)]) R7' sb e3 (hr.append (.cons r7 .nil))).less (less _)
    · have e : i = ds.length := by omega
      subst e
      refine N.stop Γc ρc ((h2.objs.size, .list acc) :: π') o' _ G' _ _ (by rw [hch]; exact z2) hP' ok' R' fun h5 tk5 R5 => ?_
      obtain ⟨m, hm, _⟩ := R5.ns
      have hm' : h5.Ns h3.objs.size m := by rw [hcenv] at hm; exact hm
      obtain ⟨oc, es, ep, hoc, z⟩ := id hm'
      have R6 := Rel.uncomp (C := h3.objs.size) (scope := scope) (cn := cn) R1 (hΓc ▸ R5) hoc
      exact hQ _ oc _ acc π' G' h5 tk5 m hI R6 (g1.trans g) hm' hoc (R1.aft.stp.live _ zC1) (R1.aft.stp.live _ zD1)
  have lp := loop _ rfl
  rw [hcenv] at lp
  refine codeAny_compStart_list lp (N.self Γc 0 o ρc ((h2.objs.size, .list []) :: π) _ G1 _ _ hP (Rc.perm (.swap _ _ _)) lp)
end
end

section
open PySem PySem.Calls PySem.W PyProof.Rows PySem.Spec
/-- a comprehension's scope, seen from Γ -/
structure CScope (Γ : Ctx) (ρ : Loc) (scope : Scope) (x : Str) (cn : List (Str × NameKind)) (ρc : Loc) (f : D → Loc) : Prop where
  hcn : relab Γ.names scope.names = cn
  nd : (cn.map (·.1)).Nodup
  hcell : ∀ y ∈ scope.names, y.2 ≠ .cell
  hkind : scope.kind = .function
  hnames : ∀ y ∈ scope.names, y.2 = .local → scope.names.lookup y.1 = some .local
  c : Cap Γ ρ cn ρc
  hloc : ∀ (i : Nat) y, cn[i]? = some (y, .local) → ρc[i]? = some none
  put : Put cn ρc x .local f

noncomputable def pureCn (cn : List (Str × NameKind)) (ρc : Loc) : Bool := (List.range cn.length).all fun i => match cn[i]? with
  | some (_, .local) => (match ρc[i]? with | some none => true | _ => false)
  | _ => true
theorem hloc_of {cn : List (Str × NameKind)} {ρc : Loc} (h : pureCn cn ρc = true) : ∀ (i : Nat) y, cn[i]? = some (y, .local) → ρc[i]? = some none := fun i y e => by
  have hi : i < cn.length := (List.getElem?_eq_some_iff.mp e).1
  have := List.all_eq_true.mp h i (List.mem_range.mpr hi)
  rw [e] at this
  dsimp only at this
  split at this
  · assumption
  · cases this

section
variable {Ω : Wo} {Γ : Ctx} {A : Around} {ρ ρc : Loc} {π : Led} {G G' : GM} {h h₁ h' : Heap} {Φ : Fl → Loc → Led → Prop} {Ψ : Addr → Loc → Led → Prop}

theorem extBut_of {a : Addr} (sb : Heap.SameBut a h h') : Heap.ExtBut a h h' := fun b o n e => (sb.2 b n).trans e
theorem fresh_W (K : COk Ω Γ A) {a : Addr} (h : Γ.h₀.get? a = none) : a ∉ Γ.W := fun q => by
  obtain ⟨o, ho⟩ := K.wex a q
  rw [h] at ho; cases ho

/-- what a comprehension of pure elements gives -/
noncomputable def PTurn (Ω : Wo) (Γ : Ctx) (A : Around) (π : Led) (cn : List (Str × NameKind)) (f : D → Loc) (ifs : List Expr) (elt : Expr) (ds : List D) (g : D → Option D) : Prop :=
  ∀ Γc, COk Ω Γc A → Γc.names = cn → Γc.fs = Γ.fs → ∀ d it o D acc, d ∈ ds → ∃ t, TsL Ω Γc A (f d) ((it, .obj o) :: (D, .list acc) :: π) ifs t ∧
    (t = true → ∃ e, g d = some e ∧ EvP Ω Γc A (f d) ((it, .obj o) :: (D, .list acc) :: π) (eval elt Γc.env) e) ∧ (t = false → g d = none)

theorem take_filterMap {ds : List D} {g : D → Option D} {i : Nat} {d : D} (h : ds[i]? = some d) : (ds.take (i + 1)).filterMap g = (ds.take i).filterMap g ++ (g d).toList := by
  rw [List.take_succ, h, List.filterMap_append]
  cases q : g d with
  | none => simp [q]
  | some e => simp [q]

theorem PTurn.turn {cn : List (Str × NameKind)} {f : D → Loc} {ifs : List Expr} {elt : Expr} {ds : List D} {g : D → Option D} (t : PTurn Ω Γ A π cn f ifs elt ds g) :
    ∀ Γc, COk Ω Γc A → Γc.names = cn → Γc.fs = Γ.fs → ∀ i d acc π' it o D, ds[i]? = some d → (acc = (ds.take i).filterMap g ∧ π' = π) → ∃ t, TsL Ω Γc A (f d) ((it, .obj o) :: (D, .list acc) :: π') ifs t ∧
      (t = true → Ev Ω Γc A (f d) ((it, .obj o) :: (D, .list acc) :: π') (eval elt Γc.env) (fun e π'' => ∃ π₃, π''.Perm ((it, .obj o) :: (D, .list acc) :: π₃) ∧ (acc ++ [e] = (ds.take (i + 1)).filterMap g ∧ π₃ = π)) (fun _ _ => False)) ∧ (t = false → acc = (ds.take (i + 1)).filterMap g ∧ π' = π) := by
  rintro Γc Kc hn hf i d acc π' it o D hd ⟨ha, rfl⟩
  obtain ⟨b, h1, h2, h3⟩ := t Γc Kc hn hf d it o D acc (List.mem_of_getElem? hd)
  refine ⟨b, h1, fun e => ?_, fun e => ⟨?_, rfl⟩⟩
  · obtain ⟨x, hx, ev⟩ := h2 e
    exact ev.toEv ⟨_, .refl _, by rw [take_filterMap hd, hx, ha]; rfl, rfl⟩
  · rw [take_filterMap hd, h3 e, ha]; simp

theorem EvP.comp {elt iter : Expr} {x : Str} {px : Pos} {ifs : List Expr} {scope : Scope} {pos : Pos} {cn : List (Str × NameKind)} {f : D → Loc} {ok : Value → GM → Led → Prop} {ds : List D} (g : D → Option D)
    (K : COk Ω Γ A) (S : CScope Γ ρ scope x cn ρc f) (src : SrcP Ω Γ A ρ π (eval iter Γ.env) ok ds) (hz : ds.length ≤ 1000)
    (hok : ∀ v G G' it o D acc, ok v G π → GLe G G' → ok v G' ((it, .obj o) :: (D, .list acc) :: π)) (turn : PTurn Ω Γ A π cn f ifs elt ds g)
    (hs : ∀ x, foldedSetIterable iter Γ.env x = pure x := by intro _; rfl) : EvP Ω Γ A ρ π (eval (.ListComp elt [⟨.Name x px, iter, ifs, 0⟩] scope pos) Γ.env) (.list (ds.filterMap g)) := by
  intro s G Q E R hQ
  rw [eval_ListComp]
  refine comp_core (use := none) (fun i acc π' => acc = (ds.take i).filterMap g ∧ π' = π) K src hz S.hcn S.nd S.hcell S.hkind S.hnames S.c S.hloc S.put (fun v G G' i acc π' it o D h1 h2 h3 => by
    obtain ⟨_, rfl⟩ := h3
    exact hok v G G' it o D acc h1 h2) turn.turn ⟨rfl, rfl⟩ hs R fun C oc D acc π' G' h' tk' m hI R' g' hm hoc hC hD => ?_
  obtain ⟨rfl, rfl⟩ := hI
  rw [List.take_length] at R'
  refine ⟨m, hm, fun h'' sb => ?_⟩
  have R2 := R'.lose (extBut_of sb) hC
  obtain ⟨G2, R3, g2, r⟩ := R2.freeze (πa := []) fun b hb => by
    rw [List.mem_singleton.mp hb]; exact fresh_W K hD
  exact hQ _ G2 h'' tk' R3 (g'.trans g2) r

theorem Ex.assignComp {elt iter : Expr} {x y : Str} {px py : Pos} {ifs : List Expr} {scope : Scope} {pos spos : Pos} {cn : List (Str × NameKind)} {f fy : D → Loc} {ok : Value → GM → Led → Prop} {ds : List D} (g : D → Option D)
    (K : COk Ω Γ A) (S : CScope Γ ρ scope x cn ρc f) (src : SrcP Ω Γ A ρ π (eval iter Γ.env) ok ds) (hz : ds.length ≤ 1000)
    (hok : ∀ v G G' it o D acc, ok v G π → GLe G G' → ok v G' ((it, .obj o) :: (D, .list acc) :: π)) (turn : PTurn Ω Γ A π cn f ifs elt ds g)
    (p : Sto Γ ρ y fy) (hk : Φ .next (fy (.list (ds.filterMap g))) π) (hsw : swapsWith (.ListComp elt [⟨.Name x px, iter, ifs, 0⟩] scope pos) (some (.Name y py)) spos.line Γ.env = pure true)
    (hs : ∀ x, foldedSetIterable iter Γ.env x = pure x := by intro _; rfl) : Ex Ω Γ A ρ π (exec (.Assign [.Name y py] (.ListComp elt [⟨.Name x px, iter, ifs, 0⟩] scope pos) spos) Γ.env) Φ Ψ := by
  intro s G Q E R hQ hE
  rw [exec_Assign_Name_used _ _ _ _ hsw]
  refine wpAny_bind (wpAny_standAt (wpAny_bind ?_))
  show wpAny _ A (do let _ ← comprehension (.ListComp elt [⟨.Name x px, iter, ifs, 0⟩] scope pos) scope Γ.env _ (newList []) false (eval iter Γ.env) (some (PySem.assign (.Name y py) Γ.env))) _ _ s
  refine wpAny_bind (wpAny_mono (comp_core (use := some (PySem.assign (.Name y py) Γ.env)) (Q := fun _ s' => Q .next s') (fun i acc π' => acc = (ds.take i).filterMap g ∧ π' = π) K src hz S.hcn S.nd S.hcell S.hkind S.hnames S.c S.hloc S.put (fun v G G' i acc π' it o D h1 h2 h3 => by
    obtain ⟨_, rfl⟩ := h3
    exact hok v G G' it o D acc h1 h2) turn.turn ⟨rfl, rfl⟩ hs R fun C oc D acc π' G' h' tk' m hI R' g' hm hoc hC hD => ?_) (fun _ s' hq => wpAny_pure (wpAny_pure hq)) fun _ _ e => e)
  obtain ⟨rfl, rfl⟩ := hI
  rw [List.take_length] at R'
  obtain ⟨G2, R2, g2, r⟩ := Rel.freeze (πa := [(C, .obj oc)]) R' fun b hb => by
    rw [List.mem_singleton.mp hb]; exact fresh_W K hD
  show wpAny _ A (PySem.assign (.Name y py) Γ.env (.ref D)) _ _ _
  refine wpAny_assign_Name (p.run K R2 r fun h3 tk3 R3 => ?_)
  have e3 : h3.get? C = some oc := R3.aft.led (C, .obj oc) (.head _)
  refine ⟨m, ?_, fun h4 sb => ?_⟩
  · obtain ⟨o, es, ep, ho, z⟩ := hm
    have ho : h'.get? C = some o := ho
    rw [hoc] at ho
    cases ho
    exact ⟨_, es, ep, e3, z⟩
  · exact hQ .next .next _ π' G2 h4 _ hk (R3.lose (extBut_of sb) hC) (g'.trans g2) .next

/-- a comprehension whose elements change the ledger -/
theorem Ex.assignCompM {elt iter : Expr} {x y : Str} {px py : Pos} {ifs : List Expr} {scope : Scope} {pos spos : Pos} {cn : List (Str × NameKind)} {f fy : D → Loc} {ok : Value → GM → Led → Prop} {ds : List D} (I : Nat → List D → Led → Prop)
    (K : COk Ω Γ A) (S : CScope Γ ρ scope x cn ρc f) (src : SrcP Ω Γ A ρ π (eval iter Γ.env) ok ds) (hz : ds.length ≤ 1000)
    (hok : ∀ v G G' i acc π' it o D, ok v G π → GLe G G' → I i acc π' → ok v G' ((it, .obj o) :: (D, .list acc) :: π'))
    (turn : ∀ Γc, COk Ω Γc A → Γc.names = cn → Γc.fs = Γ.fs → ∀ i d acc π' it o D, ds[i]? = some d → I i acc π' → ∃ t, TsL Ω Γc A (f d) ((it, .obj o) :: (D, .list acc) :: π') ifs t ∧
      (t = true → Ev Ω Γc A (f d) ((it, .obj o) :: (D, .list acc) :: π') (eval elt Γc.env) (fun e π'' => ∃ π₃, π''.Perm ((it, .obj o) :: (D, .list acc) :: π₃) ∧ I (i + 1) (acc ++ [e]) π₃) (fun _ _ => False)) ∧ (t = false → I (i + 1) acc π'))
    (h0 : I 0 [] π) (p : Sto Γ ρ y fy) (hk : ∀ D acc π', I ds.length acc π' → Φ .next (fy (.raw (.ref D))) ((D, .list acc) :: π')) (hsw : swapsWith (.ListComp elt [⟨.Name x px, iter, ifs, 0⟩] scope pos) (some (.Name y py)) spos.line Γ.env = pure true)
    (hs : ∀ x, foldedSetIterable iter Γ.env x = pure x := by intro _; rfl) : Ex Ω Γ A ρ π (exec (.Assign [.Name y py] (.ListComp elt [⟨.Name x px, iter, ifs, 0⟩] scope pos) spos) Γ.env) Φ Ψ := by
  intro s G Q E R hQ hE
  rw [exec_Assign_Name_used _ _ _ _ hsw]
  refine wpAny_bind (wpAny_standAt (wpAny_bind ?_))
  show wpAny _ A (do let _ ← comprehension (.ListComp elt [⟨.Name x px, iter, ifs, 0⟩] scope pos) scope Γ.env _ (newList []) false (eval iter Γ.env) (some (PySem.assign (.Name y py) Γ.env))) _ _ s
  refine wpAny_bind (wpAny_mono (comp_core (use := some (PySem.assign (.Name y py) Γ.env)) (Q := fun _ s' => Q .next s') I K src hz S.hcn S.nd S.hcell S.hkind S.hnames S.c S.hloc S.put hok turn h0 hs R fun C oc D acc π' G' h' tk' m hI R' g' hm hoc hC hD => ?_) (fun _ s' hq => wpAny_pure (wpAny_pure hq)) fun _ _ e => e)
  show wpAny _ A (PySem.assign (.Name y py) Γ.env (.ref D)) _ _ _
  refine wpAny_assign_Name (p.run K R' (.raw _) fun h3 tk3 R3 => ?_)
  have e3 : h3.get? C = some oc := R3.aft.led (C, .obj oc) (.head _)
  refine ⟨m, ?_, fun h4 sb => ?_⟩
  · obtain ⟨o, es, ep, ho, z⟩ := hm
    have ho : h'.get? C = some o := ho
    rw [hoc] at ho
    cases ho
    exact ⟨_, es, ep, e3, z⟩
  · exact hQ .next .next _ _ G' h4 _ (hk D acc π' hI) (R3.lose (extBut_of sb) hC) g' .next

/-- a frame's comprehension is stored at once -/
theorem swaps_on {elt : Expr} {gens : List Comprehension} {scope : Scope} {pos tp : Pos} {t : Str} {line : Nat} (K : COk Ω Γ A) (h : Γ.names.lookup t = some .local) (hb : ((Γ.env.blockKind == .function) && (tp.line == pos.line) && !(scope.names.any fun (n, k) => n == t && (k == .local || k == .cell))) = true) :
    swapsWith (.ListComp elt gens scope pos) (some (.Name t tp)) line Γ.env = pure true := by
  have e : Γ.env.kindOf t = some .local := by unfold Env.kindOf; rw [K.nms]; exact h
  show (pure (Γ.env.blockKind == .function && Γ.env.kindOf t == some .local && tp.line == (Expr.ListComp elt gens scope pos).pos.line && !(scope.names.any fun (n, k) => n == t && (k == .local || k == .cell))) : Sem Bool) = _
  congr 1
  rw [e]
  simp only [Bool.and_eq_true] at hb
  obtain ⟨⟨h1, h2⟩, h3⟩ := hb
  rw [h1, h3]
  show (true && true && (tp.line == pos.line) && true) = true
  rw [h2]; rfl
theorem swaps_off {elt : Expr} {gens : List Comprehension} {scope : Scope} {pos tp : Pos} {t : Str} {line : Nat} (K : COk Ω Γ A) (h : Γ.names.lookup t = some .cell) :
    swapsWith (.ListComp elt gens scope pos) (some (.Name t tp)) line Γ.env = pure false := by
  have e : Γ.env.kindOf t = some .cell := by unfold Env.kindOf; rw [K.nms]; exact h
  show (pure (Γ.env.blockKind == .function && Γ.env.kindOf t == some .local && tp.line == (Expr.ListComp elt gens scope pos).pos.line && !(scope.names.any fun (n, k) => n == t && (k == .local || k == .cell))) : Sem Bool) = _
  congr 1
  rw [e]
  have : (some NameKind.cell == some NameKind.local) = false := rfl
  rw [this, Bool.and_false, Bool.false_and, Bool.false_and]
end
end

section
open PySem PySem.Calls PySem.W PyProof.Rows PySem.Spec
/-- the world is this program's -/
structure Here (Ω : Wo) : Prop where
  k : ∃ P, Ω.K = Mine.heapK P

section
variable {Ω : Wo} {Γ : Ctx} {A : Around} {ρ ρc : Loc} {π : Led} {G G' : GM} {h h₁ h' : Heap}
theorem At.of {ns : List (Str × NameKind)} {x : Str} {k : NameKind} {d : D} (hn : Γ.names = ns) (h : At ns ρ x k d) : At Γ.names ρ x k d := hn ▸ h
theorem Put.of {ns : List (Str × NameKind)} {x : Str} {k : NameKind} {f : D → Loc} (hn : Γ.names = ns) (h : Put ns ρ x k f) : Put Γ.names ρ x k f := hn ▸ h
theorem look_of {ns : List (Str × NameKind)} {x : Str} {k : NameKind} (hn : Γ.names = ns) (h : ns.lookup x = some k) : Γ.names.lookup x = some k := hn ▸ h
theorem EvP.globI {x : Str} {pos : Pos} {i : Int} {t : Tok} (C : COk Ω Γ A) (hk : Γ.names.lookup x = some .globalImplicit) (e : nsIn Ω.K mainGlobals x = some (some (.int i t))) (hd : (x == ("__debug__" : Str)) = false := by decide) :
    EvP Ω Γ A ρ π (eval (.Name x pos) Γ.env) (.int i) := by
  intro s G Q E R hQ
  have T := R.top C
  refine Name_function_global C.kind (by unfold Env.kindOf; rw [C.nms]; exact hk) (loadGlobal_global (by rw [C.glob]; exact T.g) (mg_of (R.kin C) T.g e) (hQ _ G s.heap s.toks R (GLe.refl G) (.int ..))) hd

/-! tables: one fact for many names -/
noncomputable def ownT : List (Str × Addr) := [("varint_length", 149), ("rising", 156), ("limit_size", 212), ("_law_terms", 450), ("_law_draw", 457), ("_law_width", 464), ("_law_page", 469), ("_law_standing", 474), ("_law_tells", 479), ("Entry", 201), ("HardState", 257), ("ConfState", 292), ("Snapshot", 334), ("MemoryStorage", 439)]
noncomputable def excT : List (Str × Addr) := [("BadOption", 56), ("Compacted", 80), ("Unavailable", 92), ("SnapOutOfDate", 104), ("SnapNotReady", 116), ("LogGap", 128), ("LogPanic", 140)]
noncomputable def getT : List (Addr × Str) := [(201, "term"), (201, "index"), (201, "kind"), (201, "data"), (257, "term"), (257, "vote"), (257, "commit"), (292, "voters"), (292, "learners"), (292, "outgoing"), (292, "learners_next"), (292, "auto_leave"), (334, "index"), (334, "term"), (334, "conf"), (334, "data"), (439, "hard"), (439, "conf"), (439, "snap"), (439, "base_index"), (439, "base_term"), (439, "entries")]
noncomputable def metT : List (Addr × Str × Addr) := [(201, "row", 177), (201, "size", 198), (257, "row", 233), (257, "copy", 254), (292, "row", 282), (334, "row", 317), (439, "initial_state", 359), (439, "first_index", 366), (439, "last_index", 373), (439, "entries_between", 380), (439, "term_at", 387), (439, "snapshot", 394), (439, "set_hard", 401), (439, "append", 408), (439, "apply_snapshot", 415), (439, "create_snapshot", 422), (439, "compact", 429), (439, "row", 436)]
noncomputable def bltT : List (Str × Value) := [("len", .builtin "len"), ("sum", .builtin "sum"), ("max", .builtin "max"), ("sorted", .builtin "sorted"), ("range", .type "range"), ("tuple", .type "tuple"), ("bytes", .type "bytes")]
noncomputable def metF (C : Addr) (x : Str) : List (Addr × Str × Addr) → Option Addr
  | [] => none
  | r :: l => if r.1 = C ∧ r.2.1 = x then some r.2.2 else metF C x l
noncomputable def hasP (C : Addr) (x : Str) : List (Addr × Str) → Bool
  | [] => false
  | r :: l => if r.1 = C ∧ r.2 = x then true else hasP C x l
theorem hasP_mem {C : Addr} {x : Str} : ∀ {l : List (Addr × Str)}, hasP C x l = true → (C, x) ∈ l
  | [], h => by cases h
  | r :: l, h => by
    unfold hasP at h
    split at h
    · rename_i q
      rw [← q.1, ← q.2]
      exact .head _
    · exact .tail _ (hasP_mem h)
theorem metF_mem {C : Addr} {x : Str} {f : Addr} : ∀ {l : List (Addr × Str × Addr)}, metF C x l = some f → (C, x, f) ∈ l
  | [], h => by cases h
  | r :: l, h => by
    unfold metF at h
    split at h
    · rename_i q
      rw [← q.1, ← q.2, ← Option.some.inj h]
      exact .head _
    · exact .tail _ (metF_mem h)
theorem ownA (P : Params) : ownT.all (fun r => (nsIn (heapK P) mainGlobals r.1 == some (some (.ref r.2))) && keepIn (heapK P) (.ref r.2)) = true := by kernel_rfl
theorem ownG (H : Here Ω) {x : Str} {a : Addr} (h : ownT.lookup x = some a) : nsIn Ω.K mainGlobals x = some (some (.ref a)) ∧ keepIn Ω.K (.ref a) = true := by
  obtain ⟨P, hP⟩ := H.k
  have := List.all_eq_true.mp (ownA P) _ (lookup_mem h)
  rw [Bool.and_eq_true, beq_iff_eq] at this
  rw [hP]
  exact this
theorem ownK (H : Here Ω) {a : Addr} (h : (ownT.any fun r => r.2 == a) = true) : keepIn Ω.K (.ref a) = true := by
  obtain ⟨P, hP⟩ := H.k
  obtain ⟨r, hr, e⟩ := List.any_eq_true.mp h
  have := List.all_eq_true.mp (ownA P) _ hr
  rw [Bool.and_eq_true] at this
  rw [hP, ← eq_of_beq e]
  exact this.2
theorem excA (P : Params) : excT.all (fun r => (nsIn (heapK P) mainGlobals r.1 == some (some (.ref r.2))) && excIn (heapK P) r.2 [.type "Exception", .type "BaseException", .type "object"] "Exception.__new__") = true := by kernel_rfl
theorem excG (H : Here Ω) {x : Str} {a : Addr} (h : excT.lookup x = some a) : nsIn Ω.K mainGlobals x = some (some (.ref a)) := by
  obtain ⟨P, hP⟩ := H.k
  have := List.all_eq_true.mp (excA P) _ (lookup_mem h)
  rw [Bool.and_eq_true, beq_iff_eq] at this
  rw [hP]
  exact this.1
theorem excX (H : Here Ω) {a : Addr} (h : (excT.any fun r => r.2 == a) = true) : excIn Ω.K a [.type "Exception", .type "BaseException", .type "object"] "Exception.__new__" = true := by
  obtain ⟨P, hP⟩ := H.k
  obtain ⟨r, hr, e⟩ := List.any_eq_true.mp h
  have := List.all_eq_true.mp (excA P) _ hr
  rw [Bool.and_eq_true] at this
  rw [hP, ← eq_of_beq e]
  exact this.2
theorem getA (P : Params) : getT.all (fun r => getOkB (heapK P) r.1 r.2 && setOkB (heapK P) r.1 r.2) = true := by kernel_rfl
theorem getH (H : Here Ω) {C : Addr} {x : Str} (h : hasP C x getT = true) : GetOk Ω.K C x := by
  obtain ⟨P, hP⟩ := H.k
  have := List.all_eq_true.mp (getA P) _ (hasP_mem h)
  rw [Bool.and_eq_true] at this
  rw [hP]
  exact .of this.1
theorem setH (H : Here Ω) {C : Addr} {x : Str} (h : hasP C x getT = true) : SetOk Ω.K C x := by
  obtain ⟨P, hP⟩ := H.k
  have := List.all_eq_true.mp (getA P) _ (hasP_mem h)
  rw [Bool.and_eq_true] at this
  rw [hP]
  exact .of this.2
theorem metA (P : Params) : metT.all (fun r => metOkB (heapK P) r.1 r.2.1 r.2.2) = true := by kernel_rfl
theorem metH (H : Here Ω) {C f : Addr} {x : Str} (h : metF C x metT = some f) : MetOk Ω.K C x f := by
  obtain ⟨P, hP⟩ := H.k
  have := List.all_eq_true.mp (metA P) _ (metF_mem h)
  rw [hP]
  exact .of this
theorem bltA (P : Params) : bltT.all (fun r => nsIn (heapK P) mainGlobals r.1 == some none) = true := by kernel_rfl
theorem bltB : ∀ r ∈ bltT, bootBuiltins r.1 = some r.2 ∧ r.1 ≠ "__name__" ∧ (r.1 == ("__debug__" : Str)) = false := fun r h => by
  have b0 : bootBuiltins ("len" : Str) = some (.builtin "len") := by boot_by_name
  have b1 : bootBuiltins ("sum" : Str) = some (.builtin "sum") := by boot_by_name
  have b2 : bootBuiltins ("max" : Str) = some (.builtin "max") := by boot_by_name
  have b3 : bootBuiltins ("sorted" : Str) = some (.builtin "sorted") := by boot_by_name
  have b4 : bootBuiltins ("range" : Str) = some (.type "range") := by boot_by_name
  have b5 : bootBuiltins ("tuple" : Str) = some (.type "tuple") := by boot_by_name
  have b6 : bootBuiltins ("bytes" : Str) = some (.type "bytes") := by boot_by_name
  unfold bltT at h
  simp only [List.mem_cons, List.not_mem_nil, or_false] at h
  rcases h with rfl | rfl | rfl | rfl | rfl | rfl | rfl
  · exact ⟨b0, by decide, by decide⟩
  · exact ⟨b1, by decide, by decide⟩
  · exact ⟨b2, by decide, by decide⟩
  · exact ⟨b3, by decide, by decide⟩
  · exact ⟨b4, by decide, by decide⟩
  · exact ⟨b5, by decide, by decide⟩
  · exact ⟨b6, by decide, by decide⟩
theorem n_blt {x : Str} {v : Value} {pos : Pos} {ns : List (Str × NameKind)} (H : Here Ω) (K : COk Ω Γ A) (hn : Γ.names = ns) (h : ns.lookup x = some NameKind.globalImplicit) (hb : bltT.lookup x = some v) : EvP Ω Γ A ρ π (eval (.Name x pos) Γ.env) (.raw v) := by
  obtain ⟨P, hP⟩ := id H.k
  have m := lookup_mem hb
  have e := List.all_eq_true.mp (bltA P) _ m
  obtain ⟨b1, b2, b3⟩ := bltB _ m
  exact EvP.blt K (look_of hn h) (by rw [hP]; exact eq_of_beq e) b1 b2 b3
theorem n_own {x : Str} {a : Addr} {pos : Pos} {ns : List (Str × NameKind)} (H : Here Ω) (K : COk Ω Γ A) (hn : Γ.names = ns) (h : ns.lookup x = some NameKind.globalImplicit) (hb : ownT.lookup x = some a) (hd : (x == ("__debug__" : Str)) = false := by decide) : EvP Ω Γ A ρ π (eval (.Name x pos) Γ.env) (.raw (.ref a)) :=
  EvP.glob K (look_of hn h) (ownG H hb).1 hd
theorem g_MAX (H : Here Ω) : ∃ t, nsIn Ω.K mainGlobals "MAX_64" = some (some (.int 18446744073709551615 t)) := by obtain ⟨P, hP⟩ := H.k; rw [hP]; exact ⟨362, by kernel_rfl⟩
theorem n_MAX {pos : Pos} {ns : List (Str × NameKind)} (H : Here Ω) (K : COk Ω Γ A) (hn : Γ.names = ns) (h : ns.lookup ("MAX_64" : Str) = some NameKind.globalImplicit) : EvP Ω Γ A ρ π (eval (.Name "MAX_64" pos) Γ.env) (.int 18446744073709551615) := by
  obtain ⟨t, ht⟩ := g_MAX H
  exact EvP.globI K (look_of hn h) ht
theorem k_limit_size (H : Here Ω) : keepIn Ω.K (.ref 212) = true := ownK H rfl
theorem n_limit_size {pos : Pos} {ns : List (Str × NameKind)} (H : Here Ω) (K : COk Ω Γ A) (hn : Γ.names = ns) (h : ns.lookup ("limit_size" : Str) = some NameKind.globalImplicit) : EvP Ω Γ A ρ π (eval (.Name "limit_size" pos) Γ.env) (.raw (.ref 212)) := n_own H K hn h rfl
theorem k_law_width (H : Here Ω) : keepIn Ω.K (.ref 464) = true := ownK H rfl
theorem n_law_width {pos : Pos} {ns : List (Str × NameKind)} (H : Here Ω) (K : COk Ω Γ A) (hn : Γ.names = ns) (h : ns.lookup ("_law_width" : Str) = some NameKind.globalImplicit) : EvP Ω Γ A ρ π (eval (.Name "_law_width" pos) Γ.env) (.raw (.ref 464)) := n_own H K hn h rfl
theorem k_law_page (H : Here Ω) : keepIn Ω.K (.ref 469) = true := ownK H rfl
theorem k_law_standing (H : Here Ω) : keepIn Ω.K (.ref 474) = true := ownK H rfl
theorem k_law_tells (H : Here Ω) : keepIn Ω.K (.ref 479) = true := ownK H rfl
theorem k_Entry (H : Here Ω) : keepIn Ω.K (.ref 201) = true := ownK H rfl
theorem k_HardState (H : Here Ω) : keepIn Ω.K (.ref 257) = true := ownK H rfl
theorem n_HardState {pos : Pos} {ns : List (Str × NameKind)} (H : Here Ω) (K : COk Ω Γ A) (hn : Γ.names = ns) (h : ns.lookup ("HardState" : Str) = some NameKind.globalImplicit) : EvP Ω Γ A ρ π (eval (.Name "HardState" pos) Γ.env) (.raw (.ref 257)) := n_own H K hn h rfl
theorem k_ConfState (H : Here Ω) : keepIn Ω.K (.ref 292) = true := ownK H rfl
theorem k_Snapshot (H : Here Ω) : keepIn Ω.K (.ref 334) = true := ownK H rfl
theorem k_MemoryStorage (H : Here Ω) : keepIn Ω.K (.ref 439) = true := ownK H rfl
theorem g_Compacted (H : Here Ω) : nsIn Ω.K mainGlobals "Compacted" = some (some (.ref 80)) := excG H rfl
theorem g_Unavailable (H : Here Ω) : nsIn Ω.K mainGlobals "Unavailable" = some (some (.ref 92)) := excG H rfl
theorem g_SnapOutOfDate (H : Here Ω) : nsIn Ω.K mainGlobals "SnapOutOfDate" = some (some (.ref 104)) := excG H rfl
theorem g_SnapNotReady (H : Here Ω) : nsIn Ω.K mainGlobals "SnapNotReady" = some (some (.ref 116)) := excG H rfl
theorem g_LogGap (H : Here Ω) : nsIn Ω.K mainGlobals "LogGap" = some (some (.ref 128)) := excG H rfl
theorem g_LogPanic (H : Here Ω) : nsIn Ω.K mainGlobals "LogPanic" = some (some (.ref 140)) := excG H rfl
theorem m_SnapNotReady_SnapNotReady (H : Here Ω) : exmOne Ω.K (.ref 116) (.ref 116) = some true := by obtain ⟨P, hP⟩ := H.k; rw [hP]; kernel_rfl
theorem m_Compacted_Compacted (H : Here Ω) : exmOne Ω.K (.ref 80) (.ref 80) = some true := by obtain ⟨P, hP⟩ := H.k; rw [hP]; kernel_rfl
theorem m_Unavailable_Compacted (H : Here Ω) : exmOne Ω.K (.ref 92) (.ref 80) = some false := by obtain ⟨P, hP⟩ := H.k; rw [hP]; kernel_rfl
theorem m_Unavailable_Unavailable (H : Here Ω) : exmOne Ω.K (.ref 92) (.ref 92) = some true := by obtain ⟨P, hP⟩ := H.k; rw [hP]; kernel_rfl
theorem m_LogGap_LogGap (H : Here Ω) : exmOne Ω.K (.ref 128) (.ref 128) = some true := by obtain ⟨P, hP⟩ := H.k; rw [hP]; kernel_rfl
theorem m_Compacted_LogGap (H : Here Ω) : exmOne Ω.K (.ref 80) (.ref 128) = some false := by obtain ⟨P, hP⟩ := H.k; rw [hP]; kernel_rfl
theorem m_LogPanic_LogGap (H : Here Ω) : exmOne Ω.K (.ref 140) (.ref 128) = some false := by obtain ⟨P, hP⟩ := H.k; rw [hP]; kernel_rfl
theorem m_LogPanic_Compacted (H : Here Ω) : exmOne Ω.K (.ref 140) (.ref 80) = some false := by obtain ⟨P, hP⟩ := H.k; rw [hP]; kernel_rfl
theorem m_LogPanic_LogPanic (H : Here Ω) : exmOne Ω.K (.ref 140) (.ref 140) = some true := by obtain ⟨P, hP⟩ := H.k; rw [hP]; kernel_rfl
theorem m_SnapOutOfDate_LogGap (H : Here Ω) : exmOne Ω.K (.ref 104) (.ref 128) = some false := by obtain ⟨P, hP⟩ := H.k; rw [hP]; kernel_rfl
theorem m_SnapOutOfDate_Compacted (H : Here Ω) : exmOne Ω.K (.ref 104) (.ref 80) = some false := by obtain ⟨P, hP⟩ := H.k; rw [hP]; kernel_rfl
theorem m_SnapOutOfDate_LogPanic (H : Here Ω) : exmOne Ω.K (.ref 104) (.ref 140) = some false := by obtain ⟨P, hP⟩ := H.k; rw [hP]; kernel_rfl
theorem m_SnapOutOfDate_SnapOutOfDate (H : Here Ω) : exmOne Ω.K (.ref 104) (.ref 104) = some true := by obtain ⟨P, hP⟩ := H.k; rw [hP]; kernel_rfl
theorem get_Entry_index (H : Here Ω) : GetOk Ω.K 201 "index" := getH H rfl
theorem set_Entry_index (H : Here Ω) : SetOk Ω.K 201 "index" := setH H rfl
theorem met_Entry_row (H : Here Ω) : MetOk Ω.K 201 "row" 177 := metH H rfl
theorem mk_Entry (H : Here Ω) : makesIn Ω.K 201 = true := by obtain ⟨P, hP⟩ := H.k; rw [hP]; kernel_rfl
theorem ini_Entry (H : Here Ω) : findIn Ω.K (.ref 201) "__init__" = some (some (.ref 170)) := by obtain ⟨P, hP⟩ := H.k; rw [hP]; kernel_rfl
theorem inf_Entry (H : Here Ω) : typeIn Ω.K (.ref 170) = some (.type "function") := by obtain ⟨P, hP⟩ := H.k; rw [hP]; kernel_rfl
theorem get_HardState_term (H : Here Ω) : GetOk Ω.K 257 "term" := getH H rfl
theorem set_HardState_term (H : Here Ω) : SetOk Ω.K 257 "term" := setH H rfl
theorem get_HardState_commit (H : Here Ω) : GetOk Ω.K 257 "commit" := getH H rfl
theorem set_HardState_commit (H : Here Ω) : SetOk Ω.K 257 "commit" := setH H rfl
theorem met_HardState_copy (H : Here Ω) : MetOk Ω.K 257 "copy" 254 := metH H rfl
theorem mk_HardState (H : Here Ω) : makesIn Ω.K 257 = true := by obtain ⟨P, hP⟩ := H.k; rw [hP]; kernel_rfl
theorem ini_HardState (H : Here Ω) : findIn Ω.K (.ref 257) "__init__" = some (some (.ref 226)) := by obtain ⟨P, hP⟩ := H.k; rw [hP]; kernel_rfl
theorem inf_HardState (H : Here Ω) : typeIn Ω.K (.ref 226) = some (.type "function") := by obtain ⟨P, hP⟩ := H.k; rw [hP]; kernel_rfl
theorem met_ConfState_row (H : Here Ω) : MetOk Ω.K 292 "row" 282 := metH H rfl
theorem mk_ConfState (H : Here Ω) : makesIn Ω.K 292 = true := by obtain ⟨P, hP⟩ := H.k; rw [hP]; kernel_rfl
theorem ini_ConfState (H : Here Ω) : findIn Ω.K (.ref 292) "__init__" = some (some (.ref 275)) := by obtain ⟨P, hP⟩ := H.k; rw [hP]; kernel_rfl
theorem inf_ConfState (H : Here Ω) : typeIn Ω.K (.ref 275) = some (.type "function") := by obtain ⟨P, hP⟩ := H.k; rw [hP]; kernel_rfl
theorem met_Snapshot_row (H : Here Ω) : MetOk Ω.K 334 "row" 317 := metH H rfl
theorem mk_Snapshot (H : Here Ω) : makesIn Ω.K 334 = true := by obtain ⟨P, hP⟩ := H.k; rw [hP]; kernel_rfl
theorem ini_Snapshot (H : Here Ω) : findIn Ω.K (.ref 334) "__init__" = some (some (.ref 310)) := by obtain ⟨P, hP⟩ := H.k; rw [hP]; kernel_rfl
theorem inf_Snapshot (H : Here Ω) : typeIn Ω.K (.ref 310) = some (.type "function") := by obtain ⟨P, hP⟩ := H.k; rw [hP]; kernel_rfl
theorem set_MemoryStorage_hard (H : Here Ω) : SetOk Ω.K 439 "hard" := setH H rfl
theorem set_MemoryStorage_conf (H : Here Ω) : SetOk Ω.K 439 "conf" := setH H rfl
theorem set_MemoryStorage_snap (H : Here Ω) : SetOk Ω.K 439 "snap" := setH H rfl
theorem met_MemoryStorage_initial_state (H : Here Ω) : MetOk Ω.K 439 "initial_state" 359 := metH H rfl
theorem met_MemoryStorage_entries_between (H : Here Ω) : MetOk Ω.K 439 "entries_between" 380 := metH H rfl
theorem met_MemoryStorage_term_at (H : Here Ω) : MetOk Ω.K 439 "term_at" 387 := metH H rfl
theorem met_MemoryStorage_snapshot (H : Here Ω) : MetOk Ω.K 439 "snapshot" 394 := metH H rfl
theorem met_MemoryStorage_set_hard (H : Here Ω) : MetOk Ω.K 439 "set_hard" 401 := metH H rfl
theorem met_MemoryStorage_append (H : Here Ω) : MetOk Ω.K 439 "append" 408 := metH H rfl
theorem met_MemoryStorage_apply_snapshot (H : Here Ω) : MetOk Ω.K 439 "apply_snapshot" 415 := metH H rfl
theorem met_MemoryStorage_create_snapshot (H : Here Ω) : MetOk Ω.K 439 "create_snapshot" 422 := metH H rfl
theorem met_MemoryStorage_compact (H : Here Ω) : MetOk Ω.K 439 "compact" 429 := metH H rfl
theorem mk_MemoryStorage (H : Here Ω) : makesIn Ω.K 439 = true := by obtain ⟨P, hP⟩ := H.k; rw [hP]; kernel_rfl
theorem ini_MemoryStorage (H : Here Ω) : findIn Ω.K (.ref 439) "__init__" = some (some (.ref 352)) := by obtain ⟨P, hP⟩ := H.k; rw [hP]; kernel_rfl
theorem inf_MemoryStorage (H : Here Ω) : typeIn Ω.K (.ref 352) = some (.type "function") := by obtain ⟨P, hP⟩ := H.k; rw [hP]; kernel_rfl
end
end

section
open PySem PySem.Calls PySem.W PyProof.Rows PySem.Spec
section
variable {Ω : Wo} {Γ : Ctx} {A : Around} {ρ ρc : Loc} {π : Led} {G G' : GM} {h h₁ h' : Heap} {Φ : Fl → Loc → Led → Prop} {Ψ : Addr → Loc → Led → Prop}

noncomputable def TupOk (v : Value) (ds : List D) (G : GM) (π : Led) : Prop := Rd G v (.tup ds)
theorem iters_tuple {v : Value} {ds : List D} (hh : A.handled = none) : Iters Ω Γ A v (TupOk v ds) ds := by
  intro ρ π s G Q E ok R hQ
  obtain ⟨l, vs, rfl, hl, hr⟩ := Rd.tuple_at R ok
  have s1 := get_size s.heap
  refine wpAny_pyIter_tuple hl (hQ s.heap.objs.size { cls := .type "tuple_iterator", data := .fields #[.ref l, .int 0 0] } (fun i o => o.cls = .type "tuple_iterator" ∧ o.data = .fields #[.ref l, .int i 0]) _ s.toks ⟨?_, ?_, ?_⟩ (keeps_push _ _) s1 ⟨rfl, rfl⟩ ?_)
  · intro Γ i e ρ π o s G Q E hi hP ok R hQ
    obtain ⟨l', vs, e1, hl, hr⟩ := Rd.tuple_at R ok
    cases e1
    obtain ⟨x, hx, rx⟩ := hr.get hi
    have M := R.aft.led (_, .obj o) (.head _)
    refine wpAny_pyNext_tuple_item (i := i) ⟨o, M, hP.1, hP.2⟩ hl (by simpa using hx) fun h' hit sb => ?_
    obtain ⟨o', ho', hc', hd'⟩ := hit
    exact hQ x o' G h' _ (GLe.refl G) rx ⟨hc', hd'⟩ (R.setObj sb ho')
  · intro Γ ρ π o s G Q E hn hP ok R hQ
    obtain ⟨l', vs, e1, hl, hr⟩ := Rd.tuple_at R ok
    cases e1
    have M := R.aft.led (_, .obj o) (.head _)
    refine wpAny_pyNext_tuple_end (i := ds.length) hh ⟨o, M, hP.1, hP.2⟩ hl ?_ fun h' k => hQ h' _ (R.lose k hn)
    rw [List.getElem?_toArray, ← hr.length]
    exact List.getElem?_eq_none (Nat.le_refl _)
  · intro Γ i o ρ π s G Q E hP R hQ
    exact wpAny_pyIter_tupleiter (t := l) (i := i) ⟨o, R.aft.led (_, .obj o) (.head _), hP.1, hP.2⟩ hQ
  · exact R.addObj _ rfl
theorem SrcP.tuple {t : Sem Value} {ds : List D} (hh : A.handled = none) (e : EvP Ω Γ A ρ π t (.tup ds)) : SrcP Ω Γ A ρ π t (fun v => TupOk v ds) ds := fun s G Q E R hQ =>
  e s G Q E R fun v G' h' tk' R' g r => hQ v G' h' tk' R' g r (iters_tuple hh)
theorem tup_ok {ds : List D} : ∀ v G G' it o D acc, TupOk v ds G π → GLe G G' → TupOk v ds G' ((it, .obj o) :: (D, .list acc) :: π) := fun v G G' it o D acc h g => Rd.mono g h
theorem lst_ok {d : D} {ds : List D} : ∀ v G G' it o D acc, LstOk v d ds G π → GLe G G' → LstOk v d ds G' ((it, .obj o) :: (D, .list acc) :: π) := fun v G G' it o D acc h g => ⟨h.1.mono g, h.2.weak fun p hp => .tail _ (.tail _ hp)⟩
theorem rng_ok {a b c : Int} : ∀ v G G' it o D acc, RngV a b c v G π → GLe G G' → RngV a b c v G' ((it, .obj o) :: (D, .list acc) :: π) := fun v G G' it o D acc h g => by
  obtain ⟨r, rfl, t, u, w, e⟩ := h
  exact ⟨r, rfl, t, u, w, g _ _ e⟩

theorem Amb.mono {fs : List Env} {n m : Nat} (a : Amb A fs m) (h : n ≤ m) : Amb A fs n := ⟨a.frames, a.handled, by have := a.depth; omega, by have := a.units; omega⟩

/-- a call of a def that changes nothing -/
theorem EvP.call0 {fe : Expr} {es : List Expr} {pos : Pos} {f : Value} {ds : List D} {n m : Nat} {d : D} (F : FnP Ω f ds [] n d) (K : COk Ω Γ A) (amb : Amb A Γ.fs m) (hm : n ≤ m) (hf : EvP Ω Γ A ρ π (eval fe Γ.env) (.raw f)) (hk : keepIn Ω.K f = true)
    (a : ElP Ω Γ A ρ π (spliced (backTo pos (starEach es Γ.env))) ds) (hs : ((backTo pos (starEach es Γ.env)).any (·.1)) = false := by rfl) (hz : es = [] → ds = [] := by first | (intro h; cases h; done) | (intro _; rfl))
    (he : eval (.Call fe es [] pos) Γ.env = (do callWith pos (← eval fe Γ.env) [] (backTo pos (starEach es Γ.env)) (backToKw pos (keywordEach [] Γ.env))) := by rfl) : EvP Ω Γ A ρ π (eval (.Call fe es [] pos) Γ.env) d :=
  Ev.pure (π₁ := []) (π₂ := π) (.refl _) (Ev.call K (amb.mono hm) F (.refl _) hf hk a hs hz he)
/-- a call of a method that changes nothing -/
theorem EvP.meth0 {o : Expr} {name : Str} {apos pos : Pos} {es : List Expr} {f C : Addr} {fs : List (Str × D)} {d r : D} {ds : List D} {n m : Nat} {pl : Sem Bool} (F : FnP Ω (.ref f) (d :: ds) π n r) (K : COk Ω Γ A) (amb : Amb A Γ.fs m) (hm : n ≤ m)
    (ho : EvP Ω Γ A ρ π (eval o Γ.env) d) (i : InsD π d C fs) (hn : fs.lookup name = none) (mo : MetOk Ω.K C name f)
    (a : ElP Ω Γ A ρ π (spliced (backTo pos (starEach es Γ.env))) ds) (hs : ((backTo pos (starEach es Γ.env)).any (·.1)) = false := by rfl) (hz : es = [] → ds = [] := by first | (intro h; cases h; done) | (intro _; rfl))
    (he : eval (.Call (.Attribute o name apos) es [] pos) Γ.env = (do
      let ov ← eval o Γ.env
      standAt apos.atName
      let (f, first) ← holding [ov] (getMethod ov name pl)
      callWith pos f first (backTo pos (starEach es Γ.env)) (backToKw pos (keywordEach [] Γ.env))) := by rfl) : EvP Ω Γ A ρ π (eval (.Call (.Attribute o name apos) es [] pos) Γ.env) r :=
  Ev.pure (π₁ := π) (π₂ := []) (by rw [List.append_nil]) (Ev.method (pl := pl) K (amb.mono hm) F (by rw [List.append_nil]) ho i hn mo a hs hz he)

/-- a new object, frozen at once -/
theorem Ev.freezeI {t : Sem Value} {C : Addr} {fs : List (Str × D)} {Ψ : Addr → Led → Prop} (hh : Ev Ω Γ A ρ π t (fun d π' => ∃ x dx, d = .raw (.ref x) ∧ π' = (x, .inst C dx fs) :: π) Ψ) (hW : ∀ a ∈ Γ.W, a ∈ adrs π) : Ev Ω Γ A ρ π t (fun d π' => d = .inst C fs ∧ π' = π) Ψ := fun s G Q E R hQ hE =>
  hh s G Q E R (fun v d π' G' h' tk' hΦ R' g r => by
    obtain ⟨x, dx, rfl, rfl⟩ := hΦ
    cases r
    obtain ⟨G2, R2, g2, r2⟩ := Rel.freeze (πa := []) R' fun b hb hw => by
      have nd := R'.aft.nodup
      rw [adrs_cons] at nd
      exact nodup_sub nd b hb (hW b hw)
    exact hQ _ _ π G2 h' tk' ⟨rfl, rfl⟩ R2 (g.trans g2) r2) hE
theorem Ev.freezeL {t : Sem Value} {ds : List D} {Ψ : Addr → Led → Prop} (hh : Ev Ω Γ A ρ π t (fun d π' => ∃ x, d = .raw (.ref x) ∧ π' = (x, .list ds) :: π) Ψ) (hW : ∀ a ∈ Γ.W, a ∈ adrs π) : Ev Ω Γ A ρ π t (fun d π' => d = .list ds ∧ π' = π) Ψ := fun s G Q E R hQ hE =>
  hh s G Q E R (fun v d π' G' h' tk' hΦ R' g r => by
    obtain ⟨x, rfl, rfl⟩ := hΦ
    cases r
    obtain ⟨G2, R2, g2, r2⟩ := Rel.freeze (πa := []) R' fun b hb hw => by
      have nd := R'.aft.nodup
      rw [adrs_cons] at nd
      exact nodup_sub nd b hb (hW b hw)
    exact hQ _ _ π G2 h' tk' ⟨rfl, rfl⟩ R2 (g.trans g2) r2) hE
theorem Ev.toP {t : Sem Value} {d : D} (hh : Ev Ω Γ A ρ π t (fun d' π' => d' = d ∧ π' = π) (fun _ _ => False)) : EvP Ω Γ A ρ π t d := fun s G Q E R hQ =>
  hh s G Q E R (fun v d' π' G' h' tk' hΦ R' g r => by
    obtain ⟨rfl, rfl⟩ := hΦ
    exact hQ v G' h' tk' R' g r) fun _ _ _ _ _ _ hf => hf.elim

/-- what a class's call gives -/
noncomputable abbrev NewI (Ω : Wo) (C : Addr) (args : List D) (n : Nat) (fs : List (Str × D)) : Prop := Fn Ω (.ref C) args [] n (fun d π' => ∃ x dx, d = .raw (.ref x) ∧ π' = [(x, .inst C dx fs)]) (fun _ _ => False)
theorem Ev.newM {fe : Expr} {es : List Expr} {pos : Pos} {C : Addr} {ds : List D} {n m : Nat} {fs : List (Str × D)} {Ψ : Addr → Led → Prop} (F : NewI Ω C ds n fs) (K : COk Ω Γ A) (amb : Amb A Γ.fs m) (hm : n ≤ m) (hf : EvP Ω Γ A ρ π (eval fe Γ.env) (.raw (.ref C))) (hk : keepIn Ω.K (.ref C) = true)
    (a : ElP Ω Γ A ρ π (spliced (backTo pos (starEach es Γ.env))) ds) (hs : ((backTo pos (starEach es Γ.env)).any (·.1)) = false := by rfl) (hz : es = [] → ds = [] := by first | (intro h; cases h; done) | (intro _; rfl))
    (he : eval (.Call fe es [] pos) Γ.env = (do callWith pos (← eval fe Γ.env) [] (backTo pos (starEach es Γ.env)) (backToKw pos (keywordEach [] Γ.env))) := by rfl) : Ev Ω Γ A ρ π (eval (.Call fe es [] pos) Γ.env) (fun d π' => ∃ x dx, d = .raw (.ref x) ∧ π' = (x, .inst C dx fs) :: π) Ψ :=
  (Ev.call (π₁ := []) (π₂ := π) K (amb.mono hm) F (.refl _) hf hk a hs hz he).mono (fun d π' hd => by
    obtain ⟨π₁, ⟨x, dx, rfl, rfl⟩, rfl⟩ := hd
    exact ⟨x, dx, rfl, rfl⟩) fun c π' hc => by
    obtain ⟨_, z, _⟩ := hc
    exact z.elim
theorem EvP.new {fe : Expr} {es : List Expr} {pos : Pos} {C : Addr} {ds : List D} {n m : Nat} {fs : List (Str × D)} (F : NewI Ω C ds n fs) (K : COk Ω Γ A) (amb : Amb A Γ.fs m) (hm : n ≤ m) (hf : EvP Ω Γ A ρ π (eval fe Γ.env) (.raw (.ref C))) (hk : keepIn Ω.K (.ref C) = true)
    (a : ElP Ω Γ A ρ π (spliced (backTo pos (starEach es Γ.env))) ds) (hW : ∀ a ∈ Γ.W, a ∈ adrs π) (hs : ((backTo pos (starEach es Γ.env)).any (·.1)) = false := by rfl) (hz : es = [] → ds = [] := by first | (intro h; cases h; done) | (intro _; rfl))
    (he : eval (.Call fe es [] pos) Γ.env = (do callWith pos (← eval fe Γ.env) [] (backTo pos (starEach es Γ.env)) (backToKw pos (keywordEach [] Γ.env))) := by rfl) : EvP Ω Γ A ρ π (eval (.Call fe es [] pos) Γ.env) (.inst C fs) :=
  Ev.toP (Ev.freezeI (Ev.newM F K amb hm hf hk a hs hz he) hW)
/-- a def that gives a new list, frozen at once -/
noncomputable abbrev NewL (Ω : Wo) (f : Value) (args : List D) (n : Nat) (ds : List D) : Prop := Fn Ω f args [] n (fun d π' => ∃ x, d = .raw (.ref x) ∧ π' = [(x, .list ds)]) (fun _ _ => False)
theorem Ev.newLM {fe : Expr} {es : List Expr} {pos : Pos} {f : Value} {args : List D} {n m : Nat} {ds : List D} {Ψ : Addr → Led → Prop} (F : NewL Ω f args n ds) (K : COk Ω Γ A) (amb : Amb A Γ.fs m) (hm : n ≤ m) (hf : EvP Ω Γ A ρ π (eval fe Γ.env) (.raw f)) (hk : keepIn Ω.K f = true)
    (a : ElP Ω Γ A ρ π (spliced (backTo pos (starEach es Γ.env))) args) (hs : ((backTo pos (starEach es Γ.env)).any (·.1)) = false := by rfl) (hz : es = [] → args = [] := by first | (intro h; cases h; done) | (intro _; rfl))
    (he : eval (.Call fe es [] pos) Γ.env = (do callWith pos (← eval fe Γ.env) [] (backTo pos (starEach es Γ.env)) (backToKw pos (keywordEach [] Γ.env))) := by rfl) : Ev Ω Γ A ρ π (eval (.Call fe es [] pos) Γ.env) (fun d π' => ∃ x, d = .raw (.ref x) ∧ π' = (x, .list ds) :: π) Ψ :=
  (Ev.call (π₁ := []) (π₂ := π) K (amb.mono hm) F (.refl _) hf hk a hs hz he).mono (fun d π' hd => by
    obtain ⟨π₁, ⟨x, rfl, rfl⟩, rfl⟩ := hd
    exact ⟨x, rfl, rfl⟩) fun c π' hc => by
    obtain ⟨_, z, _⟩ := hc
    exact z.elim
theorem EvP.newL {fe : Expr} {es : List Expr} {pos : Pos} {f : Value} {args : List D} {n m : Nat} {ds : List D} (F : NewL Ω f args n ds) (K : COk Ω Γ A) (amb : Amb A Γ.fs m) (hm : n ≤ m) (hf : EvP Ω Γ A ρ π (eval fe Γ.env) (.raw f)) (hk : keepIn Ω.K f = true)
    (a : ElP Ω Γ A ρ π (spliced (backTo pos (starEach es Γ.env))) args) (hW : ∀ a ∈ Γ.W, a ∈ adrs π) (hs : ((backTo pos (starEach es Γ.env)).any (·.1)) = false := by rfl) (hz : es = [] → args = [] := by first | (intro h; cases h; done) | (intro _; rfl))
    (he : eval (.Call fe es [] pos) Γ.env = (do callWith pos (← eval fe Γ.env) [] (backTo pos (starEach es Γ.env)) (backToKw pos (keywordEach [] Γ.env))) := by rfl) : EvP Ω Γ A ρ π (eval (.Call fe es [] pos) Γ.env) (.list ds) :=
  Ev.toP (Ev.freezeL (Ev.newLM F K amb hm hf hk a hs hz he) hW)

/-- a method with no arguments, of what an expression gives that may raise -/
theorem Ev.rowOf {o : Expr} {name : Str} {apos pos : Pos} {n m : Nat} {pl : Sem Bool} {Φo Φ' : D → Led → Prop} {Ψ : Addr → Led → Prop} (K : COk Ω Γ A) (amb : Amb A Γ.fs m) (hm : n ≤ m) (ho : Ev Ω Γ A ρ π (eval o Γ.env) Φo Ψ)
    (hk : ∀ d π', Φo d π' → ∃ C fs f r, InsD π' d C fs ∧ fs.lookup name = none ∧ MetOk Ω.K C name f ∧ FnP Ω (.ref f) [d] π' n r ∧ Φ' r π')
    (he : eval (.Call (.Attribute o name apos) [] [] pos) Γ.env = (do
      let ov ← eval o Γ.env
      standAt apos.atName
      let (f, first) ← holding [ov] (getMethod ov name pl)
      callWith pos f first (backTo pos (starEach [] Γ.env)) (backToKw pos (keywordEach [] Γ.env))) := by rfl) :
    Ev Ω Γ A ρ π (eval (.Call (.Attribute o name apos) [] [] pos) Γ.env) Φ' Ψ := by
  intro s G Q E R hQ hE
  refine methodCall_KW (pl := pl) (ho s G _ E R (fun v d π' G1 h1 tk1 hΦ R1 g1 r1 => ?_) hE) he
  obtain ⟨C, fs, f, r, i, hn, mo, F, hΦ'⟩ := hk d π' hΦ
  obtain ⟨x, dx, es', n', rfl, hx, hd, rf⟩ := i.at R1 r1
  refine method_fn (R1.kin K) (inst_at hx hd) (plainGet_of mo.get).1 (plainGet_of mo.get).2 mo.find mo.fn ?_ ?_
  · show (lookIn name (dictOf es' n')).map _ = _
    rw [lookIn_dict, rf.miss hn]; rfl
  refine callWith_of' (G := G1) (es := []) (ds := []) K mo.keep ElP.nil R1 (fun vs G2 h2 tk2 R2 g2 r2 => ?_) rfl (fun _ => rfl)
  refine call_of (G := G2) (π₂ := []) K (amb.mono hm) F (R2.perm (by rw [List.append_nil])) (.cons (r1.mono g2) r2) (fun v d π'' G3 h3 tk3 hΦ R3 g3 r3 => ?_) fun e c π' G3 h3 tk3 hΨ F3 g3 => hΨ.elim
  obtain ⟨rfl, rfl⟩ := hΦ
  rw [List.append_nil] at R3
  exact hQ v d π'' G3 h3 tk3 hΦ' R3 (g1.trans (g2.trans g3)) r3
end
end

section
open PySem PySem.Calls PySem.W PyProof.Rows PySem.Spec
theorem CScope.of {Γ : Ctx} {ρ ρc : Loc} {scope : Scope} {x : Str} {cn ns : List (Str × NameKind)} {f : D → Loc} (hn : Γ.names = ns) (hcn : relab ns scope.names = cn) (nd : (cn.map (·.1)).Nodup) (hcell : ∀ y ∈ scope.names, y.2 ≠ .cell) (hkind : scope.kind = .function)
    (hnames : ∀ y ∈ scope.names, y.2 = .local → scope.names.lookup y.1 = some .local) (c : Cap Γ ρ cn ρc) (hl : pureCn cn ρc = true) (put : Put cn ρc x .local f) : CScope Γ ρ scope x cn ρc f :=
  ⟨by rw [hn]; exact hcn, nd, hcell, hkind, hnames, c, hloc_of hl, put⟩
theorem amb_of {A : Around} {fs fs' : List Env} {n : Nat} (h : fs' = fs) (a : Amb A fs n) : Amb A fs' n := h ▸ a
theorem swapsOn {Ω : Wo} {Γ : Ctx} {A : Around} {elt : Expr} {gens : List Comprehension} {scope : Scope} {pos tp : Pos} {t : Str} {line : Nat} (K : COk Ω Γ A) (h : Γ.names.lookup t = some .local) (hb : ((tp.line == pos.line) && !(scope.names.any fun (n, k) => n == t && (k == .local || k == .cell))) = true) :
    swapsWith (.ListComp elt gens scope pos) (some (.Name t tp)) line Γ.env = pure true := by
  refine swaps_on K h ?_
  have : Γ.env.blockKind = .function := by
    unfold Env.blockKind
    rw [K.kind]
    split <;> rfl
  rw [this]
  exact hb
end

section
open PySem PySem.Calls PySem.W PyProof.Rows PySem.Spec
local macro_rules | `(tactic| fail "m_at") => `(tactic| (refine' At.of ?hh ?gg; (case hh => assumption); (case gg => fail "m_at2")))
local macro_rules | `(tactic| fail "m_put") => `(tactic| (refine' Put.of ?hh ?gg; (case hh => assumption); (case gg => fail "m_put2")))
local macro_rules | `(tactic| fail "m_at2") => `(tactic| first | exact At.here | (refine' At.there ?gg; (case gg => fail "m_at2")))
local macro_rules | `(tactic| fail "m_put2") => `(tactic| first | exact Put.here | (refine' Put.there ?gg; (case gg => fail "m_put2")))
local macro_rules | `(tactic| fail "m_lk") => `(tactic| (refine look_of (by assumption) ?_; rfl))
local macro_rules | `(tactic| fail "m_side") => `(tactic| first | with_reducible assumption | omega | decide | rfl | assumption | (simp; done) | (simp; omega))
local macro_rules | `(tactic| fail "m_mem") => `(tactic| first | exact List.Mem.head _ | (refine' List.Mem.tail _ ?gg; (case gg => fail "m_mem")))
local macro_rules | `(tactic| fail "m_lst") => `(tactic| first | exact LstD.fro _ | assumption | (refine' LstD.mu ?_; fail "m_mem"))
local macro_rules | `(tactic| fail "m_ins") => `(tactic| first | exact InsD.fro _ _ | assumption | (refine' InsD.mu ?_; fail "m_mem"))
local macro_rules | `(tactic| fail "m_name") => `(tactic| first
  | (refine' EvP.local ?mk ?ma; (case mk => assumption); (case ma => fail "m_at"))
  | (refine' EvP.cell ?mk ?ma; (case mk => assumption); (case ma => fail "m_at"))
  | fail "m_glob")
local macro_rules | `(tactic| fail "m_glob") => `(tactic| first
  | exact n_blt (by assumption) (by assumption) (by assumption) rfl rfl
  | exact n_MAX (by assumption) (by assumption) (by assumption) rfl)
local macro_rules | `(tactic| fail "m_ev") => `(tactic| first
  | with_reducible assumption
  | ((with_reducible show EvP _ _ _ _ _ (eval (Expr.Constant _ _ _) _) _); first | exact EvP.cint | exact EvP.cnone | exact EvP.cbool | exact EvP.cstr | exact EvP.cbytes)
  | ((with_reducible show EvP _ _ _ _ _ (eval (Expr.Name _ _) _) _); fail "m_name")
  | ((with_reducible show EvP _ _ _ _ _ (eval (Expr.UnaryOp UnaryOp.USub _ _) _) _); (refine' EvP.neg ?mx; (case mx => fail "m_ev")))
  | ((with_reducible show EvP _ _ _ _ _ (eval (Expr.BinOp _ Operator.Sub _ _) _) _); (refine' EvP.sub ?mx ?my; (case mx => fail "m_ev"); (case my => fail "m_ev")))
  | ((with_reducible show EvP _ _ _ _ _ (eval (Expr.BinOp _ Operator.Add _ _) _) _); first | (refine' EvP.add ?mx ?my; (case mx => fail "m_ev"); (case my => fail "m_ev")) | (refine' EvP.addL ?mx ?ml ?my ?mk ?mz; (case mx => fail "m_ev"); (case ml => fail "m_lst"); (case my => fail "m_ev"); (case mk => fail "m_lst"); (case mz => fail "m_side")))
  | ((with_reducible show EvP _ _ _ _ _ (eval (Expr.BinOp _ Operator.Mult _ _) _) _); first | (refine' EvP.mul ?mx ?my ?mz; (case mx => fail "m_ev"); (case my => fail "m_ev"); (case mz => fail "m_side")))
  | ((with_reducible show EvP _ _ _ _ _ (eval (Expr.BinOp _ Operator.Mod _ _) _) _); (refine' EvP.fmod ?mx ?my ?mz; (case mx => fail "m_ev"); (case my => fail "m_ev"); (case mz => fail "m_side")))
  | ((with_reducible show EvP _ _ _ _ _ (eval (Expr.BinOp _ Operator.FloorDiv _ _) _) _); (refine' EvP.fdiv ?mx ?my ?mz ?mw; (case mx => fail "m_ev"); (case my => fail "m_ev"); (case mz => fail "m_side"); (case mw => fail "m_side")))
  | ((with_reducible show EvP _ _ _ _ _ (eval (Expr.Call (Expr.Name _ _) [_] [] _) _) _); first | (refine' EvP.lenL ?mk ?mf ?mx ?ml ?mz; (case mk => assumption); (case mf => fail "m_glob"); (case mx => fail "m_ev"); (case ml => fail "m_lst"); (case mz => fail "m_side")) | (refine' EvP.lenB ?mk ?mf ?mx ?mz; (case mk => assumption); (case mf => fail "m_glob"); (case mx => fail "m_ev"); (case mz => fail "m_side")) | (refine' EvP.tupleL ?mf ?mx ?ml ?mz; (case mf => fail "m_glob"); (case mx => fail "m_ev"); (case ml => fail "m_lst"); (case mz => fail "m_side")))
  | ((with_reducible show EvP _ _ _ _ _ (eval (Expr.Call (Expr.Name _ _) _ [] _) _) _); (refine' EvP.call0 ?mF ?mk ?mb ?mm ?mf ?mq ?ma; (case mk => assumption); (case mb => assumption); (case mf => fail "m_own"); (case ma => fail "m_el"); (case mF => assumption); (case mm => omega); (case mq => fail "m_keep")))
  | ((with_reducible show EvP _ _ _ _ _ (eval (Expr.Call (Expr.Name _ _) _ [] _) _) _); (refine' EvP.new ?mF ?mk ?mb ?mm ?mf ?mq ?ma ?mw; (case mk => assumption); (case mb => assumption); (case mf => fail "m_own"); (case ma => fail "m_el"); (case mF => assumption); (case mm => omega); (case mq => fail "m_keep"); (case mw => fail "m_W")))
  | ((with_reducible show EvP _ _ _ _ _ (eval (Expr.Call (Expr.Name _ _) _ [] _) _) _); (refine' EvP.newL ?mF ?mk ?mb ?mm ?mf ?mq ?ma ?mw; (case mk => assumption); (case mb => assumption); (case mf => fail "m_own"); (case ma => fail "m_el"); (case mF => assumption); (case mm => omega); (case mq => fail "m_keep"); (case mw => fail "m_W")))
  | ((with_reducible show EvP _ _ _ _ _ (eval (Expr.Call (Expr.Attribute _ _ _) _ [] _) _) _); (refine' EvP.meth0 ?mF ?mk ?mb ?mm ?mo ?mi ?mn ?mt ?ma; (case mk => assumption); (case mb => assumption); (case mo => fail "m_ev"); (case mi => fail "m_ins"); (case mn => exact rfl); (case mt => fail "m_met"); (case ma => fail "m_el"); (case mF => assumption); (case mm => omega)))
  | ((with_reducible show EvP _ _ _ _ _ (eval (Expr.Subscript _ (Expr.Slice _ _ none _) _) _) _); first | (refine' EvP.sliceL ?mx ?ml ?mlo ?mhi ?mz; (case mx => fail "m_ev"); (case ml => fail "m_lst"); (case mlo => fail "m_pt"); (case mhi => fail "m_pt"); (case mz => fail "m_side")))
  | ((with_reducible show EvP _ _ _ _ _ (eval (Expr.Subscript _ _ _) _) _); first | (refine' EvP.idxT ?mx ?my ?mj ?me ?m0 ?mz; (case mx => fail "m_ev"); (case my => fail "m_ev"); (case mj => exact rfl); (case me => exact rfl); (case m0 => decide); (case mz => decide)) | (refine' EvP.idxL ?mx ?ml ?my ?m0 ?me ?mz; (case mx => fail "m_ev"); (case ml => fail "m_lst"); (case my => fail "m_ev"); (case me => first | with_reducible assumption | assumption | exact rfl); (case m0 => fail "m_side"); (case mz => fail "m_side")))
  | ((with_reducible show EvP _ _ _ _ _ (eval (Expr.Attribute _ _ _) _) _); (refine' EvP.attr ?mk ?mx ?mi ?ml ?mg ?mh; (case mk => assumption); (case mx => fail "m_ev"); (case mi => fail "m_ins"); (case ml => exact rfl); (case mg => fail "m_get"); (case mh => exact trivial)))
  | ((with_reducible show EvP _ _ _ _ _ (eval (Expr.List _ _) _) _); (refine' EvP.list ?mx ?mz; (case mx => fail "m_el"); (case mz => fail "m_side")))
  | ((with_reducible show EvP _ _ _ _ _ (eval (Expr.Tuple _ _ _) _) _); (refine' EvP.tup ?mx ?mz; (case mx => fail "m_el"); (case mz => fail "m_side")))
  | ((with_reducible show EvP _ _ _ _ _ (eval (Expr.IfExp _ _ _ _) _) _); (refine' EvP.ite ?mt ?mx ?my; (case mt => fail "m_ts"); (case mx => intro _; fail "m_ev"); (case my => intro _; fail "m_ev"))))
local macro_rules | `(tactic| fail "m_el") => `(tactic| first
  | exact ElP.nil
  | (refine' ElP.cons ?mx ?my; (case mx => fail "m_ev"); (case my => fail "m_el")))
local macro_rules | `(tactic| fail "m_pt") => `(tactic| first
  | exact PtP.none
  | (refine' PtP.some ?mx; (case mx => fail "m_ev")))
local macro_rules | `(tactic| fail "m_get") => `(tactic| exact getH (by assumption) rfl)
local macro_rules | `(tactic| fail "m_set") => `(tactic| exact setH (by assumption) rfl)
local macro_rules | `(tactic| fail "m_cmp") => `(tactic| first
  | exact fun _ => CmpP.lt
  | exact fun _ => CmpP.le
  | exact fun _ => CmpP.gt
  | exact fun _ => CmpP.ge
  | exact fun _ => CmpP.eq
  | exact fun _ => CmpP.ne)
local macro_rules | `(tactic| fail "m_ts") => `(tactic| first
  | with_reducible assumption
  | ((with_reducible show TsP _ _ _ _ _ (PySem.isTrue (Expr.Compare _ [_] [_] _) _ _) _); (refine' TsP.cmp ?mx ?my ?mz; (case mx => fail "m_ev"); (case my => fail "m_ev"); (case mz => fail "m_cmp")))
  | ((with_reducible show TsP _ _ _ _ _ (PySem.isTrue (Expr.UnaryOp UnaryOp.Not _ _) _ _) _); (refine' TsP.not ?mx; (case mx => fail "m_ts")))
  | ((with_reducible show TsP _ _ _ _ _ (PySem.isTrue (Expr.BoolOp BoolOp.And [_, _] _) _ _) _); (refine' TsP.and2 ?mx ?my; (case mx => fail "m_ts"); (case my => intro _; fail "m_ts")))
  | ((with_reducible show TsP _ _ _ _ _ (PySem.isTrue (Expr.BoolOp BoolOp.Or [_, _] _) _ _) _); (refine' TsP.or2 ?mx ?my; (case mx => fail "m_ts"); (case my => intro _; fail "m_ts")))
  | (refine' TsP.listT ?mx ?ml ?mz; (case mx => fail "m_ev"); (case ml => fail "m_lst"); (case mz => fail "m_side")))
local macro_rules | `(tactic| fail "m_own") => `(tactic| exact n_own (by assumption) (by assumption) (by assumption) rfl rfl)
local macro_rules | `(tactic| fail "m_keep") => `(tactic| exact ownK (by assumption) rfl)
local macro_rules | `(tactic| fail "m_met") => `(tactic| exact metH (by assumption) rfl)
local macro_rules | `(tactic| fail "m_W") => `(tactic| first
  | assumption
  | (intro a ha; simp_all [adrs, MO.adr]; done))
local macro_rules | `(tactic| fail "m_sets") => `(tactic| (refine' Ex.cons (Ex.assignAttr (πa := []) (πb := _) ?mk ?mv ?mo ?mg ?mz ?mq); (case mk => assumption); (case mv => fail "m_ev"); (case mo => fail "m_ev"); (case mg => fail "m_set"); (case mz => exact Nat.le_of_ble_eq_true rfl); (show Ex _ _ _ _ (_ :: _) _ _ _)))
local macro_rules | `(tactic| fail "m_gx") => `(tactic| exact excG (by assumption) rfl)
local macro_rules | `(tactic| fail "m_xx") => `(tactic| exact excX (by assumption) rfl)
local macro_rules | `(tactic| fail "m_tx") => `(tactic| (refine' TxP.join ?mj; (case mj => fail "m_jn")))
local macro_rules | `(tactic| fail "m_jn") => `(tactic| first
  | exact JnP.nil
  | (refine' JnP.cons ?mp ?mq; (case mp => fail "m_part"); (case mq => fail "m_jn")))
local macro_rules | `(tactic| fail "m_part") => `(tactic| first
  | exact TxP.const (Nat.le_of_ble_eq_true rfl)
  | (refine' TxP.int ?mp ?mq; (case mp => fail "m_ev"); (case mq => first | with_reducible assumption | omega)))
local macro_rules | `(tactic| fail "m_raise") => `(tactic| (refine' Ex.cons (Ex.raise ?mk ?mh ?ml ?me ?mx ?ma ?mq); (case mk => assumption); (case mh => exact Amb.handled (by assumption)); (case ml => exact look_of (by assumption) rfl); (case me => fail "m_gx"); (case mx => fail "m_xx"); (case ma => fail "m_tx")))
local macro_rules | `(tactic| fail "m_cap") => `(tactic| first
  | exact Cap.nil
  | (refine' Cap.skip ?ma ?mb ?mc; (case ma => decide); (case mb => decide); (case mc => fail "m_cap"))
  | (refine' Cap.take ?mk ?ma ?mc; (case mk => exact Or.inl rfl); (case ma => fail "m_at"); (case mc => fail "m_cap")))
local macro_rules | `(tactic| fail "m_scope") => `(tactic| (refine' CScope.of ?mn ?ma ?mb ?mc ?md ?me ?mf ?mg ?mh; (case mn => assumption); (case ma => exact rfl); (case mb => decide); (case mc => decide); (case md => exact rfl); (case me => decide); (case mf => fail "m_cap"); (case mg => exact rfl); (case mh => fail "m_put2")))

section
open PySem PySem.Calls PySem.W PyProof.Rows PySem.Spec
structure Row where
  t : Int
  i : Int
  k : Int
  b : List UInt8
noncomputable def Row.f (r : Row) : List (Str × D) := [("term", .int r.t), ("index", .int r.i), ("kind", .int r.k), ("data", .bytes r.b.toArray)]
noncomputable def Row.ent (r : Row) : D := .inst 201 r.f
noncomputable def Row.tup (r : Row) : D := .tup [.int r.t, .int r.i, .int r.k, .bytes r.b.toArray]
noncomputable def hardF (t v c : Int) : List (Str × D) := [("term", .int t), ("vote", .int v), ("commit", .int c)]
noncomputable def hardR (t v c : Int) : D := .tup [.int t, .int v, .int c]
noncomputable def intsD (vs : List Int) : List D := vs.map .int
noncomputable def confF (vs : List Int) : List (Str × D) := [("voters", .list (intsD vs)), ("learners", .list []), ("outgoing", .list []), ("learners_next", .list []), ("auto_leave", .bool false)]
noncomputable def confR (vs : List Int) : D := .tup [.tup (intsD vs), .tup [], .tup [], .tup [], .bool false]
noncomputable def snapF (i t : Int) (vs : List Int) (b : List UInt8) : List (Str × D) := [("index", .int i), ("term", .int t), ("conf", .inst 292 (confF vs)), ("data", .bytes b.toArray)]
noncomputable def snapR (i t : Int) (vs : List Int) (b : List UInt8) : D := .tup [.int i, .int t, confR vs, .bytes b.toArray]

section
variable {Ω : Wo}
theorem fn_Entry_init (H : Here Ω) {x dx : Addr} (r : Row) : Fn Ω (.ref 170) [.raw (.ref x), .int r.t, .int r.i, .int r.k, .bytes r.b.toArray] [(x, .inst 201 dx [])] 1 (fun d π' => d = .none ∧ π' = [(x, .inst 201 dx r.f)]) (fun _ _ => False) := by
  obtain ⟨P, hP⟩ := id H.k
  refine Fn.of_def (f := 170) (n := 0) (name := (fm 18 0).name) (qual := "Entry.__init__") (params := (fm 18 0).params) (body := (fm 18 0).body) (scope := (fm 18 0).scope) (dV := .none) (kV := .none) (doc := .none) (pm := (.str "raftkeep.messages" 372)) (an := .none) (cdv := (.ref 169)) (ct := .none) (oc := .type "function") (od := .none) (osl := #[]) ["self", "term", "index", "kind", "data"] [("self", NameKind.local), ("term", NameKind.local), ("index", NameKind.local), ("kind", NameKind.local), ("data", NameKind.local)] (by rw [hP]; kernel_rfl) (by rw [hP]; kernel_rfl) (fun vs hvs => ?_) rfl (by kernel_rfl) rfl rfl (by decide) (by kernel_rfl) (by kernel_rfl) (by kernel_rfl) fun Γ A B => ?_
  · match vs, hvs with
    | [a0, a1, a2, a3, a4], _ => kernel_rfl
  have K := B.ok
  have hn := B.nms
  have amb := B.amb
  have hW := B.W
  have O : Own Γ := ⟨B.own⟩
  show Ex _ _ _ [some _, some _, some _, some _, some _] _ _ _ _
  fail "m_sets"
  fail "m_sets"
  fail "m_sets"
  fail "m_sets"
  exact Ex.nil ⟨rfl, rfl⟩
theorem fn_Entry (H : Here Ω) (r : Row) : NewI Ω 201 [.int r.t, .int r.i, .int r.k, .bytes r.b.toArray] 2 r.f :=
  Fn.of_class (Φ := fun x dx π' => π' = [(x, .inst 201 dx r.f)]) (mk_Entry H) (ini_Entry H) (inf_Entry H) fun x dx => fn_Entry_init H r
theorem fn_Entry_row (H : Here Ω) {π : Led} {d : D} (r : Row) (i : InsD π d 201 r.f) : FnP Ω (.ref 177) [d] π 1 r.tup := by
  obtain ⟨P, hP⟩ := id H.k
  refine Fn.of_def (f := 177) (n := 0) (name := (fm 18 1).name) (qual := "Entry.row") (params := (fm 18 1).params) (body := (fm 18 1).body) (scope := (fm 18 1).scope) (dV := .none) (kV := .none) (doc := .none) (pm := (.str "raftkeep.messages" 372)) (an := .none) (cdv := (.ref 176)) (ct := .none) (oc := .type "function") (od := .none) (osl := #[]) ["self"] [("self", NameKind.local)] (by rw [hP]; kernel_rfl) (by rw [hP]; kernel_rfl) (fun vs hvs => ?_) rfl (by kernel_rfl) rfl rfl (by decide) (by kernel_rfl) (by kernel_rfl) (by kernel_rfl) fun Γ A B => ?_
  · match vs, hvs with
    | [a0], _ => kernel_rfl
  have K := B.ok
  have hn := B.nms
  have amb := B.amb
  have hW := B.W
  have O : Own Γ := ⟨B.own⟩
  show Ex _ _ _ [some _] _ _ _ _
  exact Ex.cons (Ex.retP (by fail "m_ev") ⟨rfl, rfl⟩)
theorem fn_Hard_init (H : Here Ω) {x dx : Addr} (t v c : Int) : Fn Ω (.ref 226) [.raw (.ref x), .int t, .int v, .int c] [(x, .inst 257 dx [])] 1 (fun d π' => d = .none ∧ π' = [(x, .inst 257 dx (hardF t v c))]) (fun _ _ => False) := by
  obtain ⟨P, hP⟩ := id H.k
  refine Fn.of_def (f := 226) (n := 0) (name := (fm 20 0).name) (qual := "HardState.__init__") (params := (fm 20 0).params) (body := (fm 20 0).body) (scope := (fm 20 0).scope) (dV := .none) (kV := .none) (doc := .none) (pm := (.str "raftkeep.messages" 372)) (an := .none) (cdv := (.ref 225)) (ct := .none) (oc := .type "function") (od := .none) (osl := #[]) ["self", "term", "vote", "commit"] [("self", NameKind.local), ("term", NameKind.local), ("vote", NameKind.local), ("commit", NameKind.local)] (by rw [hP]; kernel_rfl) (by rw [hP]; kernel_rfl) (fun vs hvs => ?_) rfl (by kernel_rfl) rfl rfl (by decide) (by kernel_rfl) (by kernel_rfl) (by kernel_rfl) fun Γ A B => ?_
  · match vs, hvs with
    | [a0, a1, a2, a3], _ => kernel_rfl
  have K := B.ok
  have hn := B.nms
  have amb := B.amb
  have hW := B.W
  have O : Own Γ := ⟨B.own⟩
  show Ex _ _ _ [some _, some _, some _, some _] _ _ _ _
  fail "m_sets"
  fail "m_sets"
  fail "m_sets"
  exact Ex.nil ⟨rfl, rfl⟩
theorem fn_Hard (H : Here Ω) (t v c : Int) : NewI Ω 257 [.int t, .int v, .int c] 2 (hardF t v c) :=
  Fn.of_class (Φ := fun x dx π' => π' = [(x, .inst 257 dx (hardF t v c))]) (mk_HardState H) (ini_HardState H) (inf_HardState H) fun x dx => fn_Hard_init H t v c
theorem fn_Hard_row (H : Here Ω) {π : Led} {d : D} {t v c : Int} (i : InsD π d 257 (hardF t v c)) : FnP Ω (.ref 233) [d] π 1 (hardR t v c) := by
  obtain ⟨P, hP⟩ := id H.k
  refine Fn.of_def (f := 233) (n := 0) (name := (fm 20 1).name) (qual := "HardState.row") (params := (fm 20 1).params) (body := (fm 20 1).body) (scope := (fm 20 1).scope) (dV := .none) (kV := .none) (doc := .none) (pm := (.str "raftkeep.messages" 372)) (an := .none) (cdv := (.ref 232)) (ct := .none) (oc := .type "function") (od := .none) (osl := #[]) ["self"] [("self", NameKind.local)] (by rw [hP]; kernel_rfl) (by rw [hP]; kernel_rfl) (fun vs hvs => ?_) rfl (by kernel_rfl) rfl rfl (by decide) (by kernel_rfl) (by kernel_rfl) (by kernel_rfl) fun Γ A B => ?_
  · match vs, hvs with
    | [a0], _ => kernel_rfl
  have K := B.ok
  have hn := B.nms
  have amb := B.amb
  have hW := B.W
  have O : Own Γ := ⟨B.own⟩
  show Ex _ _ _ [some _] _ _ _ _
  exact Ex.cons (Ex.retP (by fail "m_ev") ⟨rfl, rfl⟩)
theorem fn_Hard_copy (H : Here Ω) {π : Led} {d : D} {t v c : Int} (i : InsD π d 257 (hardF t v c)) : Fn Ω (.ref 254) [d] π 3 (fun d π' => ∃ x dx, d = .raw (.ref x) ∧ π' = (x, .inst 257 dx (hardF t v c)) :: π) (fun _ _ => False) := by
  obtain ⟨P, hP⟩ := id H.k
  refine Fn.of_def (f := 254) (n := 2) (name := (fm 20 4).name) (qual := "HardState.copy") (params := (fm 20 4).params) (body := (fm 20 4).body) (scope := (fm 20 4).scope) (dV := .none) (kV := .none) (doc := .none) (pm := (.str "raftkeep.messages" 372)) (an := .none) (cdv := (.ref 253)) (ct := .none) (oc := .type "function") (od := .none) (osl := #[]) ["self"] [("self", NameKind.local), ("HardState", NameKind.globalImplicit)] (by rw [hP]; kernel_rfl) (by rw [hP]; kernel_rfl) (fun vs hvs => ?_) rfl (by kernel_rfl) rfl rfl (by decide) (by kernel_rfl) (by kernel_rfl) (by kernel_rfl) fun Γ A B => ?_
  · match vs, hvs with
    | [a0], _ => kernel_rfl
  have K := B.ok
  have hn := B.nms
  have amb := B.amb
  have hW := B.W
  have O : Own Γ := ⟨B.own⟩
  show Ex _ _ _ [some _, none] _ _ _ _
  exact Ex.cons (Ex.ret (Ev.newM (fn_Hard H t v c) K amb (Nat.le_refl _) (n_HardState H K hn rfl) (k_HardState H) (by fail "m_el")))
theorem fn_Conf_row (H : Here Ω) {π : Led} {d : D} {vs : List Int} (hz : vs.length ≤ 1000) (i : InsD π d 292 (confF vs)) : FnP Ω (.ref 282) [d] π 1 (confR vs) := by
  obtain ⟨P, hP⟩ := id H.k
  refine Fn.of_def (f := 282) (n := 0) (name := (fm 21 1).name) (qual := "ConfState.row") (params := (fm 21 1).params) (body := (fm 21 1).body) (scope := (fm 21 1).scope) (dV := .none) (kV := .none) (doc := .none) (pm := (.str "raftkeep.messages" 372)) (an := .none) (cdv := (.ref 281)) (ct := .none) (oc := .type "function") (od := .none) (osl := #[]) ["self"] [("self", NameKind.local), ("tuple", NameKind.globalImplicit)] (by rw [hP]; kernel_rfl) (by rw [hP]; kernel_rfl) (fun vs hvs => ?_) rfl (by kernel_rfl) rfl rfl (by decide) (by kernel_rfl) (by kernel_rfl) (by kernel_rfl) fun Γ A B => ?_
  · match vs, hvs with
    | [a0], _ => kernel_rfl
  have K := B.ok
  have hn := B.nms
  have amb := B.amb
  have hW := B.W
  have O : Own Γ := ⟨B.own⟩
  show Ex _ _ _ [some _, none] _ _ _ _
  have h1 : (intsD vs).length ≤ 1000 := by rw [intsD, List.length_map]; exact hz
  exact Ex.cons (Ex.retP (by fail "m_ev") ⟨rfl, rfl⟩)
theorem fn_Snap_init (H : Here Ω) {x dx : Addr} (i t : Int) (vs : List Int) (b : List UInt8) : Fn Ω (.ref 310) [.raw (.ref x), .int i, .int t, .inst 292 (confF vs), .bytes b.toArray] [(x, .inst 334 dx [])] 1 (fun d π' => d = .none ∧ π' = [(x, .inst 334 dx (snapF i t vs b))]) (fun _ _ => False) := by
  obtain ⟨P, hP⟩ := id H.k
  refine Fn.of_def (f := 310) (n := 0) (name := (fm 22 0).name) (qual := "Snapshot.__init__") (params := (fm 22 0).params) (body := (fm 22 0).body) (scope := (fm 22 0).scope) (dV := .none) (kV := .none) (doc := .none) (pm := (.str "raftkeep.messages" 372)) (an := .none) (cdv := (.ref 309)) (ct := .none) (oc := .type "function") (od := .none) (osl := #[]) ["self", "index", "term", "conf", "data"] [("self", NameKind.local), ("index", NameKind.local), ("term", NameKind.local), ("conf", NameKind.local), ("data", NameKind.local)] (by rw [hP]; kernel_rfl) (by rw [hP]; kernel_rfl) (fun vs hvs => ?_) rfl (by kernel_rfl) rfl rfl (by decide) (by kernel_rfl) (by kernel_rfl) (by kernel_rfl) fun Γ A B => ?_
  · match vs, hvs with
    | [a0, a1, a2, a3, a4], _ => kernel_rfl
  have K := B.ok
  have hn := B.nms
  have amb := B.amb
  have hW := B.W
  have O : Own Γ := ⟨B.own⟩
  show Ex _ _ _ [some _, some _, some _, some _, some _] _ _ _ _
  fail "m_sets"
  fail "m_sets"
  fail "m_sets"
  fail "m_sets"
  exact Ex.nil ⟨rfl, rfl⟩
theorem fn_Snap (H : Here Ω) (i t : Int) (vs : List Int) (b : List UInt8) : NewI Ω 334 [.int i, .int t, .inst 292 (confF vs), .bytes b.toArray] 2 (snapF i t vs b) :=
  Fn.of_class (Φ := fun x dx π' => π' = [(x, .inst 334 dx (snapF i t vs b))]) (mk_Snapshot H) (ini_Snapshot H) (inf_Snapshot H) fun x dx => fn_Snap_init H i t vs b
end
end

section
open PySem PySem.Calls PySem.W PyProof.Rows PySem.Spec
theorem sorted_is {ns : List Int} (h : ns.Pairwise (· < ·)) : ∀ l' : List Int, l'.Perm ns → l'.Pairwise (· ≤ ·) → l' = ns := fun l' p hl =>
  List.Perm.eq_of_pairwise (le := (· ≤ ·)) (fun a b _ _ h1 h2 => Int.le_antisymm h1 h2) hl (h.imp fun h => Int.le_of_lt h) p
theorem take_ints {ns : List Int} {i : Nat} {v : Int} (h : ns[i]? = some v) : intsD (ns.take (i + 1)) = intsD (ns.take i) ++ [.int v] := by
  rw [List.take_add_one, h]; simp [intsD]
/-- the width of a varint -/
noncomputable def vl (n : Nat) : Nat := if n < 128 then 1 else vl (n / 128) + 1
termination_by n
decreasing_by omega
theorem vl_small {n : Nat} (h : n < 128) : vl n = 1 := by rw [vl, if_pos h]
theorem vl_big {n : Nat} (h : ¬ n < 128) : vl n = vl (n / 128) + 1 := by rw [vl, if_neg h]
noncomputable def Row.size (r : Row) : Int := vl r.t.toNat + vl r.i.toNat + vl r.k.toNat + vl r.b.length + r.b.length
structure Row.Ok (r : Row) : Prop where
  t : 0 ≤ r.t ∧ r.t ≤ 1000000
  i : 0 ≤ r.i ∧ r.i ≤ 1000000
  k : 0 ≤ r.k ∧ r.k ≤ 1000000
  b : r.b.length ≤ 1000
/-- how far a page goes -/
noncomputable def lim (n : Int) : List Row → Int → List Row → List Row
  | [], _, kept => kept
  | r :: rs, tot, kept => if kept ≠ [] ∧ n < tot + r.size then kept else lim n rs (tot + r.size) (kept ++ [r])

theorem TsP.cast {Ω : Wo} {Γ : Ctx} {A : Around} {ρ : Loc} {π : Led} {t : Sem Bool} {c c' : Bool} (h : TsP Ω Γ A ρ π t c) (e : c = c') : TsP Ω Γ A ρ π t c' := e ▸ h
theorem EvP.cast {Ω : Wo} {Γ : Ctx} {A : Around} {ρ : Loc} {π : Led} {t : Sem Value} {d d' : D} (h : EvP Ω Γ A ρ π t d) (e : d = d') : EvP Ω Γ A ρ π t d' := e ▸ h
section
variable {Ω : Wo}
theorem fn_rising (H : Here Ω) {ns : List Int} (hs : ns.Pairwise (· < ·)) (hz : ns.length < 64) : NewL Ω (.ref 156) [.list (intsD ns)] 1 (intsD ns) := by
  obtain ⟨P, hP⟩ := id H.k
  refine Fn.of_def (f := 156) (n := 0) (name := (ft 17).name) (qual := "rising") (params := (ft 17).params) (body := (ft 17).body) (scope := (ft 17).scope) (dV := .none) (kV := .none) (doc := .none) (pm := (.str "raftkeep.messages" 372)) (an := .none) (cdv := (.ref 155)) (ct := .none) (oc := .type "function") (od := .none) (osl := #[]) ["ids"] [("ids", NameKind.local), ("out", NameKind.local), ("nid", NameKind.local), ("sorted", NameKind.globalImplicit)] (by rw [hP]; kernel_rfl) (by rw [hP]; kernel_rfl) (fun vs hvs => ?_) rfl (by kernel_rfl) rfl rfl (by decide) (by kernel_rfl) (by kernel_rfl) (by kernel_rfl) fun Γ A B => ?_
  · match vs, hvs with
    | [a0], _ => kernel_rfl
  have K := B.ok
  have hn := B.nms
  have amb := B.amb
  have hW := B.W
  have O : Own Γ := ⟨B.own⟩
  show Ex _ _ _ [some _, none, none, none] _ _ _ _
  refine Ex.cons (Ex.assign K (Ev.listM (by fail "m_el")) (.loc (by fail "m_put")) ?_)
  rintro _ _ ⟨a, rfl, rfl⟩
  show Ex _ _ _ [some _, some _, none, none] [(a, .list [])] _ _ _
  refine Ex.seq (fun ρ π => ∃ n, ρ = [some (.list (intsD ns)), some (.raw (.ref a)), n, none] ∧ π = [(a, .list (intsD ns))])
    (Ex.forIn (fun i ρ π => ∃ n, ρ = [some (.list (intsD ns)), some (.raw (.ref a)), n, none] ∧ π = [(a, .list (intsD (ns.take i)))]) O K
      (SrcP.list amb.handled (EvP.sorted (ns := ns) (ns' := ns) K (by fail "m_glob") (by fail "m_ev") (.fro _) hz (sorted_is hs)) (.fro _)) ?hok ?turn ?done ⟨_, rfl, rfl⟩) ?_
  case hok => exact fun v G G' i ρ' π' it o h g _ => ⟨h.1.mono g, .fro _⟩
  case done =>
    rintro ρ' π' ⟨n, rfl, rfl⟩
    exact ⟨n, rfl, by rw [List.length_map, List.take_length]⟩
  case turn =>
    rintro i d ρ' π' it o hd ⟨n, rfl, rfl⟩
    rw [List.getElem?_map] at hd
    obtain ⟨v, hv, rfl⟩ : ∃ v, ns[i]? = some v ∧ D.int v = d := by
      cases q : ns[i]? with
      | none => rw [q] at hd; cases hd
      | some v => rw [q] at hd; exact ⟨v, rfl, Option.some.inj hd⟩
    refine ⟨_, .loc (by fail "m_put"), ?_⟩
    show Ex _ _ _ [some _, some _, some (.int v), none] [(it, .obj o), (a, .list _)] _ _ _
    have hlen0 : (intsD (ns.take i)).length ≤ 1000 := by rw [intsD, List.length_map, List.length_take]; omega
    have hlen : (intsD (ns.take i)).length ≤ 1000000 := by omega
    have l : LstD [(it, .obj o), (a, MO.list (intsD (ns.take i)))] (.raw (.ref a)) (intsD (ns.take i)) := .mu (.tail _ (.head _))
    have hn0 : (intsD (ns.take i)).isEmpty = false → ∃ w, (intsD (ns.take i))[((-1 : Int) + ((intsD (ns.take i)).length : Int)).toNat]? = some (.int w) ∧ w < v ∧ -((intsD (ns.take i)).length : Int) ≤ -1 := fun q => by
      have hi : i < ns.length := (List.getElem?_eq_some_iff.mp hv).1
      have e1 : (intsD (ns.take i)).length = i := by rw [intsD, List.length_map, List.length_take]; omega
      have e2 : i ≠ 0 := by
        rintro rfl
        simp [intsD] at q
      have e3 : ((-1 : Int) + (i : Int)).toNat = i - 1 := by omega
      rw [e1, e3]
      refine ⟨ns[i - 1]'(by omega), ?_, ?_, by omega⟩
      · rw [intsD, List.getElem?_map, List.getElem?_take, if_pos (by omega), List.getElem?_eq_getElem (by omega)]; rfl
      · have := List.pairwise_iff_getElem.mp hs (i - 1) i (by omega) hi (by omega)
        rw [(List.getElem?_eq_some_iff.mp hv).2] at this
        exact this
    refine Ex.cons (Ex.ite (c := true) ?ht (fun _ => ?hb) (fun h => by cases h))
    case ht =>
      cases q : (intsD (ns.take i)).isEmpty with
      | true =>
        refine TsP.or2 (c := true) (d := true) (TsP.not (c := false) ?_) (fun h => by cases h)
        exact TsP.cast (TsP.listT (EvP.local K (by fail "m_at")) l hlen) (by rw [q]; rfl)
      | false =>
        obtain ⟨w, hw, hlt, hge⟩ := hn0 q
        have t2 : (w != v) = true := by simp; omega
        refine TsP.cast (TsP.or2 (c := false) (TsP.not (c := true) ?_) (fun _ => TsP.cmp (EvP.idxLneg (k := -1) (EvP.local K (by fail "m_at")) l (EvP.neg EvP.cint) (by decide) hge hw (by decide)) (by fail "m_ev") fun _ => CmpP.ne)) (by rw [t2]; rfl)
        exact TsP.cast (TsP.listT (EvP.local K (by fail "m_at")) l hlen) (by rw [q]; rfl)
    case hb =>
      refine Ex.cons (Ex.expr (Ev.append (πa := [(it, .obj o)]) (πb := []) (by fail "m_ev") (by fail "m_ev") (by omega)) ?_ K.quiet)
      rintro _ _ ⟨rfl, rfl⟩
      refine Ex.nil (Ex.nil ⟨[(a, .list (intsD (ns.take (i + 1))))], ?_, _, rfl, rfl⟩)
      rw [take_ints hv]
      exact .refl _
  rintro _ _ ⟨n, rfl, rfl⟩
  exact Ex.cons (Ex.retP (by fail "m_ev") ⟨a, rfl, rfl⟩)
end
end

section
open PySem PySem.Calls PySem.W PyProof.Rows PySem.Spec
theorem fdiv_128 (k : Nat) : (k : Int).fdiv (2 ^ (7 : Int).toNat) = ((k / 128 : Nat) : Int) := by
  have : (2 : Int) ^ (7 : Int).toNat = 128 := by decide
  rw [this, Int.fdiv_eq_ediv_of_nonneg _ (by decide)]
  rfl
section
variable {Ω : Wo}
theorem fn_varint (H : Here Ω) {n : Nat} (hn0 : n ≤ 18446744073709551615) : FnP Ω (.ref 149) [.int n] [] 1 (.int (vl n)) := by
  obtain ⟨P, hP⟩ := id H.k
  refine Fn.of_def (f := 149) (n := 0) (name := (ft 14).name) (qual := "varint_length") (params := (ft 14).params) (body := (ft 14).body) (scope := (ft 14).scope) (dV := .none) (kV := .none) (doc := .none) (pm := (.str "raftkeep.octets" 360)) (an := .none) (cdv := (.ref 148)) (ct := .none) (oc := .type "function") (od := .none) (osl := #[]) ["n"] [("n", NameKind.local), ("count", NameKind.local), ("MAX_64", NameKind.globalImplicit), ("BadOption", NameKind.globalImplicit)] (by rw [hP]; kernel_rfl) (by rw [hP]; kernel_rfl) (fun vs hvs => ?_) rfl (by kernel_rfl) rfl rfl (by decide) (by kernel_rfl) (by kernel_rfl) (by kernel_rfl) fun Γ A B => ?_
  · match vs, hvs with
    | [a0], _ => kernel_rfl
  have K := B.ok
  have hn := B.nms
  have amb := B.amb
  have hW := B.W
  have O : Own Γ := ⟨B.own⟩
  show Ex _ _ _ [some _, none, none, none] _ _ _ _
  refine Ex.cons (Ex.ite (c := false) (TsP.cast (by fail "m_ts") (by simp; omega)) (fun h => by cases h) (fun _ => Ex.nil ?_))
  show Ex _ _ _ [some _, none, none, none] [] _ _ _
  refine Ex.cons (Ex.assignP K (by fail "m_ev") (.loc (by fail "m_put")) ?_)
  show Ex _ _ _ [some _, some (.int 1), none, none] [] _ _ _
  refine Ex.seq (fun ρ π => ∃ k : Int, ρ = [some (.int k), some (.int (vl n)), none, none] ∧ π = [])
    (Ex.while (fun m ρ π => ∃ (k : Nat) (c : Int), ρ = [some (.int k), some (.int c), none, none] ∧ π = [] ∧ m = k ∧ c + vl k = 1 + vl n) O K ?turn n ⟨n, 1, rfl, rfl, rfl, rfl⟩) ?rest
  case turn =>
    rintro m ρ π ⟨k, c, rfl, rfl, rfl, hc⟩
    refine ⟨decide ((128 : Int) ≤ m), by fail "m_ts", fun h => ?_, fun h => ⟨m, ?_, rfl⟩⟩
    · have h1 : ¬ m < 128 := by simp at h; omega
      refine Ex.cons (Ex.aug K (by fail "m_ev") (by fail "m_ev") (fun s t u Q E h => irshift_int (by decide) h) (.loc (by fail "m_put")) ?_ (by fail "m_at"))
      rw [fdiv_128]
      show Ex _ _ _ [some (.int _), some _, none, none] [] _ _ _
      refine Ex.cons (Ex.aug K (by fail "m_ev") (by fail "m_ev") (fun s t u Q E h => wpAny_iadd_int h) (.loc (by fail "m_put")) ?_ (by fail "m_at"))
      refine Ex.nil ⟨m / 128, by omega, m / 128, c + 1, rfl, rfl, rfl, ?_⟩
      rw [vl_big h1] at hc
      omega
    · have h1 : m < 128 := by simp at h; omega
      rw [vl_small h1] at hc
      have : c = vl n := by omega
      rw [this]
  case rest =>
    rintro _ _ ⟨k, rfl, rfl⟩
    exact Ex.cons (Ex.retP (by fail "m_ev") ⟨rfl, rfl⟩)
end
end

section
open PySem PySem.Calls PySem.W PyProof.Rows PySem.Spec
section
variable {Ω : Wo}
theorem fn_varI (H : Here Ω) {i : Int} (h0 : 0 ≤ i) (h1 : i ≤ 1000000) : FnP Ω (.ref 149) [.int i] [] 1 (.int (vl i.toNat)) := by
  have := fn_varint H (n := i.toNat) (by omega)
  have e : ((i.toNat : Nat) : Int) = i := Int.toNat_of_nonneg h0
  rw [e] at this
  exact this
theorem fn_Entry_size (H : Here Ω) {π : Led} {r : Row} (h : r.Ok) : FnP Ω (.ref 198) [r.ent] π 2 (.int r.size) := by
  obtain ⟨P, hP⟩ := id H.k
  refine Fn.of_def (f := 198) (n := 1) (name := (fm 18 4).name) (qual := "Entry.size") (params := (fm 18 4).params) (body := (fm 18 4).body) (scope := (fm 18 4).scope) (dV := .none) (kV := .none) (doc := .none) (pm := (.str "raftkeep.messages" 372)) (an := .none) (cdv := (.ref 197)) (ct := .none) (oc := .type "function") (od := .none) (osl := #[]) ["self"] [("self", NameKind.local), ("length", NameKind.local), ("head", NameKind.local), ("len", NameKind.globalImplicit), ("varint_length", NameKind.globalImplicit)] (by rw [hP]; kernel_rfl) (by rw [hP]; kernel_rfl) (fun vs hvs => ?_) rfl (by kernel_rfl) rfl rfl (by decide) (by kernel_rfl) (by kernel_rfl) (by kernel_rfl) fun Γ A B => ?_
  · match vs, hvs with
    | [a0], _ => kernel_rfl
  have K := B.ok
  have hn := B.nms
  have amb := B.amb
  have hW := B.W
  have O : Own Γ := ⟨B.own⟩
  show Ex _ _ _ [some _, none, none, none, none] _ _ _ _
  have i : InsD π r.ent 201 r.f := .fro _ _
  have f1 := fn_varI H h.t.1 h.t.2
  have f2 := fn_varI H h.i.1 h.i.2
  have f3 := fn_varI H h.k.1 h.k.2
  have hb := h.b
  have f4 := fn_varint H (n := r.b.toArray.size) (by rw [List.size_toArray]; omega)
  have hz : r.b.toArray.size ≤ 1099511627776 := by rw [List.size_toArray]; omega
  refine Ex.cons (Ex.assignP K (by fail "m_ev") (.loc (by fail "m_put")) ?_)
  show Ex _ _ _ [some _, some (.int r.b.toArray.size), none, none, none] _ _ _ _
  refine Ex.cons (Ex.assignP K (by fail "m_ev") (.loc (by fail "m_put")) ?_)
  show Ex _ _ _ [some _, some (.int r.b.toArray.size), some (.int _), none, none] _ _ _ _
  refine Ex.cons (Ex.retP (by fail "m_ev") ⟨?_, rfl⟩)
  rw [List.size_toArray]
  rfl
theorem fn_Snap_row (H : Here Ω) {π : Led} {d : D} {i t : Int} {vs : List Int} {b : List UInt8} (hz : vs.length ≤ 1000) (ii : InsD π d 334 (snapF i t vs b)) : FnP Ω (.ref 317) [d] π 2 (snapR i t vs b) := by
  obtain ⟨P, hP⟩ := id H.k
  refine Fn.of_def (f := 317) (n := 1) (name := (fm 22 1).name) (qual := "Snapshot.row") (params := (fm 22 1).params) (body := (fm 22 1).body) (scope := (fm 22 1).scope) (dV := .none) (kV := .none) (doc := .none) (pm := (.str "raftkeep.messages" 372)) (an := .none) (cdv := (.ref 316)) (ct := .none) (oc := .type "function") (od := .none) (osl := #[]) ["self"] [("self", NameKind.local)] (by rw [hP]; kernel_rfl) (by rw [hP]; kernel_rfl) (fun vs hvs => ?_) rfl (by kernel_rfl) rfl rfl (by decide) (by kernel_rfl) (by kernel_rfl) (by kernel_rfl) fun Γ A B => ?_
  · match vs, hvs with
    | [a0], _ => kernel_rfl
  have K := B.ok
  have hn := B.nms
  have amb := B.amb
  have hW := B.W
  have O : Own Γ := ⟨B.own⟩
  show Ex _ _ _ [some _] _ _ _ _
  have f1 : FnP Ω (.ref 282) [.inst 292 (confF vs)] π 1 (confR vs) := fn_Conf_row H hz (.fro _ _)
  exact Ex.cons (Ex.retP (by fail "m_ev") ⟨rfl, rfl⟩)
end
end

section
open PySem PySem.Calls PySem.W PyProof.Rows PySem.Spec
noncomputable def entsD (rs : List Row) : List D := rs.map Row.ent
theorem entsD_get {rs : List Row} {i : Nat} {d : D} (h : (entsD rs)[i]? = some d) : ∃ r, rs[i]? = some r ∧ d = r.ent := by
  rw [entsD, List.getElem?_map] at h
  cases q : rs[i]? with
  | none => rw [q] at h; cases h
  | some r => rw [q] at h; exact ⟨r, rfl, (Option.some.inj h).symm⟩
theorem entsD_len (rs : List Row) : (entsD rs).length = rs.length := by rw [entsD, List.length_map]
theorem drop_get {α : Type} {l : List α} {i : Nat} {a : α} (h : l[i]? = some a) : l.drop i = a :: l.drop (i + 1) := by
  obtain ⟨hi, rfl⟩ := List.getElem?_eq_some_iff.mp h
  exact List.drop_eq_getElem_cons hi

section
variable {Ω : Wo}
theorem fn_limit (H : Here Ω) {rs : List Row} {n : Int} (hok : ∀ r ∈ rs, r.Ok) (hz : rs.length ≤ 900) : NewL Ω (.ref 212) [.list (entsD rs), .int n] 3 (entsD (lim n rs 0 [])) := by
  obtain ⟨P, hP⟩ := id H.k
  refine Fn.of_def (f := 212) (n := 2) (name := (ft 19).name) (qual := "limit_size") (params := (ft 19).params) (body := (ft 19).body) (scope := (ft 19).scope) (dV := .none) (kV := .none) (doc := .none) (pm := (.str "raftkeep.messages" 372)) (an := .none) (cdv := (.ref 211)) (ct := .none) (oc := .type "function") (od := .none) (osl := #[]) ["entries", "n"] [("entries", NameKind.local), ("n", NameKind.local), ("total", NameKind.local), ("kept", NameKind.local), ("entry", NameKind.local)] (by rw [hP]; kernel_rfl) (by rw [hP]; kernel_rfl) (fun vs hvs => ?_) rfl (by kernel_rfl) rfl rfl (by decide) (by kernel_rfl) (by kernel_rfl) (by kernel_rfl) fun Γ A B => ?_
  · match vs, hvs with
    | [a0, a1], _ => kernel_rfl
  have K := B.ok
  have hn := B.nms
  have amb := B.amb
  have hW := B.W
  have O : Own Γ := ⟨B.own⟩
  show Ex _ _ _ [some _, some _, none, none, none] _ _ _ _
  refine Ex.cons (Ex.assignP K (by fail "m_ev") (.loc (by fail "m_put")) ?_)
  show Ex _ _ _ [some _, some _, some (.int 0), none, none] [] _ _ _
  refine Ex.cons (Ex.assign K (Ev.listM (by fail "m_el")) (.loc (by fail "m_put")) ?_)
  rintro _ _ ⟨a, rfl, rfl⟩
  show Ex _ _ _ [some _, some _, some (.int 0), some (.raw (.ref a)), none] [(a, .list [])] _ _ _
  refine Ex.seq (fun ρ π => ∃ t e, ρ = [some (.list (entsD rs)), some (.int n), some (.int t), some (.raw (.ref a)), e] ∧ π = [(a, .list (entsD (lim n rs 0 [])))])
    (Ex.forIn (fun i ρ π => ∃ t kept e, ρ = [some (.list (entsD rs)), some (.int n), some (.int t), some (.raw (.ref a)), e] ∧ π = [(a, .list (entsD kept))] ∧ lim n (rs.drop i) t kept = lim n rs 0 [] ∧ kept.length ≤ i) O K
      (SrcP.list (ds := entsD rs) amb.handled (by fail "m_ev") (.fro _)) ?hok ?turn ?done ⟨0, [], _, rfl, rfl, rfl, Nat.le_refl _⟩) ?rest
  case hok => exact fun v G G' i ρ' π' it o h g _ => ⟨h.1.mono g, .fro _⟩
  case done =>
    rintro ρ' π' ⟨t, kept, e, rfl, rfl, hl, _⟩
    refine ⟨t, e, rfl, ?_⟩
    rw [entsD_len, List.drop_of_length_le (Nat.le_refl _)] at hl
    rw [← hl]; rfl
  case turn =>
    rintro i d ρ' π' it o hd ⟨t, kept, e, rfl, rfl, hl, hk⟩
    obtain ⟨r, hr, rfl⟩ := entsD_get hd
    have hi : i < rs.length := (List.getElem?_eq_some_iff.mp hr).1
    refine ⟨_, .loc (by fail "m_put"), ?_⟩
    show Ex _ _ _ [some _, some _, some (.int t), some _, some r.ent] [(it, .obj o), (a, .list (entsD kept))] _ _ _
    have fs := fn_Entry_size H (π := [(it, .obj o), (a, .list (entsD kept))]) (hok r (List.mem_of_getElem? hr))
    have i1 : InsD [(it, MO.obj o), (a, MO.list (entsD kept))] r.ent 201 r.f := .fro _ _
    refine Ex.cons (Ex.aug K (by fail "m_ev") (by fail "m_ev") (fun s t u Q E h => wpAny_iadd_int h) (.loc (by fail "m_put")) ?_ (by fail "m_at"))
    show Ex _ _ _ [some _, some _, some (.int (t + r.size)), some (.raw (.ref a)), some r.ent] [(it, .obj o), (a, .list (entsD kept))] _ _ _
    have hlen : (entsD kept).length ≤ 1000000 := by rw [entsD_len]; omega
    rw [drop_get hr, lim] at hl
    refine Ex.cons (Ex.ite (c := (!(entsD kept).isEmpty) && decide (n < t + r.size)) (by fail "m_ts") (fun h => ?_) (fun h => ?_))
    · refine Ex.cons (Ex.brk ⟨_, .refl _, t + r.size, _, rfl, ?_⟩)
      simp only [Bool.and_eq_true, Bool.not_eq_true', decide_eq_true_eq] at h
      have hne : kept ≠ [] := by
        rintro rfl
        simp [entsD] at h
      rw [if_pos ⟨hne, h.2⟩] at hl
      rw [← hl]
    · have hc : ¬ (kept ≠ [] ∧ n < t + r.size) := by
        rintro ⟨h1, h2⟩
        have : (entsD kept).isEmpty = false := by
          cases kept with
          | nil => exact absurd rfl h1
          | cons x xs => rfl
        rw [this] at h
        simp at h
        omega
      rw [if_neg hc] at hl
      refine Ex.nil ?_
      refine Ex.cons (Ex.expr (Ev.append (πa := [(it, .obj o)]) (πb := []) (by fail "m_ev") (by fail "m_ev") (by rw [entsD_len]; omega)) ?_ K.quiet)
      rintro _ _ ⟨rfl, rfl⟩
      refine Ex.nil ⟨[(a, .list (entsD (kept ++ [r])))], ?_, t + r.size, kept ++ [r], _, rfl, rfl, hl, by rw [List.length_append]; exact Nat.succ_le_succ hk⟩
      rw [entsD, entsD, List.map_append]
      exact .refl _
  case rest =>
    rintro _ _ ⟨t, e, rfl, rfl⟩
    exact Ex.cons (Ex.retP (by fail "m_ev") ⟨a, rfl, rfl⟩)
theorem fn_Conf_init (H : Here Ω) {x dx : Addr} {vs : List Int} (hs : vs.Pairwise (· < ·)) (hz : vs.length < 64) : Fn Ω (.ref 275) [.raw (.ref x), .list (intsD vs), .list [], .list [], .list [], .bool false] [(x, .inst 292 dx [])] 2 (fun d π' => d = .none ∧ π' = [(x, .inst 292 dx (confF vs))]) (fun _ _ => False) := by
  obtain ⟨P, hP⟩ := id H.k
  refine Fn.of_def (f := 275) (n := 1) (name := (fm 21 0).name) (qual := "ConfState.__init__") (params := (fm 21 0).params) (body := (fm 21 0).body) (scope := (fm 21 0).scope) (dV := .none) (kV := .none) (doc := .none) (pm := (.str "raftkeep.messages" 372)) (an := .none) (cdv := (.ref 274)) (ct := .none) (oc := .type "function") (od := .none) (osl := #[]) ["self", "voters", "learners", "outgoing", "learners_next", "auto_leave"] [("self", NameKind.local), ("voters", NameKind.local), ("learners", NameKind.local), ("outgoing", NameKind.local), ("learners_next", NameKind.local), ("auto_leave", NameKind.local), ("rising", NameKind.globalImplicit)] (by rw [hP]; kernel_rfl) (by rw [hP]; kernel_rfl) (fun vs hvs => ?_) rfl (by kernel_rfl) rfl rfl (by decide) (by kernel_rfl) (by kernel_rfl) (by kernel_rfl) fun Γ A B => ?_
  · match vs, hvs with
    | [a0, a1, a2, a3, a4, a5], _ => kernel_rfl
  have K := B.ok
  have hn := B.nms
  have amb := B.amb
  have hW := B.W
  have O : Own Γ := ⟨B.own⟩
  show Ex _ _ _ [some _, some _, some _, some _, some _, some _, none] _ _ _ _
  have f1 := fn_rising H hs hz
  have f2 : NewL Ω (.ref 156) [.list []] 1 [] := fn_rising H (ns := []) .nil (by decide)
  fail "m_sets"
  fail "m_sets"
  fail "m_sets"
  fail "m_sets"
  fail "m_sets"
  exact Ex.nil ⟨rfl, rfl⟩
theorem fn_Conf (H : Here Ω) {vs : List Int} (hs : vs.Pairwise (· < ·)) (hz : vs.length < 64) : NewI Ω 292 [.list (intsD vs), .list [], .list [], .list [], .bool false] 3 (confF vs) :=
  Fn.of_class (Φ := fun x dx π' => π' = [(x, .inst 292 dx (confF vs))]) (mk_ConfState H) (ini_ConfState H) (inf_ConfState H) fun x dx => fn_Conf_init H hs hz
end
end

section
open PySem PySem.Calls PySem.W PyProof.Rows PySem.Spec
/-- the storage, as numbers and rows -/
structure Sto' where
  ht : Int
  hv : Int
  hc : Int
  cv : List Int
  si : Int
  st : Int
  sv : List Int
  sb : List UInt8
  base : Int
  bt : Int
  es : List Row
noncomputable abbrev Stg := Sto'
noncomputable def Sto'.f (σ : Stg) : List (Str × D) := [("hard", .inst 257 (hardF σ.ht σ.hv σ.hc)), ("conf", .inst 292 (confF σ.cv)), ("snap", .inst 334 (snapF σ.si σ.st σ.sv σ.sb)), ("base_index", .int σ.base), ("base_term", .int σ.bt), ("entries", .list (entsD σ.es))]
structure Sto'.Ok (σ : Stg) : Prop where
  base : 0 ≤ σ.base ∧ σ.base ≤ 100000
  si : 0 ≤ σ.si ∧ σ.si ≤ 100000
  len : σ.es.length ≤ 400
  cv : σ.cv.length ≤ 50
  sv : σ.sv.length ≤ 50
  rows : ∀ r ∈ σ.es, r.Ok
noncomputable def Sto'.last (σ : Stg) : Int := σ.base + σ.es.length
noncomputable def stInit (vs : List Int) : Stg := let b : Int := if vs.isEmpty then 0 else 1
  ⟨b, 0, b, vs, b, b, vs, [], b, b, []⟩
section
variable {Ω : Wo}
theorem fn_Sto_init (H : Here Ω) {x dx : Addr} {vs : List Int} (hz : vs.length ≤ 50) : Fn Ω (.ref 352) [.raw (.ref x), .inst 292 (confF vs)] [(x, .inst 439 dx [])] 3 (fun d π' => d = .none ∧ π' = [(x, .inst 439 dx (stInit vs).f)]) (fun _ _ => False) := by
  obtain ⟨P, hP⟩ := id H.k
  refine Fn.of_def (f := 352) (n := 2) (name := (fm 24 0).name) (qual := "MemoryStorage.__init__") (params := (fm 24 0).params) (body := (fm 24 0).body) (scope := (fm 24 0).scope) (dV := .none) (kV := .none) (doc := .none) (pm := (.str "raftkeep.raftlog" 630)) (an := .none) (cdv := (.ref 351)) (ct := .none) (oc := .type "function") (od := .none) (osl := #[]) ["self", "conf"] [("self", NameKind.local), ("conf", NameKind.local), ("begin", NameKind.local), ("len", NameKind.globalImplicit), ("HardState", NameKind.globalImplicit), ("Snapshot", NameKind.globalImplicit)] (by rw [hP]; kernel_rfl) (by rw [hP]; kernel_rfl) (fun vs hvs => ?_) rfl (by kernel_rfl) rfl rfl (by decide) (by kernel_rfl) (by kernel_rfl) (by kernel_rfl) fun Γ A B => ?_
  · match vs, hvs with
    | [a0, a1], _ => kernel_rfl
  have K := B.ok
  have hn := B.nms
  have amb := B.amb
  have hW := B.W
  have O : Own Γ := ⟨B.own⟩
  show Ex _ _ _ [some _, some _, none, none, none, none] _ _ _ _
  have hz1 : (intsD vs).length < 2 ^ 63 := by rw [intsD, List.length_map]; omega
  refine Ex.cons (Ex.assignP K (by fail "m_ev") (.loc (by fail "m_put")) ?_)
  show Ex _ _ _ [some _, some _, some (.int 0), none, none, none] [_] _ _ _
  refine Ex.seq (fun ρ π => ρ = [some (.raw (.ref x)), some (.inst 292 (confF vs)), some (.int (if vs.isEmpty then 0 else 1)), none, none, none] ∧ π = [(x, .inst 439 dx [])]) (Ex.ite (c := decide ((0 : Int) < (intsD vs).length)) (by fail "m_ts") (fun h => ?_) (fun h => Ex.nil ⟨?_, rfl⟩)) ?_
  · refine Ex.cons (Ex.assignP K (by fail "m_ev") (.loc (by fail "m_put")) (Ex.nil ⟨?_, rfl⟩))
    have : vs.isEmpty = false := by
      cases vs with
      | nil => simp [intsD] at h
      | cons x xs => rfl
    rw [this]; rfl
  · have : vs.isEmpty = true := by
      cases vs with
      | nil => rfl
      | cons x xs => first | (simp [intsD] at h; done) | (simp [intsD] at h; omega)
    rw [this]; rfl
  rintro _ _ ⟨rfl, rfl⟩
  generalize hb : (if vs.isEmpty = true then (0 : Int) else 1) = b
  have f1 := fn_Hard H b 0 b
  have f2 := fn_Snap H b b vs []
  fail "m_sets"
  fail "m_sets"
  fail "m_sets"
  fail "m_sets"
  fail "m_sets"
  fail "m_sets"
  refine Ex.nil ⟨rfl, ?_⟩
  subst hb
  rfl
theorem fn_Sto (H : Here Ω) {vs : List Int} (hz : vs.length ≤ 50) : NewI Ω 439 [.inst 292 (confF vs)] 4 (stInit vs).f :=
  Fn.of_class (Φ := fun x dx π' => π' = [(x, .inst 439 dx (stInit vs).f)]) (mk_MemoryStorage H) (ini_MemoryStorage H) (inf_MemoryStorage H) fun x dx => fn_Sto_init H hz
theorem fn_first (H : Here Ω) {π : Led} {d : D} {σ : Stg} (i : InsD π d 439 σ.f) : FnP Ω (.ref 366) [d] π 1 (.int (σ.base + 1)) := by
  obtain ⟨P, hP⟩ := id H.k
  refine Fn.of_def (f := 366) (n := 0) (name := (fm 24 2).name) (qual := "MemoryStorage.first_index") (params := (fm 24 2).params) (body := (fm 24 2).body) (scope := (fm 24 2).scope) (dV := .none) (kV := .none) (doc := .none) (pm := (.str "raftkeep.raftlog" 630)) (an := .none) (cdv := (.ref 365)) (ct := .none) (oc := .type "function") (od := .none) (osl := #[]) ["self"] [("self", NameKind.local)] (by rw [hP]; kernel_rfl) (by rw [hP]; kernel_rfl) (fun vs hvs => ?_) rfl (by kernel_rfl) rfl rfl (by decide) (by kernel_rfl) (by kernel_rfl) (by kernel_rfl) fun Γ A B => ?_
  · match vs, hvs with
    | [a0], _ => kernel_rfl
  have K := B.ok
  have hn := B.nms
  have amb := B.amb
  have hW := B.W
  have O : Own Γ := ⟨B.own⟩
  show Ex _ _ _ [some _] _ _ _ _
  exact Ex.cons (Ex.retP (by fail "m_ev") ⟨rfl, rfl⟩)
theorem fn_last (H : Here Ω) {π : Led} {d : D} {σ : Stg} (ok : σ.Ok) (i : InsD π d 439 σ.f) : FnP Ω (.ref 373) [d] π 1 (.int σ.last) := by
  obtain ⟨P, hP⟩ := id H.k
  refine Fn.of_def (f := 373) (n := 0) (name := (fm 24 3).name) (qual := "MemoryStorage.last_index") (params := (fm 24 3).params) (body := (fm 24 3).body) (scope := (fm 24 3).scope) (dV := .none) (kV := .none) (doc := .none) (pm := (.str "raftkeep.raftlog" 630)) (an := .none) (cdv := (.ref 372)) (ct := .none) (oc := .type "function") (od := .none) (osl := #[]) ["self"] [("self", NameKind.local), ("len", NameKind.globalImplicit)] (by rw [hP]; kernel_rfl) (by rw [hP]; kernel_rfl) (fun vs hvs => ?_) rfl (by kernel_rfl) rfl rfl (by decide) (by kernel_rfl) (by kernel_rfl) (by kernel_rfl) fun Γ A B => ?_
  · match vs, hvs with
    | [a0], _ => kernel_rfl
  have K := B.ok
  have hn := B.nms
  have amb := B.amb
  have hW := B.W
  have O : Own Γ := ⟨B.own⟩
  show Ex _ _ _ [some _, none] _ _ _ _
  have h1 := ok.len
  have hz : (entsD σ.es).length < 2 ^ 63 := by rw [entsD_len]; omega
  exact Ex.cons (Ex.retP (by fail "m_ev") ⟨by unfold Sto'.last; rw [entsD_len], rfl⟩)
theorem fn_snapshot (H : Here Ω) {π : Led} {d : D} {σ : Stg} (ok : σ.Ok) (i : InsD π d 439 σ.f) : Fn Ω (.ref 394) [d] π 1 (fun r π' => σ.base ≤ σ.si ∧ r = .inst 334 (snapF σ.si σ.st σ.sv σ.sb) ∧ π' = π) (fun c π' => σ.si < σ.base ∧ c = 116 ∧ π' = π) := by
  obtain ⟨P, hP⟩ := id H.k
  refine Fn.of_def (f := 394) (n := 0) (name := (fm 24 6).name) (qual := "MemoryStorage.snapshot") (params := (fm 24 6).params) (body := (fm 24 6).body) (scope := (fm 24 6).scope) (dV := .none) (kV := .none) (doc := .none) (pm := (.str "raftkeep.raftlog" 630)) (an := .none) (cdv := (.ref 393)) (ct := .none) (oc := .type "function") (od := .none) (osl := #[]) ["self"] [("self", NameKind.local), ("SnapNotReady", NameKind.globalImplicit)] (by rw [hP]; kernel_rfl) (by rw [hP]; kernel_rfl) (fun vs hvs => ?_) rfl (by kernel_rfl) rfl rfl (by decide) (by kernel_rfl) (by kernel_rfl) (by kernel_rfl) fun Γ A B => ?_
  · match vs, hvs with
    | [a0], _ => kernel_rfl
  have K := B.ok
  have hn := B.nms
  have amb := B.amb
  have hW := B.W
  have O : Own Γ := ⟨B.own⟩
  show Ex _ _ _ [some _, none] _ _ _ _
  have h1 := ok.base
  have h2 := ok.si
  have b1 : σ.si.natAbs < 2 ^ 64 := by omega
  have b2 : σ.base.natAbs < 2 ^ 64 := by omega
  refine Ex.cons (Ex.ite (c := decide (σ.si < σ.base)) (by fail "m_ts") (fun h => ?_) (fun h => Ex.nil ?_))
  · fail "m_raise"
    exact ⟨by simpa using h, rfl, rfl⟩
  · exact Ex.cons (Ex.retP (by fail "m_ev") ⟨by simp at h; omega, rfl, rfl⟩)
end
end

section
open PySem PySem.Calls PySem.W PyProof.Rows PySem.Spec
section
variable {Ω : Wo} {Γ : Ctx} {A : Around} {ρ : Loc} {π : Led}
theorem Ev.tup2 {e₁ e₂ : Expr} {k : Nat} {pos : Pos} {Φ1 : D → Led → Prop} {Ψ : Addr → Led → Prop} {d2 : D} (h1 : Ev Ω Γ A ρ π (eval e₁ Γ.env) Φ1 Ψ) (h2 : ∀ d π', Φ1 d π' → EvP Ω Γ A ρ π' (eval e₂ Γ.env) d2)
    (he : starEach [e₁, e₂] Γ.env = [(false, eval e₁ Γ.env), (false, eval e₂ Γ.env)] := by rfl) : Ev Ω Γ A ρ π (eval (.Tuple [e₁, e₂] k pos) Γ.env) (fun d π' => ∃ d1, Φ1 d1 π' ∧ d = .tup [d1, d2]) Ψ := by
  intro s G Q E R hQ hE
  refine wpAny_Tuple_spliced ?_
  rw [he]
  show wpAny _ _ (spliced ((false, eval e₁ Γ.env) :: backTo pos [(false, eval e₂ Γ.env)])) _ _ _
  refine spliced_cons (h1 s G _ E R (fun v d π' G1 k1 tk1 hΦ R1 g1 r1 => ?_) hE)
  show wpAny _ _ (spliced ((false, eval e₂ Γ.env) :: backTo pos [])) _ _ _
  refine spliced_cons (h2 d π' hΦ _ G1 _ E R1 fun w G2 k2 tk2 R2 g2 r2 => wpAny_pure ⟨by rw [sizeLine_eq]; exact (by decide : 2 ≤ 16777216), ?_⟩)
  obtain ⟨R3, g3⟩ := R2.alloc { cls := .type "tuple", data := .seq [v, w].toArray } rfl
  exact hQ _ _ π' _ _ tk2 ⟨d, hΦ, rfl⟩ R3 (g1.trans (g2.trans g3)) (.tup (ext1_at ..) rfl rfl (.cons ((r1.mono g2).mono g3) (.cons (r2.mono g3) .nil)))
theorem Ex.retDrop {p : Addr × MO} {e : Expr} {pos : Pos} {d : D} {Φ : Fl → Loc → Led → Prop} {Ψ : Addr → Loc → Led → Prop} (hv : EvP Ω Γ A ρ (p :: π) (eval e Γ.env) d) (hk : Φ (.ret d) ρ π) : Ex Ω Γ A ρ (p :: π) (exec (.Return (some e) pos) Γ.env) Φ Ψ := fun s G Q E R hQ hE =>
  wpAny_Return_some (hv s G _ E R fun v G' h' tk' R' g r => hQ _ _ ρ π G' h' tk' hk (Rel.drop (πa := []) R') g (.ret r))
end
section
variable {Ω : Wo}
theorem fn_init_state (H : Here Ω) {π : Led} {d : D} {σ : Stg} (i : InsD π d 439 σ.f) : Fn Ω (.ref 359) [d] π 4 (fun r π' => ∃ x dx, r = .tup [.raw (.ref x), .inst 292 (confF σ.cv)] ∧ π' = (x, .inst 257 dx (hardF σ.ht σ.hv σ.hc)) :: π) (fun _ _ => False) := by
  obtain ⟨P, hP⟩ := id H.k
  refine Fn.of_def (f := 359) (n := 3) (name := (fm 24 1).name) (qual := "MemoryStorage.initial_state") (params := (fm 24 1).params) (body := (fm 24 1).body) (scope := (fm 24 1).scope) (dV := .none) (kV := .none) (doc := .none) (pm := (.str "raftkeep.raftlog" 630)) (an := .none) (cdv := (.ref 358)) (ct := .none) (oc := .type "function") (od := .none) (osl := #[]) ["self"] [("self", NameKind.local)] (by rw [hP]; kernel_rfl) (by rw [hP]; kernel_rfl) (fun vs hvs => ?_) rfl (by kernel_rfl) rfl rfl (by decide) (by kernel_rfl) (by kernel_rfl) (by kernel_rfl) fun Γ A B => ?_
  · match vs, hvs with
    | [a0], _ => kernel_rfl
  have K := B.ok
  have hn := B.nms
  have amb := B.amb
  have hW := B.W
  have O : Own Γ := ⟨B.own⟩
  show Ex _ _ _ [some _] _ _ _ _
  refine Ex.cons (Ex.ret ((Ev.tup2 (Φ1 := fun d π' => ∃ x dx, d = .raw (.ref x) ∧ π' = (x, .inst 257 dx (hardF σ.ht σ.hv σ.hc)) :: π) (d2 := .inst 292 (confF σ.cv))
    ((Ev.method (π₁ := π) (π₂ := []) K amb (fn_Hard_copy H (.fro 257 (hardF σ.ht σ.hv σ.hc))) (by rw [List.append_nil]) (by fail "m_ev") (.fro _ _) rfl (met_HardState_copy H) ElP.nil).mono (fun d π' hd => ?a) fun c π' hc => ?b) ?c).mono (fun d π' hd => ?d) fun _ _ h => h))
  case a =>
    obtain ⟨π₁, ⟨x, dx, rfl, rfl⟩, rfl⟩ := hd
    exact ⟨x, dx, rfl, by rw [List.append_nil]⟩
  case b =>
    obtain ⟨_, z, _⟩ := hc
    exact z
  case c =>
    rintro _ _ ⟨x, dx, rfl, rfl⟩
    have i2 : InsD ((x, MO.inst 257 dx (hardF σ.ht σ.hv σ.hc)) :: π) d 439 σ.f := i.weak fun p hp => .tail _ hp
    fail "m_ev"
  case d =>
    obtain ⟨_, ⟨x, dx, rfl, rfl⟩, rfl⟩ := hd
    exact ⟨x, dx, rfl, rfl⟩
noncomputable def Sto'.setHard (σ : Stg) (t v c : Int) : Stg := { σ with ht := t, hv := v, hc := c }
theorem fn_set_hard (H : Here Ω) {π : Led} {a dx : Addr} {h : D} {σ : Stg} {t v c : Int} (i : InsD ((a, .inst 439 dx σ.f) :: π) h 257 (hardF t v c)) :
    Fn Ω (.ref 401) [.raw (.ref a), h] ((a, .inst 439 dx σ.f) :: π) 4 (fun r π' => r = .none ∧ π' = (a, .inst 439 dx (σ.setHard t v c).f) :: π) (fun _ _ => False) := by
  obtain ⟨P, hP⟩ := id H.k
  refine Fn.of_def (f := 401) (n := 3) (name := (fm 24 7).name) (qual := "MemoryStorage.set_hard") (params := (fm 24 7).params) (body := (fm 24 7).body) (scope := (fm 24 7).scope) (dV := .none) (kV := .none) (doc := .none) (pm := (.str "raftkeep.raftlog" 630)) (an := .none) (cdv := (.ref 400)) (ct := .none) (oc := .type "function") (od := .none) (osl := #[]) ["self", "hard"] [("self", NameKind.local), ("hard", NameKind.local)] (by rw [hP]; kernel_rfl) (by rw [hP]; kernel_rfl) (fun vs hvs => ?_) rfl (by kernel_rfl) rfl rfl (by decide) (by kernel_rfl) (by kernel_rfl) (by kernel_rfl) fun Γ A B => ?_
  · match vs, hvs with
    | [a0, a1], _ => kernel_rfl
  have K := B.ok
  have hn := B.nms
  have amb := B.amb
  have hW := B.W
  have O : Own Γ := ⟨B.own⟩
  show Ex _ _ _ [some _, some _] _ _ _ _
  refine Ex.cons (Ex.assignAttr (πa := []) (πb := π) K (Ev.toP (Ev.freezeI (C := 257) (fs := hardF t v c) ((Ev.method (π₁ := (a, .inst 439 dx σ.f) :: π) (π₂ := []) K amb (fn_Hard_copy H i) (by rw [List.append_nil]) (by fail "m_ev") i rfl (met_HardState_copy H) ElP.nil).mono (fun d π' hd => ?a) fun c π' hc => ?b) ?c)) (by fail "m_ev") (set_MemoryStorage_hard H) (Nat.le_of_ble_eq_true rfl) ?d)
  case a =>
    obtain ⟨π₁, ⟨x, dx, rfl, rfl⟩, rfl⟩ := hd
    exact ⟨x, dx, rfl, by rw [List.append_nil]; rfl⟩
  case b =>
    obtain ⟨_, z, _⟩ := hc
    exact z
  case c =>
    intro b hb
    rw [hW] at hb
    exact hb
  case d => exact Ex.nil ⟨rfl, rfl⟩
theorem fn_Sto_row (H : Here Ω) {π : Led} {d : D} {σ : Stg} (ok : σ.Ok) (i : InsD π d 439 σ.f) : FnP Ω (.ref 436) [d] π 3 (.tup [hardR σ.ht σ.hv σ.hc, .int σ.base, .int σ.bt, .tup (σ.es.map Row.tup), snapR σ.si σ.st σ.sv σ.sb]) := by
  obtain ⟨P, hP⟩ := id H.k
  refine Fn.of_def (f := 436) (n := 2) (name := (fm 24 12).name) (qual := "MemoryStorage.row") (params := (fm 24 12).params) (body := (fm 24 12).body) (scope := (fm 24 12).scope) (dV := .none) (kV := .none) (doc := .none) (pm := (.str "raftkeep.raftlog" 630)) (an := .none) (cdv := (.ref 435)) (ct := .none) (oc := .type "function") (od := .none) (osl := #[]) ["self"] [("self", NameKind.local), ("rows", NameKind.local), ("e", NameKind.local), ("tuple", NameKind.globalImplicit)] (by rw [hP]; kernel_rfl) (by rw [hP]; kernel_rfl) (fun vs hvs => ?_) rfl (by kernel_rfl) rfl rfl (by decide) (by kernel_rfl) (by kernel_rfl) (by kernel_rfl) fun Γ A B => ?_
  · match vs, hvs with
    | [a0], _ => kernel_rfl
  have K := B.ok
  have hn := B.nms
  have amb := B.amb
  have hW := B.W
  have O : Own Γ := ⟨B.own⟩
  show Ex _ _ _ [some _, none, none, none] _ _ _ _
  have hlen := ok.len
  refine Ex.cons (Ex.assign K (Ev.listM (by fail "m_el")) (.loc (by fail "m_put")) ?_)
  rintro _ _ ⟨l, rfl, rfl⟩
  show Ex _ _ _ [some _, some (.raw (.ref l)), none, none] ((l, .list []) :: _) _ _ _
  refine Ex.seq (fun ρ π' => ∃ e, ρ = [some d, some (.raw (.ref l)), e, none] ∧ π' = (l, .list (σ.es.map Row.tup)) :: π)
    (Ex.forIn (fun k ρ π' => ∃ e, ρ = [some d, some (.raw (.ref l)), e, none] ∧ π' = (l, .list ((σ.es.take k).map Row.tup)) :: π) O K
      (SrcP.list (d := .list (entsD σ.es)) (ds := entsD σ.es) amb.handled ?src (.fro _)) ?hok ?turn ?done ⟨_, rfl, rfl⟩) ?rest
  case src =>
    have i2 : InsD ((l, MO.list []) :: π) d 439 σ.f := i.weak fun p hp => .tail _ hp
    fail "m_ev"
  case hok => exact fun v G G' i ρ' π' it o h g _ => ⟨h.1.mono g, .fro _⟩
  case done =>
    rintro ρ' π' ⟨e, rfl, rfl⟩
    exact ⟨e, rfl, by rw [entsD_len, List.take_length]⟩
  case turn =>
    rintro k x ρ' π' it o hd ⟨e, rfl, rfl⟩
    obtain ⟨r, hr, rfl⟩ := entsD_get hd
    have hk : k < σ.es.length := (List.getElem?_eq_some_iff.mp hr).1
    refine ⟨_, .loc (by fail "m_put"), ?_⟩
    show Ex _ _ _ [some _, some _, some r.ent, none] ((it, .obj o) :: (l, .list _) :: π) _ _ _
    have f1 : FnP Ω (.ref 177) [r.ent] ((it, MO.obj o) :: (l, MO.list ((σ.es.take k).map Row.tup)) :: π) 1 r.tup := fn_Entry_row H r (.fro _ _)
    refine Ex.cons (Ex.expr (Ev.append (πa := [(it, .obj o)]) (πb := π) (by fail "m_ev") (by fail "m_ev") (by rw [List.length_map, List.length_take]; omega)) ?_ K.quiet)
    rintro _ _ ⟨rfl, rfl⟩
    refine Ex.nil ⟨(l, .list ((σ.es.take (k + 1)).map Row.tup)) :: π, ?_, _, rfl, rfl⟩
    rw [List.take_add_one, hr, List.map_append]
    exact .refl _
  case rest =>
    rintro _ _ ⟨e, rfl, rfl⟩
    have i3 : InsD ((l, MO.list (σ.es.map Row.tup)) :: π) d 439 σ.f := i.weak fun p hp => .tail _ hp
    have l3 : LstD ((l, MO.list (σ.es.map Row.tup)) :: π) (.raw (.ref l)) (σ.es.map Row.tup) := .mu (.head _)
    have f1 : FnP Ω (.ref 233) [.inst 257 (hardF σ.ht σ.hv σ.hc)] ((l, MO.list (σ.es.map Row.tup)) :: π) 1 (hardR σ.ht σ.hv σ.hc) := fn_Hard_row H (.fro _ _)
    have f2 : FnP Ω (.ref 317) [.inst 334 (snapF σ.si σ.st σ.sv σ.sb)] ((l, MO.list (σ.es.map Row.tup)) :: π) 2 (snapR σ.si σ.st σ.sv σ.sb) := fn_Snap_row H (by have := ok.sv; omega) (.fro _ _)
    have hz : (σ.es.map Row.tup).length ≤ 1000 := by rw [List.length_map]; omega
    exact Ex.cons (Ex.retDrop (by fail "m_ev") ⟨rfl, rfl⟩)
end
end

section
open PySem PySem.Calls PySem.W PyProof.Rows PySem.Spec
section
variable {Ω : Wo}
noncomputable def Sto'.termAt (σ : Stg) (i : Int) : Int := if i = σ.base then σ.bt else ((σ.es[(i - (σ.base + 1)).toNat]?).map Row.t).getD 0
theorem fn_term_at (H : Here Ω) {π : Led} {d : D} {σ : Stg} {i : Int} (ok : σ.Ok) (hi : -1000000 ≤ i ∧ i ≤ 1000000) (ii : InsD π d 439 σ.f) :
    Fn Ω (.ref 387) [d, .int i] π 2 (fun r π' => σ.base ≤ i ∧ i ≤ σ.last ∧ r = .int (σ.termAt i) ∧ π' = π) (fun c π' => ((i < σ.base ∧ c = 80) ∨ (σ.base ≤ i ∧ σ.last < i ∧ c = 92)) ∧ π' = π) := by
  obtain ⟨P, hP⟩ := id H.k
  refine Fn.of_def (f := 387) (n := 1) (name := (fm 24 5).name) (qual := "MemoryStorage.term_at") (params := (fm 24 5).params) (body := (fm 24 5).body) (scope := (fm 24 5).scope) (dV := .none) (kV := .none) (doc := .none) (pm := (.str "raftkeep.raftlog" 630)) (an := .none) (cdv := (.ref 386)) (ct := .none) (oc := .type "function") (od := .none) (osl := #[]) ["self", "i"] [("self", NameKind.local), ("i", NameKind.local), ("Compacted", NameKind.globalImplicit), ("Unavailable", NameKind.globalImplicit)] (by rw [hP]; kernel_rfl) (by rw [hP]; kernel_rfl) (fun vs hvs => ?_) rfl (by kernel_rfl) rfl rfl (by decide) (by kernel_rfl) (by kernel_rfl) (by kernel_rfl) fun Γ A B => ?_
  · match vs, hvs with
    | [a0, a1], _ => kernel_rfl
  have K := B.ok
  have hn := B.nms
  have amb := B.amb
  have hW := B.W
  have O : Own Γ := ⟨B.own⟩
  show Ex _ _ _ [some _, some _, none, none] _ _ _ _
  have h1 := ok.base
  have h2 := ok.len
  have fl := fn_last H ok ii
  have ff := fn_first H ii
  have b1 : i.natAbs < 2 ^ 64 := by omega
  have b2 : σ.base.natAbs < 2 ^ 64 := by omega
  have b3 : σ.last.natAbs < 2 ^ 64 := by unfold Sto'.last; omega
  refine Ex.cons (Ex.ite (c := decide (i < σ.base)) (by fail "m_ts") (fun h => ?_) (fun h => Ex.nil ?_))
  · fail "m_raise"
    exact ⟨.inl ⟨by simpa using h, rfl⟩, rfl⟩
  have h3 : σ.base ≤ i := by simp at h; omega
  refine Ex.cons (Ex.ite (c := decide (σ.last < i)) (by fail "m_ts") (fun h => ?_) (fun h => Ex.nil ?_))
  · fail "m_raise"
    exact ⟨.inr ⟨h3, by simpa using h, rfl⟩, rfl⟩
  have h4 : i ≤ σ.last := by simp at h; omega
  refine Ex.cons (Ex.ite (c := i == σ.base) (by fail "m_ts") (fun h => ?_) (fun h => Ex.nil ?_))
  · refine Ex.cons (Ex.retP (by fail "m_ev") ⟨h3, h4, ?_, rfl⟩)
    have : i = σ.base := by simpa using h
    unfold Sto'.termAt
    rw [if_pos this]
  · have h5 : i ≠ σ.base := by simpa using h
    have h6 : (i - (σ.base + 1)).toNat < σ.es.length := by unfold Sto'.last at h4; omega
    have h7 : 0 ≤ i - (σ.base + 1) := by omega
    have h9 : i - (σ.base + 1) < 2 ^ 63 := by omega
    have hr := List.getElem?_eq_getElem h6
    generalize σ.es[(i - (σ.base + 1)).toNat] = r at hr
    have h8 : (entsD σ.es)[(i - (σ.base + 1)).toNat]? = some r.ent := by rw [entsD, List.getElem?_map, hr]; rfl
    refine Ex.cons (Ex.retP (by fail "m_ev") ⟨h3, h4, ?_, rfl⟩)
    unfold Sto'.termAt
    rw [if_neg h5, hr]
    rfl
/-- the rows from lo on, below hi -/
noncomputable def Sto'.page (σ : Stg) (lo hi lim' : Int) : List Row := if hi ≤ lo then [] else lim lim' ((σ.es.drop (lo - (σ.base + 1)).toNat).take ((hi - (σ.base + 1)).toNat - (lo - (σ.base + 1)).toNat)) 0 []
theorem cut_ents {rs : List Row} {i j : Int} (h : 0 ≤ i) (h' : 0 ≤ j) : cut (some i) (some j) (entsD rs) = entsD ((rs.drop i.toNat).take (j.toNat - i.toNat)) := by
  rw [cut_run h h', entsD, entsD, List.map_take, List.map_drop]
theorem fn_between (H : Here Ω) {π : Led} {d : D} {σ : Stg} {lo hi l : Int} (ok : σ.Ok) (hlo : -1000000 ≤ lo ∧ lo ≤ 1000000) (hhi : -1000000 ≤ hi ∧ hi ≤ 1000000) (ii : InsD π d 439 σ.f) :
    Fn Ω (.ref 380) [d, .int lo, .int hi, .int l] π 4 (fun r π' => σ.base < lo ∧ hi ≤ σ.last + 1 ∧ ∃ x, r = .raw (.ref x) ∧ π' = (x, .list (entsD (σ.page lo hi l))) :: π) (fun c π' => ((lo ≤ σ.base ∧ c = 80) ∨ (σ.base < lo ∧ σ.last + 1 < hi ∧ c = 92)) ∧ π' = π) := by
  obtain ⟨P, hP⟩ := id H.k
  refine Fn.of_def (f := 380) (n := 3) (name := (fm 24 4).name) (qual := "MemoryStorage.entries_between") (params := (fm 24 4).params) (body := (fm 24 4).body) (scope := (fm 24 4).scope) (dV := .none) (kV := .none) (doc := .none) (pm := (.str "raftkeep.raftlog" 630)) (an := .none) (cdv := (.ref 379)) (ct := .none) (oc := .type "function") (od := .none) (osl := #[]) ["self", "lo", "hi", "limit"] [("self", NameKind.local), ("lo", NameKind.local), ("hi", NameKind.local), ("limit", NameKind.local), ("first", NameKind.local), ("Compacted", NameKind.globalImplicit), ("Unavailable", NameKind.globalImplicit), ("limit_size", NameKind.globalImplicit)] (by rw [hP]; kernel_rfl) (by rw [hP]; kernel_rfl) (fun vs hvs => ?_) rfl (by kernel_rfl) rfl rfl (by decide) (by kernel_rfl) (by kernel_rfl) (by kernel_rfl) fun Γ A B => ?_
  · match vs, hvs with
    | [a0, a1, a2, a3], _ => kernel_rfl
  have K := B.ok
  have hn := B.nms
  have amb := B.amb
  have hW := B.W
  have O : Own Γ := ⟨B.own⟩
  show Ex _ _ _ [some _, some _, some _, some _, none, none, none, none] _ _ _ _
  have h1 := ok.base
  have h2 := ok.len
  have fl := fn_last H ok ii
  have ff := fn_first H ii
  have b1 : lo.natAbs < 2 ^ 64 := by omega
  have b2 : σ.base.natAbs < 2 ^ 64 := by omega
  have b3 : σ.last.natAbs < 2 ^ 64 := by unfold Sto'.last; omega
  have b4 : hi.natAbs < 2 ^ 64 := by omega
  refine Ex.cons (Ex.ite (c := decide (lo ≤ σ.base)) (by fail "m_ts") (fun h => ?_) (fun h => Ex.nil ?_))
  · fail "m_raise"
    exact ⟨.inl ⟨by simpa using h, rfl⟩, rfl⟩
  have h3 : σ.base < lo := by simp at h; omega
  refine Ex.cons (Ex.ite (c := decide (σ.last + 1 < hi)) (by fail "m_ts") (fun h => ?_) (fun h => Ex.nil ?_))
  · fail "m_raise"
    exact ⟨.inr ⟨h3, by simpa using h, rfl⟩, rfl⟩
  have h4 : hi ≤ σ.last + 1 := by simp at h; omega
  refine Ex.cons (Ex.ite (c := decide (hi ≤ lo)) (by fail "m_ts") (fun h => ?_) (fun h => Ex.nil ?_))
  · have h5 : hi ≤ lo := by simpa using h
    refine Ex.cons (Ex.ret ((Ev.listM (by fail "m_el")).mono (fun e π' hd => ?_) fun _ _ h => h))
    · obtain ⟨x, rfl, rfl⟩ := hd
      refine ⟨h3, h4, x, rfl, ?_⟩
      unfold Sto'.page
      rw [if_pos h5]
      rfl
  have h5 : lo < hi := by simp at h; omega
  refine Ex.cons (Ex.assignP K (by fail "m_ev") (.loc (by fail "m_put")) ?_)
  show Ex _ _ _ [some d, some (.int lo), some (.int hi), some (.int l), some (.int (σ.base + 1)), none, none, none] π _ _ _
  have h6 : 0 ≤ lo - (σ.base + 1) := by omega
  have h7 : 0 ≤ hi - (σ.base + 1) := by omega
  have hz : (entsD σ.es).length ≤ 1000 := by rw [entsD_len]; omega
  have f1 := fn_limit H (rs := (σ.es.drop (lo - (σ.base + 1)).toNat).take ((hi - (σ.base + 1)).toNat - (lo - (σ.base + 1)).toNat)) (n := l) (fun r hr => ok.rows r (List.mem_of_mem_drop (List.mem_of_mem_take hr))) (by rw [List.length_take, List.length_drop]; omega)
  rw [← cut_ents h6 h7] at f1
  refine Ex.cons (Ex.ret ((Ev.newLM f1 K amb (by omega) (n_limit_size H K hn rfl) (k_limit_size H) (by fail "m_el")).mono (fun e π' hd => ?_) fun _ _ h => h))
  obtain ⟨x, rfl, rfl⟩ := hd
  refine ⟨h3, h4, x, rfl, ?_⟩
  unfold Sto'.page
  rw [if_neg (by omega)]
end
end

section
open PySem PySem.Calls PySem.W PyProof.Rows PySem.Spec
section
variable {Ω : Wo}
noncomputable def Sto'.newSnap (σ : Stg) (i t : Int) (vs : List Int) (b : List UInt8) : Stg := { σ with si := i, st := t, sv := vs, sb := b, cv := vs, base := i, bt := t, es := [] }
theorem fn_apply (H : Here Ω) {π : Led} {a dx : Addr} {σ : Stg} {i t : Int} {vs : List Int} {b : List UInt8} (ok : σ.Ok) (hi : -1000000 ≤ i ∧ i ≤ 1000000) :
    Fn Ω (.ref 415) [.raw (.ref a), .inst 334 (snapF i t vs b)] ((a, .inst 439 dx σ.f) :: π) 1 (fun r π' => r = .none ∧ σ.si < i ∧ σ.base ≤ i ∧ π' = (a, .inst 439 dx (σ.newSnap i t vs b).f) :: π) (fun c π' => c = 104 ∧ (i ≤ σ.si ∨ i < σ.base) ∧ π' = (a, .inst 439 dx σ.f) :: π) := by
  obtain ⟨P, hP⟩ := id H.k
  refine Fn.of_def (f := 415) (n := 0) (name := (fm 24 9).name) (qual := "MemoryStorage.apply_snapshot") (params := (fm 24 9).params) (body := (fm 24 9).body) (scope := (fm 24 9).scope) (dV := .none) (kV := .none) (doc := .none) (pm := (.str "raftkeep.raftlog" 630)) (an := .none) (cdv := (.ref 414)) (ct := .none) (oc := .type "function") (od := .none) (osl := #[]) ["self", "snapshot"] [("self", NameKind.local), ("snapshot", NameKind.local), ("SnapOutOfDate", NameKind.globalImplicit)] (by rw [hP]; kernel_rfl) (by rw [hP]; kernel_rfl) (fun vs hvs => ?_) rfl (by kernel_rfl) rfl rfl (by decide) (by kernel_rfl) (by kernel_rfl) (by kernel_rfl) fun Γ A B => ?_
  · match vs, hvs with
    | [a0, a1], _ => kernel_rfl
  have K := B.ok
  have hn := B.nms
  have amb := B.amb
  have hW := B.W
  have O : Own Γ := ⟨B.own⟩
  show Ex _ _ _ [some _, some _, none] _ _ _ _
  have h1 := ok.base
  have h2 := ok.si
  have ii : InsD ((a, MO.inst 439 dx σ.f) :: π) (.raw (.ref a)) 439 σ.f := .mu (.head _)
  have b1 : i.natAbs < 2 ^ 64 := by omega
  refine Ex.cons (Ex.ite (c := decide (i ≤ σ.si) || decide (i < σ.base)) (by fail "m_ts") (fun h => ?_) (fun h => Ex.nil ?_))
  · fail "m_raise"
    exact ⟨rfl, by simpa using h, rfl⟩
  simp only [Bool.or_eq_false_iff, decide_eq_false_iff_not] at h
  fail "m_sets"
  fail "m_sets"
  fail "m_sets"
  fail "m_sets"
  fail "m_sets"
  exact Ex.nil ⟨rfl, by omega, by omega, rfl⟩
noncomputable def optConf : Option (List Int) → D
  | none => .none
  | some vs => .inst 292 (confF vs)
noncomputable def Sto'.newer (σ : Stg) (i : Int) (c : Option (List Int)) (b : List UInt8) : Stg := { σ with si := i, st := σ.termAt i, sv := c.getD σ.cv, sb := b, cv := c.getD σ.cv }
theorem fn_create (H : Here Ω) {π : Led} {a dx : Addr} {σ : Stg} {i : Int} {c : Option (List Int)} {b : List UInt8} (ok : σ.Ok) (hi : -1000000 ≤ i ∧ i ≤ 1000000) :
    Fn Ω (.ref 422) [.raw (.ref a), .int i, optConf c, .bytes b.toArray] ((a, .inst 439 dx σ.f) :: π) 3 (fun r π' => σ.si < i ∧ σ.base ≤ i ∧ i ≤ σ.last ∧ r = .inst 334 (snapF i (σ.termAt i) (c.getD σ.cv) b) ∧ π' = (a, .inst 439 dx (σ.newer i c b).f) :: π)
      (fun e π' => ((e = 104 ∧ i ≤ σ.si) ∨ (e = 140 ∧ σ.si < i ∧ σ.last < i) ∨ (e = 80 ∧ σ.si < i ∧ i ≤ σ.last ∧ i < σ.base)) ∧ π' = (a, .inst 439 dx σ.f) :: π) := by
  obtain ⟨P, hP⟩ := id H.k
  refine Fn.of_def (f := 422) (n := 2) (name := (fm 24 10).name) (qual := "MemoryStorage.create_snapshot") (params := (fm 24 10).params) (body := (fm 24 10).body) (scope := (fm 24 10).scope) (dV := .none) (kV := .none) (doc := .none) (pm := (.str "raftkeep.raftlog" 630)) (an := .none) (cdv := (.ref 421)) (ct := .none) (oc := .type "function") (od := .none) (osl := #[]) ["self", "i", "conf", "data"] [("self", NameKind.local), ("i", NameKind.local), ("conf", NameKind.local), ("data", NameKind.local), ("term", NameKind.local), ("SnapOutOfDate", NameKind.globalImplicit), ("LogPanic", NameKind.globalImplicit), ("Snapshot", NameKind.globalImplicit)] (by rw [hP]; kernel_rfl) (by rw [hP]; kernel_rfl) (fun vs hvs => ?_) rfl (by kernel_rfl) rfl rfl (by decide) (by kernel_rfl) (by kernel_rfl) (by kernel_rfl) fun Γ A B => ?_
  · match vs, hvs with
    | [a0, a1, a2, a3], _ => kernel_rfl
  have K := B.ok
  have hn := B.nms
  have amb := B.amb
  have hW := B.W
  have O : Own Γ := ⟨B.own⟩
  show Ex _ _ _ [some _, some _, some _, some _, none, none, none, none] _ _ _ _
  have h1 := ok.base
  have h2 := ok.si
  have h3 := ok.len
  have ii : InsD ((a, MO.inst 439 dx σ.f) :: π) (.raw (.ref a)) 439 σ.f := .mu (.head _)
  have fl := fn_last H ok ii
  have b1 : i.natAbs < 2 ^ 64 := by omega
  have b2 : σ.si.natAbs < 2 ^ 64 := by omega
  have b3 : σ.last.natAbs < 2 ^ 64 := by unfold Sto'.last; omega
  refine Ex.cons (Ex.ite (c := decide (i ≤ σ.si)) (by fail "m_ts") (fun h => ?_) (fun h => Ex.nil ?_))
  · fail "m_raise"
    exact ⟨.inl ⟨rfl, by simpa using h⟩, rfl⟩
  have h4 : σ.si < i := by simp at h; omega
  refine Ex.cons (Ex.ite (c := decide (σ.last < i)) (by fail "m_ts") (fun h => ?_) (fun h => Ex.nil ?_))
  · fail "m_raise"
    exact ⟨.inr (.inl ⟨rfl, h4, by simpa using h⟩), rfl⟩
  have h5 : i ≤ σ.last := by simp at h; omega
  have ft := fn_term_at H ok hi ii
  refine Ex.cons (Ex.assign K ((Ev.method (π₁ := (a, .inst 439 dx σ.f) :: π) (π₂ := []) K (amb.mono (by omega)) ft (by rw [List.append_nil]) (by fail "m_ev") ii rfl (met_MemoryStorage_term_at H) (by fail "m_el")).mono (Φ' := fun d π' => d = .int (σ.termAt i) ∧ σ.base ≤ i ∧ π' = (a, .inst 439 dx σ.f) :: π) (Ψ' := fun e π' => ((e = 104 ∧ i ≤ σ.si) ∨ (e = 140 ∧ σ.si < i ∧ σ.last < i) ∨ (e = 80 ∧ σ.si < i ∧ i ≤ σ.last ∧ i < σ.base)) ∧ π' = (a, .inst 439 dx σ.f) :: π) (fun d π' hd => ?m1) fun e π' he => ?m2) (.loc (by fail "m_put")) ?go)
  case m1 =>
    obtain ⟨_, ⟨x1, x2, rfl, rfl⟩, rfl⟩ := hd
    exact ⟨rfl, x1, by rw [List.append_nil]⟩
  case m2 =>
    obtain ⟨_, ⟨x, rfl⟩, rfl⟩ := he
    refine ⟨?_, by rw [List.append_nil]⟩
    rcases x with ⟨x1, rfl⟩ | ⟨_, x1, _⟩
    · exact .inr (.inr ⟨rfl, h4, h5, x1⟩)
    · omega
  rintro _ _ ⟨rfl, h6, rfl⟩
  show Ex _ _ _ [some _, some _, some _, some _, some (.int _), none, none, none] _ _ _ _
  refine Ex.seq (fun ρ π' => ρ = [some (.raw (.ref a)), some (.int i), some (optConf c), some (.bytes b.toArray), some (.int (σ.termAt i)), none, none, none] ∧ π' = (a, .inst 439 dx { σ with cv := c.getD σ.cv }.f) :: π) ?ifs ?rest
  case ifs =>
    cases c with
    | none =>
      refine Ex.ite (c := false) ?_ (fun h => by cases h) (fun _ => Ex.nil ⟨rfl, rfl⟩)
      exact TsP.cmp (a := .none) (by fail "m_ev") EvP.cnone fun _ => CmpP.isNotN (c := false) none_none
    | some vs =>
      refine Ex.ite (c := true) ?_ (fun _ => ?_) (fun h => by cases h)
      · exact TsP.cmp (a := .inst 292 (confF vs)) (by fail "m_ev") EvP.cnone fun _ => CmpP.isNotN (c := true) none_inst
      · refine Ex.cons (Ex.assignAttr (πa := []) (πb := _) (d := .inst 292 (confF vs)) K (by fail "m_ev") (by fail "m_ev") (set_MemoryStorage_conf H) (Nat.le_of_ble_eq_true rfl) (Ex.nil ⟨rfl, rfl⟩))
  case rest =>
    rintro _ _ ⟨rfl, rfl⟩
    have f2 := fn_Snap H i (σ.termAt i) (c.getD σ.cv) b
    generalize hσ : ({ σ with cv := c.getD σ.cv } : Stg) = σ'
    have e1 : c.getD σ.cv = σ'.cv := by rw [← hσ]
    have ii2 : InsD ((a, MO.inst 439 dx σ'.f) :: π) (.raw (.ref a)) 439 σ'.f := .mu (.head _)
    have hW2 : ∀ b ∈ Γ.W, b ∈ adrs ((a, MO.inst 439 dx σ'.f) :: π) := fun b hb => by rw [hW] at hb; exact hb
    rw [e1] at f2
    refine Ex.cons (Ex.assignAttr (πa := []) (πb := _) (d := .inst 334 (snapF i (σ.termAt i) σ'.cv b)) K (EvP.new f2 K amb (by omega) (by fail "m_own") (k_Snapshot H) (by fail "m_el") hW2) (by fail "m_ev") (set_MemoryStorage_snap H) (Nat.le_of_ble_eq_true rfl) ?_)
    show Ex _ _ _ _ ((a, .inst 439 dx (Sto'.f { σ' with si := i, st := σ.termAt i, sv := σ'.cv, sb := b })) :: π) _ _ _
    have ii3 : InsD ((a, MO.inst 439 dx (Sto'.f { σ' with si := i, st := σ.termAt i, sv := σ'.cv, sb := b })) :: π) (.raw (.ref a)) 439 (Sto'.f { σ' with si := i, st := σ.termAt i, sv := σ'.cv, sb := b }) := .mu (.head _)
    refine Ex.cons (Ex.retP (by fail "m_ev") ⟨h4, h6, h5, ?_, ?_⟩)
    · rw [e1]
    · subst hσ
      rfl
noncomputable def Sto'.folded (σ : Stg) (i : Int) : Stg := { σ with base := i, bt := σ.termAt i, es := σ.es.drop (i - σ.base).toNat }
theorem fn_compact (H : Here Ω) {π : Led} {a dx : Addr} {σ : Stg} {i : Int} (ok : σ.Ok) (hi : -1000000 ≤ i ∧ i ≤ 1000000) :
    Fn Ω (.ref 429) [.raw (.ref a), .int i] ((a, .inst 439 dx σ.f) :: π) 3 (fun r π' => r = .none ∧ σ.base < i ∧ i ≤ σ.last ∧ π' = (a, .inst 439 dx (σ.folded i).f) :: π)
      (fun e π' => ((e = 80 ∧ i ≤ σ.base) ∨ (e = 140 ∧ σ.base < i ∧ σ.last < i)) ∧ π' = (a, .inst 439 dx σ.f) :: π) := by
  obtain ⟨P, hP⟩ := id H.k
  refine Fn.of_def (f := 429) (n := 2) (name := (fm 24 11).name) (qual := "MemoryStorage.compact") (params := (fm 24 11).params) (body := (fm 24 11).body) (scope := (fm 24 11).scope) (dV := .none) (kV := .none) (doc := .none) (pm := (.str "raftkeep.raftlog" 630)) (an := .none) (cdv := (.ref 428)) (ct := .none) (oc := .type "function") (od := .none) (osl := #[]) ["self", "i"] [("self", NameKind.local), ("i", NameKind.local), ("term", NameKind.local), ("Compacted", NameKind.globalImplicit), ("LogPanic", NameKind.globalImplicit)] (by rw [hP]; kernel_rfl) (by rw [hP]; kernel_rfl) (fun vs hvs => ?_) rfl (by kernel_rfl) rfl rfl (by decide) (by kernel_rfl) (by kernel_rfl) (by kernel_rfl) fun Γ A B => ?_
  · match vs, hvs with
    | [a0, a1], _ => kernel_rfl
  have K := B.ok
  have hn := B.nms
  have amb := B.amb
  have hW := B.W
  have O : Own Γ := ⟨B.own⟩
  show Ex _ _ _ [some _, some _, none, none, none] _ _ _ _
  have h1 := ok.base
  have h3 := ok.len
  have ii : InsD ((a, MO.inst 439 dx σ.f) :: π) (.raw (.ref a)) 439 σ.f := .mu (.head _)
  have fl := fn_last H ok ii
  have b1 : i.natAbs < 2 ^ 64 := by omega
  have b2 : σ.base.natAbs < 2 ^ 64 := by omega
  have b3 : σ.last.natAbs < 2 ^ 64 := by unfold Sto'.last; omega
  refine Ex.cons (Ex.ite (c := decide (i ≤ σ.base)) (by fail "m_ts") (fun h => ?_) (fun h => Ex.nil ?_))
  · fail "m_raise"
    exact ⟨.inl ⟨rfl, by simpa using h⟩, rfl⟩
  have h4 : σ.base < i := by simp at h; omega
  refine Ex.cons (Ex.ite (c := decide (σ.last < i)) (by fail "m_ts") (fun h => ?_) (fun h => Ex.nil ?_))
  · fail "m_raise"
    exact ⟨.inr ⟨rfl, h4, by simpa using h⟩, rfl⟩
  have h5 : i ≤ σ.last := by simp at h; omega
  have ft := fn_term_at H ok hi ii
  refine Ex.cons (Ex.assign K ((Ev.method (π₁ := (a, .inst 439 dx σ.f) :: π) (π₂ := []) K (amb.mono (by omega)) ft (by rw [List.append_nil]) (by fail "m_ev") ii rfl (met_MemoryStorage_term_at H) (by fail "m_el")).mono (Φ' := fun d π' => d = .int (σ.termAt i) ∧ π' = (a, .inst 439 dx σ.f) :: π) (Ψ' := fun e π' => ((e = 80 ∧ i ≤ σ.base) ∨ (e = 140 ∧ σ.base < i ∧ σ.last < i)) ∧ π' = (a, .inst 439 dx σ.f) :: π) (fun d π' hd => ?m1) fun e π' he => ?m2) (.loc (by fail "m_put")) ?go)
  case m1 =>
    obtain ⟨_, ⟨x1, x2, rfl, rfl⟩, rfl⟩ := hd
    exact ⟨rfl, by rw [List.append_nil]⟩
  case m2 =>
    obtain ⟨_, ⟨x, rfl⟩, rfl⟩ := he
    refine ⟨?_, by rw [List.append_nil]⟩
    rcases x with ⟨x1, rfl⟩ | ⟨_, x1, _⟩
    · omega
    · omega
  rintro _ _ ⟨rfl, rfl⟩
  show Ex _ _ _ [some _, some _, some (.int _), none, none] _ _ _ _
  have h6 : 0 ≤ i - σ.base := by omega
  have hz : (entsD σ.es).length ≤ 1000 := by rw [entsD_len]; omega
  fail "m_sets"
  fail "m_sets"
  fail "m_sets"
  refine Ex.nil ⟨rfl, h4, h5, ?_⟩
  rw [cut_from h6]
  unfold Sto'.folded
  show _ = (a, MO.inst 439 dx (Sto'.f _)) :: π
  unfold Sto'.f
  dsimp only
  rw [entsD, entsD, List.map_drop]
  rfl
end
end

section
open PySem PySem.Calls PySem.W PyProof.Rows PySem.Spec
theorem rangeD_get {a c : Int} {n i : Nat} {d : D} (h : (rangeD a c n)[i]? = some d) : i < n ∧ d = .int (a + c * i) := by
  have hi : i < n := by
    have := (List.getElem?_eq_some_iff.mp h).1
    simpa [rangeD] using this
  refine ⟨hi, ?_⟩
  unfold rangeD at h
  rw [List.getElem?_map, List.getElem?_range hi] at h
  exact (Option.some.inj h).symm
theorem rangeD_len (a c : Int) (n : Nat) : (rangeD a c n).length = n := by simp [rangeD]
theorem rng_on {a b c : Int} {π π' : Led} {v : Value} {G G' : GM} (h : RngV a b c v G π) (g : GLe G G') : RngV a b c v G' π' := by
  obtain ⟨r, rfl, t, u, w, e⟩ := h
  exact ⟨r, rfl, t, u, w, g _ _ e⟩
/-- rows that stand one behind the other, from s on -/
noncomputable def cont (s : Int) (rs : List Row) : Prop := ∀ (k : Nat) r, rs[k]? = some r → r.i = s + k
noncomputable def Sto'.app (σ : Stg) (s : Int) (rs : List Row) : Stg := { σ with es := σ.es.take ((if s < σ.base + 1 then σ.base + 1 else s) - (σ.base + 1)).toNat ++ rs.drop (σ.base + 1 - s).toNat }
section
variable {Ω : Wo}
theorem fn_append (H : Here Ω) {π : Led} {a dx : Addr} {σ : Stg} {d : D} {rs : List Row} {s : Int} (ok : σ.Ok) (hz : rs.length ≤ 100) (hb : ∀ r ∈ rs, -1000000 ≤ r.i ∧ r.i ≤ 1000000) (hs : ∀ r, rs[0]? = some r → r.i = s) (ll : ∀ π', LstD ((a, .inst 439 dx π') :: π) d (entsD rs)) :
    Fn Ω (.ref 408) [.raw (.ref a), d] ((a, .inst 439 dx σ.f) :: π) 3 (fun r π' => r = .none ∧ ((π' = (a, .inst 439 dx σ.f) :: π ∧ (rs = [] ∨ (cont s rs ∧ s + rs.length - 1 < σ.base + 1))) ∨ (rs ≠ [] ∧ cont s rs ∧ σ.base + 1 ≤ s + rs.length - 1 ∧ s ≤ σ.last + 1 ∧ π' = (a, .inst 439 dx (σ.app s rs).f) :: π)))
      (fun e π' => e = 128 ∧ rs ≠ [] ∧ (¬ cont s rs ∨ σ.last + 1 < s) ∧ π' = (a, .inst 439 dx σ.f) :: π) := by
  obtain ⟨P, hP⟩ := id H.k
  refine Fn.of_def (f := 408) (n := 2) (name := (fm 24 8).name) (qual := "MemoryStorage.append") (params := (fm 24 8).params) (body := (fm 24 8).body) (scope := (fm 24 8).scope) (dV := .none) (kV := .none) (doc := .none) (pm := (.str "raftkeep.raftlog" 630)) (an := .none) (cdv := (.ref 407)) (ct := .none) (oc := .type "function") (od := .none) (osl := #[]) ["self", "entries"] [("self", NameKind.local), ("entries", NameKind.local), ("start", NameKind.local), ("k", NameKind.local), ("first", NameKind.local), ("len", NameKind.globalImplicit), ("range", NameKind.globalImplicit), ("LogGap", NameKind.globalImplicit)] (by rw [hP]; kernel_rfl) (by rw [hP]; kernel_rfl) (fun vs hvs => ?_) rfl (by kernel_rfl) rfl rfl (by decide) (by kernel_rfl) (by kernel_rfl) (by kernel_rfl) fun Γ A B => ?_
  · match vs, hvs with
    | [a0, a1], _ => kernel_rfl
  have K := B.ok
  have hn := B.nms
  have amb := B.amb
  have hW := B.W
  have O : Own Γ := ⟨B.own⟩
  show Ex _ _ _ [some _, some _, none, none, none, none, none, none] _ _ _ _
  have h1 := ok.base
  have h3 := ok.len
  have ii : InsD ((a, MO.inst 439 dx σ.f) :: π) (.raw (.ref a)) 439 σ.f := .mu (.head _)
  have l1 := ll σ.f
  have fl := fn_last H ok ii
  have ff := fn_first H ii
  have hz1 : (entsD rs).length < 2 ^ 63 := by rw [entsD_len]; omega
  have hlen : (entsD rs).length = rs.length := entsD_len rs
  refine Ex.cons (Ex.ite (c := (((entsD rs).length : Int) == 0)) (by fail "m_ts") (fun h => ?_) (fun h => Ex.nil ?_))
  · refine Ex.cons (Ex.retN ⟨rfl, .inl ⟨rfl, .inl ?_⟩⟩)
    have : rs.length = 0 := by rw [hlen] at h; simpa using h
    exact List.eq_nil_of_length_eq_zero this
  have hne : 0 < rs.length := by
    rw [hlen] at h
    have : (rs.length : Int) ≠ 0 := by simpa using h
    omega
  have hne' : rs ≠ [] := fun q => by rw [q] at hne; exact Nat.lt_irrefl _ hne
  have h0 := List.getElem?_eq_getElem hne
  generalize rs[0] = r0 at h0
  have hr0 := hs r0 h0
  have hs' : -1000000 ≤ s ∧ s ≤ 1000000 := by
    have := hb r0 (List.mem_of_getElem? h0)
    rw [hr0] at this; exact this
  have hg0 : (entsD rs)[(0 : Int).toNat]? = some r0.ent := by rw [entsD, List.getElem?_map]; show Option.map _ rs[0]? = _; rw [h0]; rfl
  refine Ex.cons (Ex.assignP (d := .int r0.i) K (by fail "m_ev") (.loc (by fail "m_put")) ?_)
  rw [hr0]
  show Ex _ _ _ [some _, some _, some (.int s), none, none, none, none, none] _ _ _ _
  refine Ex.seq (fun ρ π' => ∃ k, ρ = [some (.raw (.ref a)), some d, some (.int s), k, none, none, none, none] ∧ π' = (a, .inst 439 dx σ.f) :: π ∧ cont s rs)
    (Ex.forIn (fun i ρ π' => ∃ k, ρ = [some (.raw (.ref a)), some d, some (.int s), k, none, none, none, none] ∧ π' = (a, .inst 439 dx σ.f) :: π ∧ ∀ (j : Nat) r, j < i → rs[j]? = some r → r.i = s + j) O K
      (SrcP.range1 amb.handled (by fail "m_glob") (by fail "m_ev") (by rw [hlen]; omega) (by rw [hlen]; omega)) (fun v G G' i ρ' π' it o h g _ => rng_on h g) ?turn ?done ⟨_, rfl, rfl, fun j r hj => absurd hj (Nat.not_lt_zero _)⟩) ?rest
  case done =>
    rintro ρ' π' ⟨k, rfl, rfl, hc⟩
    refine ⟨k, rfl, rfl, fun j r hj => hc j r ?_ hj⟩
    have := (List.getElem?_eq_some_iff.mp hj).1
    rw [rangeD_len, hlen]
    omega
  case turn =>
    rintro i x ρ' π' it o hd ⟨k, rfl, rfl, hc⟩
    obtain ⟨hi, rfl⟩ := rangeD_get hd
    have hi : i < rs.length := by rw [hlen] at hi; omega
    have hr := List.getElem?_eq_getElem hi
    generalize rs[i] = r at hr
    have hbr := hb r (List.mem_of_getElem? hr)
    have e0 : (0 : Int) + 1 * (i : Int) = i := by omega
    rw [e0]
    refine ⟨_, .loc (by fail "m_put"), ?_⟩
    show Ex _ _ _ [some _, some _, some _, some (.int i), none, none, none, none] ((it, .obj o) :: (a, .inst 439 dx σ.f) :: π) _ _ _
    have l2 : LstD ((it, MO.obj o) :: (a, .inst 439 dx σ.f) :: π) d (entsD rs) := l1.weak fun p hp => .tail _ hp
    have hg : (entsD rs)[((i : Int)).toNat]? = some r.ent := by rw [entsD, List.getElem?_map, Int.toNat_natCast, hr]; rfl
    have b1 : r.i.natAbs < 2 ^ 64 := by omega
    have b2 : (s + i).natAbs < 2 ^ 64 := by omega
    have hi0 : (0 : Int) ≤ i := by omega
    have hi1 : (i : Int) < 2 ^ 63 := by omega
    refine Ex.cons (Ex.ite (c := r.i != s + i) (by fail "m_ts") (fun h => ?_) (fun h => Ex.nil ?_))
    · fail "m_raise"
      refine ⟨_, .refl _, rfl, hne', .inl fun hcc => ?_, rfl⟩
      have := hcc i r hr
      rw [this] at h
      simp at h
    · refine Ex.nil ⟨_, .refl _, _, rfl, rfl, fun j r' hj hr' => ?_⟩
      by_cases q : j = i
      · subst q
        rw [hr] at hr'
        cases hr'
        simpa using h
      · exact hc j r' (by omega) hr'
  case rest =>
    rintro _ _ ⟨k, rfl, rfl, hc⟩
    have b1 : s.natAbs < 2 ^ 64 := by omega
    have b3 : σ.last.natAbs < 2 ^ 64 := by unfold Sto'.last; omega
    refine Ex.cons (Ex.assignP K (by fail "m_ev") (.loc (by fail "m_put")) ?_)
    show Ex _ _ _ [some _, some _, some (.int s), k, some (.int (σ.base + 1)), none, none, none] _ _ _ _
    refine Ex.cons (Ex.ite (c := decide (s + (entsD rs).length - 1 < σ.base + 1)) (by fail "m_ts") (fun h => ?_) (fun h => Ex.nil ?_))
    · exact Ex.cons (Ex.retN ⟨rfl, .inl ⟨rfl, .inr ⟨hc, by rw [hlen] at h; simpa using h⟩⟩⟩)
    have h4 : σ.base + 1 ≤ s + rs.length - 1 := by rw [hlen] at h; simp at h; omega
    refine Ex.cons (Ex.ite (c := decide (σ.last + 1 < s)) (by fail "m_ts") (fun h => ?_) (fun h => Ex.nil ?_))
    · fail "m_raise"
      exact ⟨rfl, hne', .inr (by simpa using h), rfl⟩
    have h5 : s ≤ σ.last + 1 := by simp at h; omega
    have hz2 : (entsD rs).length ≤ 1000 := by omega
    have hz3 : (entsD σ.es).length ≤ 1000 := by rw [entsD_len]; omega
    refine Ex.seq (fun ρ π' => ∃ e, LstD ((a, .inst 439 dx σ.f) :: π) e (entsD (rs.drop (σ.base + 1 - s).toNat)) ∧ ρ = [some (.raw (.ref a)), some e, some (.int (if s < σ.base + 1 then σ.base + 1 else s)), k, some (.int (σ.base + 1)), none, none, none] ∧ π' = (a, .inst 439 dx σ.f) :: π) ?ifs ?fin
    case ifs =>
      refine Ex.ite (c := decide (s < σ.base + 1)) (by fail "m_ts") (fun h => ?_) (fun h => Ex.nil ⟨d, ?_, ?_, rfl⟩)
      · have h6 : s < σ.base + 1 := by simpa using h
        have h7 : 0 ≤ σ.base + 1 - s := by omega
        refine Ex.cons (Ex.assignP K (by fail "m_ev") (.loc (by fail "m_put")) ?_)
        rw [cut_from h7]
        show Ex _ _ _ [some _, some (.list _), some (.int s), k, some (.int (σ.base + 1)), none, none, none] _ _ _ _
        refine Ex.cons (Ex.assignP K (by fail "m_ev") (.loc (by fail "m_put")) (Ex.nil ⟨.list (entsD (rs.drop (σ.base + 1 - s).toNat)), .fro _, ?_, rfl⟩))
        rw [if_pos h6, entsD, entsD, List.map_drop]
      · have h6 : ¬ s < σ.base + 1 := by simpa using h
        have : (σ.base + 1 - s).toNat = 0 := by omega
        rw [this, List.drop_zero]
        exact l1
      · have h6 : ¬ s < σ.base + 1 := by simpa using h
        rw [if_neg h6]
    case fin =>
      rintro _ _ ⟨e, le, rfl, rfl⟩
      generalize hs2 : (if s < σ.base + 1 then σ.base + 1 else s) = s2
      have h8 : 0 ≤ s2 - (σ.base + 1) := by
        rw [← hs2]
        split <;> omega
      have hz4 : (cut none (some (s2 - (σ.base + 1))) (entsD σ.es)).length + (entsD (rs.drop (σ.base + 1 - s).toNat)).length ≤ 1000 := by
        rw [cut_upto h8, List.length_take, entsD_len, entsD_len, List.length_drop]
        omega
      fail "m_sets"
      refine Ex.nil ⟨rfl, .inr ⟨hne', hc, h4, h5, ?_⟩⟩
      rw [cut_upto h8, ← hs2]
      unfold Sto'.app
      show _ = (a, MO.inst 439 dx (Sto'.f _)) :: π
      unfold Sto'.f
      dsimp only
      rw [entsD, entsD, entsD, List.map_append, List.map_take]
      rfl
end
end

section
open PySem PySem.Calls PySem.W PyProof.Rows PySem.Spec
/-- one call that was taken, as the law tells it -/
structure Item where
  k : Int
  i : Int
  told : List Row
noncomputable def optD : Option Int → D
  | none => .none
  | some i => .int i
noncomputable def minf (f : Option Int) (i : Int) : Option Int := some (match f with | none => i | some g => if i < g then i else g)
noncomputable def lowr (f : Option Int) (r : Row) : Bool := f.isNone || decide (r.i < f.getD 0)
/-- the walk back over the story -/
noncomputable def st : List Item → Option Int → Option Int → List Row → Option Int × List Row
  | [], b, _, rs => (b, rs)
  | x :: xs, b, f, rs =>
    if x.k = 1 then st xs b (minf f x.i) (x.told.filter (lowr f) ++ rs)
    else if x.k = 0 then (some (b.getD x.i), x.told ++ rs)
    else st xs (some (b.getD x.i)) f rs
noncomputable def stB : List Item → Option Int
  | [] => none
  | x :: xs => if x.k = 1 then stB xs else some x.i
noncomputable def stR : List Item → Option Int → List Row
  | [], _ => []
  | x :: xs, f => if x.k = 1 then stR xs (minf f x.i) ++ x.told.filter (lowr f) else if x.k = 0 then x.told else stR xs f
theorem st_eq : ∀ (xs : List Item) (b f : Option Int) (rs : List Row), (st xs b f rs).1 = b.or (stB xs) ∧ (st xs b f rs).2 = stR xs f ++ rs
  | [], b, f, rs => by simp [st, stB, stR]
  | x :: xs, b, f, rs => by
    by_cases h1 : x.k = 1
    · obtain ⟨e1, e2⟩ := st_eq xs b (minf f x.i) (x.told.filter (lowr f) ++ rs)
      simp only [st, stB, stR, h1, if_true]
      exact ⟨e1, by rw [e2, List.append_assoc]⟩
    · by_cases h0 : x.k = 0
      · have : ¬ (0 : Int) = 1 := by decide
        simp only [st, stB, stR, h0, if_true, if_neg this]
        refine ⟨?_, trivial⟩
        cases b <;> rfl
      · obtain ⟨e1, e2⟩ := st_eq xs (some (b.getD x.i)) f rs
        simp only [st, stB, stR, h1, h0, if_false]
        refine ⟨?_, e2⟩
        rw [e1]
        cases b <;> rfl
noncomputable def full (σ : Stg) (k0 : Int) (b0 : List UInt8) : List Row := ⟨σ.bt, σ.base, k0, b0⟩ :: σ.es
/-- the story tells the storage -/
structure Inv (story : List Item) (σ : Stg) (k0 : Int) (b0 : List UInt8) : Prop where
  base : stB story.reverse = some σ.base
  all : (stR story.reverse none).filter (fun r => decide (σ.base ≤ r.i)) = full σ k0 b0
  low : ∀ f, σ.base < f → (stR story.reverse (some f)).filter (fun r => decide (σ.base ≤ r.i)) = (full σ k0 b0).filter (fun r => decide (r.i < f))
  run : ∀ (j : Nat) r, (full σ k0 b0)[j]? = some r → r.i = σ.base + j
theorem filter_lowr_none (rs : List Row) : rs.filter (lowr none) = rs := by
  rw [List.filter_eq_self]; intro r _; rfl
theorem filter_lowr_some (rs : List Row) (f : Int) : rs.filter (lowr (some f)) = rs.filter (fun r => decide (r.i < f)) := by
  congr 1
theorem run_filter_lt {s f : Int} : ∀ {rs : List Row} , (∀ (j : Nat) r, rs[j]? = some r → r.i = s + j) → s ≤ f → rs.filter (fun r => decide (r.i < f)) = rs.take (f - s).toNat := by
  intro rs
  induction rs generalizing s with
  | nil => intro _ _; simp
  | cons r rs ih =>
    intro h hs
    have h0 := h 0 r rfl
    have h0 : r.i = s := by simpa using h0
    by_cases q : s = f
    · subst q
      have e : (s - s).toNat = 0 := by omega
      rw [e, List.take_zero, List.filter_eq_nil_iff]
      intro x hx
      obtain ⟨j, hj⟩ := List.getElem?_of_mem hx
      have := h j x hj
      simp; omega
    · have e : (f - s).toNat = (f - (s + 1)).toNat + 1 := by omega
      rw [e, List.take_succ_cons, List.filter_cons_of_pos (by simp; omega), ih (s := s + 1) ?_ (by omega)]
      intro j x hx
      have := h (j + 1) x (by simpa using hx)
      omega
theorem run_filter_ge {s f : Int} : ∀ {rs : List Row} , (∀ (j : Nat) r, rs[j]? = some r → r.i = s + j) → s ≤ f → rs.filter (fun r => decide (f ≤ r.i)) = rs.drop (f - s).toNat := by
  intro rs
  induction rs generalizing s with
  | nil => intro _ _; simp
  | cons r rs ih =>
    intro h hs
    have h0 := h 0 r rfl
    have h0 : r.i = s := by simpa using h0
    by_cases q : s = f
    · subst q
      have e : (s - s).toNat = 0 := by omega
      rw [e, List.drop_zero, List.filter_eq_self]
      intro x hx
      obtain ⟨j, hj⟩ := List.getElem?_of_mem hx
      have := h j x hj
      simp; omega
    · have e : (f - s).toNat = (f - (s + 1)).toNat + 1 := by omega
      rw [e, List.drop_succ_cons, List.filter_cons_of_neg (by simp; omega), ih (s := s + 1) ?_ (by omega)]
      intro j x hx
      have := h (j + 1) x (by simpa using hx)
      omega
section
variable {story : List Item} {σ : Stg} {k0 : Int} {b0 : List UInt8}
theorem Inv.same (I : Inv story σ k0 b0) {σ' : Stg} (h1 : σ'.base = σ.base) (h2 : σ'.bt = σ.bt) (h3 : σ'.es = σ.es) : Inv story σ' k0 b0 := by
  have e : full σ' k0 b0 = full σ k0 b0 := by unfold full; rw [h1, h2, h3]
  refine ⟨by rw [h1]; exact I.base, ?_, ?_, ?_⟩
  · rw [h1, e]; exact I.all
  · rw [h1, e]; exact I.low
  · rw [h1, e]; exact I.run
theorem Inv.fold (I : Inv story σ k0 b0) {i : Int} (h1 : σ.base < i) (h2 : i ≤ σ.last) : ∃ r ∈ σ.es, Inv (story ++ [⟨2, i, []⟩]) (σ.folded i) r.k r.b := by
  have hi : (i - σ.base).toNat - 1 < σ.es.length := by unfold Sto'.last at h2; omega
  have hr := List.getElem?_eq_getElem hi
  generalize hrr : σ.es[(i - σ.base).toNat - 1] = r at hr
  have e1 : (i - (σ.base + 1)).toNat = (i - σ.base).toNat - 1 := by omega
  have et : σ.termAt i = r.t := by
    unfold Sto'.termAt
    rw [if_neg (by omega), e1, hr]; rfl
  have e2 : (i - σ.base).toNat = ((i - σ.base).toNat - 1) + 1 := by omega
  have hri : r.i = i := by
    have := I.run ((i - σ.base).toNat - 1 + 1) r (by unfold full; rw [List.getElem?_cons_succ]; exact hr)
    omega
  have ed : (full σ k0 b0).drop (i - σ.base).toNat = full (σ.folded i) r.k r.b := by
    unfold full
    rw [e2, List.drop_succ_cons, List.drop_eq_getElem_cons hi, hrr]
    show _ = (⟨σ.termAt i, i, r.k, r.b⟩ : Row) :: σ.es.drop (i - σ.base).toNat
    rw [et, e2]
    congr 1
    obtain ⟨a, b, c, d⟩ := r
    cases hri
    rfl
  have er : (story ++ [(⟨2, i, []⟩ : Item)]).reverse = ⟨2, i, []⟩ :: story.reverse := by simp
  have n1 : ¬ (2 : Int) = 1 := by decide
  have n0 : ¬ (2 : Int) = 0 := by decide
  refine ⟨r, List.mem_of_getElem? hr, ?_, ?_, ?_, ?_⟩
  · rw [er]
    simp only [stB, n1, if_false]; rfl
  · rw [er]
    simp only [stR, n1, n0, if_false]
    show List.filter (fun r : Row => decide (i ≤ r.i)) _ = _
    have : ∀ l : List Row, l.filter (fun r => decide (i ≤ r.i)) = (l.filter (fun r => decide (σ.base ≤ r.i))).filter (fun r => decide (i ≤ r.i)) := fun l => by
      rw [List.filter_filter]
      congr 1; funext x
      by_cases q : i ≤ x.i
      · have : σ.base ≤ x.i := by omega
        simp [q, this]
      · simp [q]
    rw [this, I.all, run_filter_ge I.run (by omega), ed]
  · intro f hf
    rw [er]
    simp only [stR, n1, n0, if_false]
    show List.filter (fun r : Row => decide (i ≤ r.i)) _ = _
    have hf : i < f := hf
    have : ∀ l : List Row, l.filter (fun r => decide (i ≤ r.i)) = (l.filter (fun r => decide (σ.base ≤ r.i))).filter (fun r => decide (i ≤ r.i)) := fun l => by
      rw [List.filter_filter]
      congr 1; funext x
      by_cases q : i ≤ x.i
      · have : σ.base ≤ x.i := by omega
        simp [q, this]
      · simp [q]
    rw [this, I.low f (by omega), ← ed, ← run_filter_ge I.run (by omega), List.filter_filter, List.filter_filter]
    congr 1; funext x
    rw [Bool.and_comm]
  · intro j x hx
    rw [← ed, List.getElem?_drop] at hx
    have := I.run _ x hx
    show x.i = i + j
    omega
theorem Inv.app (I : Inv story σ k0 b0) {s : Int} {rs : List Row} (hc : ∀ (k : Nat) r, rs[k]? = some r → r.i = s + k) (h1 : σ.base + 1 ≤ s + rs.length - 1) (h2 : s ≤ σ.last + 1) :
    Inv (story ++ [⟨1, if s < σ.base + 1 then σ.base + 1 else s, rs.filter (fun r => decide (σ.base < r.i))⟩]) (σ.app s rs) k0 b0 := by
  generalize hs : (if s < σ.base + 1 then σ.base + 1 else s) = s2
  have hs2 : σ.base + 1 ≤ s2 := by rw [← hs]; split <;> omega
  have hs3 : s2 ≤ σ.last + 1 := by
    rw [← hs]
    split
    · unfold Sto'.last; omega
    · omega
  have et : rs.filter (fun r => decide (σ.base < r.i)) = rs.drop (σ.base + 1 - s).toNat := by
    have e : (fun r : Row => decide (σ.base < r.i)) = fun r => decide (σ.base + 1 ≤ r.i) := by
      funext r; congr 1
    rw [e]
    by_cases q : s ≤ σ.base + 1
    · exact run_filter_ge hc q
    · have : (σ.base + 1 - s).toNat = 0 := by omega
      rw [this, List.drop_zero, List.filter_eq_self]
      intro x hx
      obtain ⟨j, hj⟩ := List.getElem?_of_mem hx
      have := hc j x hj
      simp; omega
  generalize htt : rs.filter (fun r => decide (σ.base < r.i)) = told at et
  have ht : ∀ (k : Nat) r, told[k]? = some r → r.i = s2 + k := by
    intro k r hk
    rw [et, List.getElem?_drop] at hk
    have := hc _ r hk
    rw [this, ← hs]
    split <;> omega
  have er : (story ++ [(⟨1, s2, told⟩ : Item)]).reverse = ⟨1, s2, told⟩ :: story.reverse := by simp
  have ef : full (σ.app s rs) k0 b0 = (full σ k0 b0).take (s2 - σ.base).toNat ++ told := by
    unfold full Sto'.app
    have e2 : (s2 - σ.base).toNat = (s2 - (σ.base + 1)).toNat + 1 := by omega
    rw [e2, List.take_succ_cons, hs, et]
    rfl
  have lt : ∀ f : Int, σ.base ≤ f → (full σ k0 b0).filter (fun r => decide (r.i < f)) = (full σ k0 b0).take (f - σ.base).toNat := fun f hf => run_filter_lt I.run hf
  have tb : told.filter (fun r => decide (σ.base ≤ r.i)) = told := by
    rw [List.filter_eq_self]
    intro x hx
    obtain ⟨j, hj⟩ := List.getElem?_of_mem hx
    have := ht j x hj
    simp; omega
  refine ⟨?_, ?_, ?_, ?_⟩
  · rw [er]
    simp only [stB, if_true]
    exact I.base
  · rw [er]
    simp only [stR, if_true]
    show List.filter (fun r : Row => decide (σ.base ≤ r.i)) _ = _
    rw [List.filter_append, filter_lowr_none]
    show List.filter (fun r : Row => decide (σ.base ≤ r.i)) (stR story.reverse (some s2)) ++ _ = _
    rw [I.low s2 (by omega), tb, lt s2 (by omega), ef]
  · intro f hf
    have hf : σ.base < f := hf
    rw [er]
    simp only [stR, if_true]
    show List.filter (fun r : Row => decide (σ.base ≤ r.i)) _ = _
    rw [List.filter_append, filter_lowr_some]
    show List.filter (fun r : Row => decide (σ.base ≤ r.i)) (stR story.reverse (some (if s2 < f then s2 else f))) ++ _ = _
    rw [I.low _ (by split <;> omega), ef, List.filter_append, ← lt s2 (by omega), List.filter_filter, List.filter_filter]
    congr 1
    · congr 1; funext x
      by_cases q1 : x.i < f <;> by_cases q2 : x.i < s2 <;> by_cases q3 : s2 < f <;> simp [q1, q2, q3] <;> omega
    · refine List.filter_congr fun x hx => ?_
      obtain ⟨j, hj⟩ := List.getElem?_of_mem hx
      have := ht j x hj
      have : σ.base ≤ x.i := by omega
      simp [this]
  · intro j x hx
    show x.i = σ.base + j
    rw [ef] at hx
    have hl : ((full σ k0 b0).take (s2 - σ.base).toNat).length = (s2 - σ.base).toNat := by
      rw [List.length_take]
      unfold full
      rw [List.length_cons]
      unfold Sto'.last at hs3
      omega
    by_cases q : j < (s2 - σ.base).toNat
    · rw [List.getElem?_append_left (by rw [hl]; exact q), List.getElem?_take, if_pos q] at hx
      exact I.run j x hx
    · rw [List.getElem?_append_right (by rw [hl]; omega), hl] at hx
      have := ht _ x hx
      omega
theorem Inv.snap {story : List Item} {σ : Stg} {i t : Int} {vs : List Int} {b : List UInt8} (k0 : Int) (b0 : List UInt8) : Inv (story ++ [⟨0, i, [⟨t, i, k0, b0⟩]⟩]) (σ.newSnap i t vs b) k0 b0 := by
  have er : (story ++ [(⟨0, i, [⟨t, i, k0, b0⟩]⟩ : Item)]).reverse = ⟨0, i, [⟨t, i, k0, b0⟩]⟩ :: story.reverse := by simp
  have n1 : ¬ (0 : Int) = 1 := by decide
  have ef : full (σ.newSnap i t vs b) k0 b0 = [⟨t, i, k0, b0⟩] := rfl
  refine ⟨?_, ?_, ?_, ?_⟩
  · rw [er]
    simp only [stB, n1, if_false]; rfl
  · rw [er, ef]
    simp only [stR, n1, if_false, if_true]
    show List.filter (fun r : Row => decide (i ≤ r.i)) _ = _
    simp
  · intro f hf
    have hf : i < f := hf
    rw [er, ef]
    simp only [stR, n1, if_false, if_true]
    show List.filter (fun r : Row => decide (i ≤ r.i)) _ = _
    simp [hf]
  · intro j x hx
    rw [ef] at hx
    show x.i = i + j
    cases j with
    | zero => cases hx; simp
    | succ j => simp at hx
theorem Inv.init (vs : List Int) (i : Int) (h : (stInit vs).base = i) : Inv [⟨0, i, [⟨i, i, 0, []⟩]⟩] (stInit vs) 0 [] := by
  have := Inv.snap (story := []) (σ := stInit vs) (i := i) (t := i) (vs := vs) (b := []) 0 []
  refine Inv.same this ?_ ?_ rfl
  · rw [h]; rfl
  · show (stInit vs).bt = i
    rw [← h]; rfl
end
end

section
open PySem PySem.Calls PySem.W PyProof.Rows PySem.Spec
noncomputable def unrow : D → Row
  | .tup [.int t, .int i, .int k, .bytes b] => ⟨t, i, k, b.toList⟩
  | _ => ⟨0, 0, 0, []⟩
theorem unrow_tup (r : Row) : unrow r.tup = r := by
  rfl
noncomputable def unint : D → Int
  | .int i => i
  | _ => 0
/-- a width, as the law counts it -/
noncomputable def lw (n : Int) : Int := if n < 128 then 1 else if n < 16384 then 2 else 3
noncomputable def wt (r : Row) : Int := 1 + (lw r.t + (lw r.i + (lw r.k + 0))) + r.b.length
noncomputable def fitsK (rows : List Row) (limit : Int) (k : Int) : Bool := k == 1 || decide ((((rows.map wt).take k.toNat).sum) ≤ limit)
noncomputable def fits (rows : List Row) (limit : Int) : List D := (rangeD 1 1 ((rows.length : Int) + 1 - 1).toNat).filterMap fun d => if fitsK rows limit (unint d) then some d else none
noncomputable def tupsD (rs : List Row) : List D := rs.map Row.tup
theorem tupsD_len (rs : List Row) : (tupsD rs).length = rs.length := by rw [tupsD, List.length_map]
section
variable {Ω : Wo}
theorem fn_terms (H : Here Ω) : FnP Ω (.ref 450) [] [] 1 (.list [.int 1, .int 2, .int 128, .int 20000]) := by
  obtain ⟨P, hP⟩ := id H.k
  refine Fn.of_def (f := 450) (n := 0) (name := (ft 26).name) (qual := "_law_terms") (params := (ft 26).params) (body := (ft 26).body) (scope := (ft 26).scope) (dV := .none) (kV := .none) (doc := .none) (pm := (.str "law_no0407_01" 770)) (an := .none) (cdv := (.ref 449)) (ct := .none) (oc := .type "function") (od := .none) (osl := #[]) [] [] (by rw [hP]; kernel_rfl) (by rw [hP]; kernel_rfl) (fun vs hvs => ?_) rfl (by kernel_rfl) rfl rfl (by decide) (by kernel_rfl) (by kernel_rfl) (by kernel_rfl) fun Γ A B => ?_
  · match vs, hvs with
    | [], _ => kernel_rfl
  have K := B.ok
  have hn := B.nms
  have amb := B.amb
  have hW := B.W
  have O : Own Γ := ⟨B.own⟩
  show Ex _ _ _ [] _ _ _ _
  exact Ex.cons (Ex.retP (by fail "m_ev") ⟨rfl, rfl⟩)
theorem fn_draw (H : Here Ω) {ns : List Int} {i v : Int} (hl : 0 < ns.length) (hz : ns.length ≤ 20) (hi : 0 ≤ i) (hi' : i < 100) (hv : ns[(i.fmod ns.length).toNat]? = some v) : FnP Ω (.ref 457) [.list (intsD ns), .int i] [] 1 (.int (v + 7919 * i.fdiv ns.length)) := by
  obtain ⟨P, hP⟩ := id H.k
  refine Fn.of_def (f := 457) (n := 0) (name := (ft 27).name) (qual := "_law_draw") (params := (ft 27).params) (body := (ft 27).body) (scope := (ft 27).scope) (dV := .none) (kV := .none) (doc := .none) (pm := (.str "law_no0407_01" 770)) (an := .none) (cdv := (.ref 456)) (ct := .none) (oc := .type "function") (od := .none) (osl := #[]) ["nums", "i"] [("nums", NameKind.local), ("i", NameKind.local), ("len", NameKind.globalImplicit)] (by rw [hP]; kernel_rfl) (by rw [hP]; kernel_rfl) (fun vs hvs => ?_) rfl (by kernel_rfl) rfl rfl (by decide) (by kernel_rfl) (by kernel_rfl) (by kernel_rfl) fun Γ A B => ?_
  · match vs, hvs with
    | [a0, a1], _ => kernel_rfl
  have K := B.ok
  have hn := B.nms
  have amb := B.amb
  have hW := B.W
  have O : Own Γ := ⟨B.own⟩
  show Ex _ _ _ [some _, some _, none] _ _ _ _
  have e : (intsD ns).length = ns.length := by rw [intsD, List.length_map]
  have h1 : ((intsD ns).length : Int) ≠ 0 := by rw [e]; omega
  have h2 : Builtin.divisionGoesByPylong i (intsD ns).length = false := PyProof.noPylong_small (by rw [e]; omega)
  have h3 : IntMulOk 7919 (i.fdiv (intsD ns).length) := .of_left (by decide)
  have h4 : 0 ≤ i.fmod (intsD ns).length := by
    rw [Int.fmod_eq_emod_of_nonneg _ (by omega)]
    exact Int.emod_nonneg _ h1
  have h5 : (intsD ns)[(i.fmod (intsD ns).length).toNat]? = some (.int v) := by rw [e, intsD, List.getElem?_map, hv]; rfl
  have h6 : i.fmod (intsD ns).length < 2 ^ 63 := by
    rw [Int.fmod_eq_emod_of_nonneg _ (by omega)]
    have := Int.emod_lt_of_pos i (b := ((intsD ns).length : Int)) (by omega)
    omega
  have h7 : (intsD ns).length < 2 ^ 63 := by omega
  refine Ex.cons (Ex.retP (d := .int (v + 7919 * i.fdiv (intsD ns).length)) (by fail "m_ev") ⟨by rw [e], rfl⟩)
theorem fn_width (H : Here Ω) {n : Int} : FnP Ω (.ref 464) [.int n] [] 1 (.int (lw n)) := by
  obtain ⟨P, hP⟩ := id H.k
  refine Fn.of_def (f := 464) (n := 0) (name := (ft 28).name) (qual := "_law_width") (params := (ft 28).params) (body := (ft 28).body) (scope := (ft 28).scope) (dV := .none) (kV := .none) (doc := .none) (pm := (.str "law_no0407_01" 770)) (an := .none) (cdv := (.ref 463)) (ct := .none) (oc := .type "function") (od := .none) (osl := #[]) ["n"] [("n", NameKind.local)] (by rw [hP]; kernel_rfl) (by rw [hP]; kernel_rfl) (fun vs hvs => ?_) rfl (by kernel_rfl) rfl rfl (by decide) (by kernel_rfl) (by kernel_rfl) (by kernel_rfl) fun Γ A B => ?_
  · match vs, hvs with
    | [a0], _ => kernel_rfl
  have K := B.ok
  have hn := B.nms
  have amb := B.amb
  have hW := B.W
  have O : Own Γ := ⟨B.own⟩
  show Ex _ _ _ [some _] _ _ _ _
  refine Ex.cons (Ex.ite (c := decide (n < 128)) (by fail "m_ts") (fun h => ?_) (fun h => Ex.nil ?_))
  · refine Ex.cons (Ex.retP (by fail "m_ev") ⟨?_, rfl⟩)
    unfold lw
    rw [if_pos (by simpa using h)]
  refine Ex.cons (Ex.ite (c := decide (n < 16384)) (by fail "m_ts") (fun h' => ?_) (fun h' => Ex.nil ?_))
  · refine Ex.cons (Ex.retP (by fail "m_ev") ⟨?_, rfl⟩)
    unfold lw
    rw [if_neg (by simpa using h), if_pos (by simpa using h')]
  · refine Ex.cons (Ex.retP (by fail "m_ev") ⟨?_, rfl⟩)
    unfold lw
    rw [if_neg (by simpa using h), if_neg (by simpa using h')]
theorem fn_page (H : Here Ω) {rows : List Row} {limit : Int} (hz : rows.length ≤ 400) (hb : ∀ r ∈ rows, r.b.length ≤ 1000) : FnP Ω (.ref 469) [.list (tupsD rows), .int limit] [] 2 (.list (tupsD (rows.take (fits rows limit).length))) := by
  obtain ⟨P, hP⟩ := id H.k
  refine Fn.of_def (f := 469) (n := 1) (name := (ft 29).name) (qual := "_law_page") (params := (ft 29).params) (body := (ft 29).body) (scope := (ft 29).scope) (dV := .none) (kV := .none) (doc := .none) (pm := (.str "law_no0407_01" 770)) (an := .none) (cdv := (.ref 468)) (ct := .none) (oc := .type "function") (od := .none) (osl := #[]) ["rows", "limit"] [("rows", NameKind.local), ("limit", NameKind.cell), ("weights", NameKind.cell), ("fits", NameKind.local), ("range", NameKind.globalImplicit), ("len", NameKind.globalImplicit)] (by rw [hP]; kernel_rfl) (by rw [hP]; kernel_rfl) (fun vs hvs => ?_) rfl (by kernel_rfl) rfl rfl (by decide) (by kernel_rfl) (by kernel_rfl) (by kernel_rfl) fun Γ A B => ?_
  · match vs, hvs with
    | [a0, a1], _ => kernel_rfl
  have K := B.ok
  have hn := B.nms
  have amb := B.amb
  have hW := B.W
  have O : Own Γ := ⟨B.own⟩
  show Ex _ _ _ [some _, some _, none, none, none, none] _ _ _ _
  have hlen := tupsD_len rows
  have hzz : (tupsD rows).length ≤ 1000 := by omega
  have hz1 : (tupsD rows).length < 2 ^ 63 := by omega
  refine Ex.cons (Ex.assignP (d := .list ((rows.map wt).map .int)) K ?weights (.cel B.cells (by fail "m_put") (B.cell "weights" rfl)) ?next (swaps_off K (by fail "m_lk")))
  case weights =>
    refine EvP.cast (EvP.comp (fun d => some (.int (wt (unrow d)))) K (by fail "m_scope") (SrcP.list amb.handled (by fail "m_ev") (.fro _)) hzz lst_ok ?turn) ?eq
    case eq =>
      congr 1
      rw [tupsD, List.filterMap_map, List.map_map]
      have : (fun d : D => some (D.int (wt (unrow d)))) ∘ Row.tup = fun r => some (D.int (wt r)) := by
        funext r
        show some (D.int (wt (unrow r.tup))) = _
        rw [unrow_tup]
      rw [this]
      simp
    case turn =>
      intro Γc Kc hnc hfc d it o D acc hd
      obtain ⟨r, hr, rfl⟩ := List.mem_map.mp hd
      have ambc : Amb A Γc.fs 1 := amb_of hfc amb
      refine ⟨true, TsL.nil, fun _ => ⟨_, rfl, ?_⟩, fun h => by cases h⟩
      have hbr := hb r hr
      have hzb : r.b.toArray.size ≤ 1099511627776 := by rw [List.size_toArray]; omega
      have inner : ∀ (e : Expr) (pos p1 p2 p3 p4 : Pos), True := fun _ _ _ _ _ _ => trivial
      have er : r.tup = .tup [.int r.t, .int r.i, .int r.k, .bytes r.b.toArray] := rfl
      refine EvP.cast (EvP.add (EvP.add (a := 1) (b := [lw r.t, lw r.i, lw r.k].sum) EvP.cint (EvP.sum (ns := [lw r.t, lw r.i, lw r.k]) (d := .list ([lw r.t, lw r.i, lw r.k].map .int)) Kc amb.handled (by fail "m_glob") ?comp (.fro _))) (EvP.lenB (b := r.b.toArray) Kc (by fail "m_glob") ?elem hzb)) ?val
      case elem =>
        refine EvP.idxT (ds := [.int r.t, .int r.i, .int r.k, .bytes r.b.toArray]) (k := 3) (j := 3) ?_ EvP.cint rfl rfl (by decide) (by decide)
        exact EvP.cast (by fail "m_name") er
      case val =>
        rw [unrow_tup, List.size_toArray]
        rfl
      case comp =>
        refine EvP.cast (EvP.comp (fun d => some (.int (lw (unint d)))) Kc (by fail "m_scope") (SrcP.tuple (ds := [.int r.t, .int r.i, .int r.k]) amb.handled (EvP.cast (EvP.sliceT (b := 3) (ds := [.int r.t, .int r.i, .int r.k, .bytes r.b.toArray]) (EvP.cast (by fail "m_name") er) (by simp) (by simp)) rfl)) (by simp) tup_ok ?turn2) rfl
        case turn2 =>
          intro Γd Kd hnd hfd d it o D acc hd
          have ambd : Amb A Γd.fs 1 := amb_of hfd ambc
          refine ⟨true, TsL.nil, fun _ => ⟨_, rfl, ?_⟩, fun h => by cases h⟩
          obtain ⟨n, rfl⟩ : ∃ n : Int, d = .int n := by
            simp only [List.mem_cons, List.not_mem_nil, or_false] at hd
            rcases hd with h | h | h <;> exact ⟨_, h⟩
          have f1 := fn_width H (n := n)
          exact EvP.call0 f1 Kd ambd (by omega) (n_law_width H Kd hnd rfl) (k_law_width H) (by fail "m_el")
  case next =>
    show Ex _ _ _ [some (.list (tupsD rows)), some (.int limit), some (.list ((rows.map wt).map .int)), none, none, none] [] _ _ _
    refine Ex.cons (Ex.assignComp (fun d => if fitsK rows limit (unint d) then some d else none) K (by fail "m_scope") (SrcP.range2 (a := 1) (b := (tupsD rows).length + 1) amb.handled (by fail "m_glob") (by fail "m_el") (by omega) (by omega) (by omega) (by omega)) ?hz rng_ok ?turn (.loc (by fail "m_put")) ?hk (swapsOn K (by fail "m_lk") rfl))
    case hz => simp [rangeD]; omega
    case turn =>
      intro Γc Kc hnc hfc d it o D acc hd
      have ambc : Amb A Γc.fs 1 := amb_of hfc amb
      obtain ⟨i, hi⟩ := List.getElem?_of_mem hd
      obtain ⟨hi1, rfl⟩ := rangeD_get hi
      have hk1 : (1 : Int) + 1 * (i : Int) = ((i + 1 : Nat) : Int) := by omega
      rw [hk1]
      refine ⟨fitsK rows limit ((i + 1 : Nat) : Int), TsL.one ?_, fun h => ⟨.int ((i + 1 : Nat) : Int), ?_, by fail "m_ev"⟩, fun h => ?_⟩
      · refine TsP.cast (TsP.or2 (c := (((i + 1 : Nat) : Int) == 1)) (d := decide ((((rows.map wt).take (i + 1)).sum) ≤ limit)) (by fail "m_ts") (fun _ => TsP.cmp (EvP.sum (ns := (rows.map wt).take (i + 1)) Kc amb.handled (by fail "m_glob") (EvP.cast (EvP.sliceL (hi := some ((i + 1 : Nat) : Int)) (by fail "m_name") (.fro _) .none (PtP.some (by fail "m_name")) (by simp; omega)) ?cc) (.fro _)) (by fail "m_name") fun _ => CmpP.le)) ?_
        case cc =>
          rw [cut_upto (by omega), Int.toNat_natCast, List.map_take]
        · unfold fitsK
          rw [Int.toNat_natCast]
      · show (if fitsK rows limit ((i + 1 : Nat) : Int) = true then some (Mine.D.int _) else none) = _
        rw [if_pos h]
      · show (if fitsK rows limit ((i + 1 : Nat) : Int) = true then some (Mine.D.int _) else none) = _
        rw [h]; rfl
    case hk =>
      have e1 : (List.filterMap (fun d => if fitsK rows limit (unint d) = true then some d else none) (rangeD 1 1 (((tupsD rows).length : Int) + 1 - 1).toNat)) = fits rows limit := by
        rw [hlen]; rfl
      rw [e1]
      have hfl : (fits rows limit).length ≤ rows.length := by
        refine Nat.le_trans (List.length_filterMap_le ..) ?_
        rw [rangeD_len]; omega
      have hz2 : (fits rows limit).length < 2 ^ 63 := by omega
      show Ex _ _ _ [some (.list (tupsD rows)), some (.int limit), some _, some (.list (fits rows limit)), none, none] [] _ _ _
      refine Ex.cons (Ex.retP (by fail "m_ev") ⟨?_, rfl⟩)
      rw [cut_upto (by omega), Int.toNat_natCast, tupsD, tupsD, List.map_take]
end
end

section
open PySem PySem.Calls PySem.W PyProof.Rows PySem.Spec
theorem vl_lw {n : Int} (h0 : 0 ≤ n) (h1 : n ≤ 1000000) : (vl n.toNat : Int) = lw n := by
  unfold lw
  by_cases a : n < 128
  · rw [if_pos a, vl_small (by omega)]; rfl
  · rw [if_neg a, vl_big (by omega)]
    by_cases b : n < 16384
    · rw [if_pos b, vl_small (by omega)]; rfl
    · rw [if_neg b, vl_big (by omega), vl_small (by omega)]; rfl
theorem size_wt {r : Row} (h : r.Ok) (hb : r.b.length < 128) : r.size = wt r := by
  unfold Row.size wt
  rw [vl_lw h.t.1 h.t.2, vl_lw h.i.1 h.i.2, vl_lw h.k.1 h.k.2, vl_small hb]
  omega
theorem lw_nonneg (n : Int) : 0 ≤ lw n := by
  unfold lw
  split
  · decide
  · split <;> decide
theorem wt_nonneg (r : Row) : 0 ≤ wt r := by
  unfold wt
  have := lw_nonneg r.t
  have := lw_nonneg r.i
  have := lw_nonneg r.k
  omega
noncomputable def lead (n : Int) : List Row → Int → Nat
  | [], _ => 0
  | r :: rs, tot => if n < tot + wt r then 0 else 1 + lead n rs (tot + wt r)
theorem lim_lead {n : Int} : ∀ {rs : List Row} {tot : Int} {kept : List Row}, (∀ r ∈ rs, r.size = wt r) → kept ≠ [] → lim n rs tot kept = kept ++ rs.take (lead n rs tot)
  | [], tot, kept, _, _ => by simp [lim, lead]
  | r :: rs, tot, kept, h, hk => by
    have h1 := h r (.head _)
    rw [lim, lead, h1]
    by_cases c : n < tot + wt r
    · rw [if_pos ⟨hk, c⟩, if_pos c]; simp
    · rw [if_neg (fun q => c q.2), if_neg c, lim_lead (fun r hr => h r (.tail _ hr)) (by simp), Nat.add_comm, List.take_succ_cons, List.append_assoc]
      rfl
theorem sum_take_nonneg (rs : List Row) (k : Nat) : 0 ≤ ((rs.map wt).take k).sum := by
  induction rs generalizing k with
  | nil => simp
  | cons r rs ih =>
    cases k with
    | zero => simp
    | succ k =>
      rw [List.map_cons, List.take_succ_cons, List.sum_cons]
      have := ih k
      have := wt_nonneg r
      omega
theorem count_lead {n : Int} : ∀ (rs : List Row) (tot : Int), (List.range rs.length).countP (fun i => decide (tot + ((rs.map wt).take (i + 1)).sum ≤ n)) = lead n rs tot
  | [], tot => rfl
  | r :: rs, tot => by
    rw [List.length_cons, List.range_succ_eq_map, List.countP_cons, List.countP_map, lead]
    have e : ((fun i => decide (tot + (((r :: rs).map wt).take (i + 1)).sum ≤ n)) ∘ Nat.succ) = fun i => decide (tot + wt r + ((rs.map wt).take (i + 1)).sum ≤ n) := by
      funext i
      show decide (tot + (((r :: rs).map wt).take (i + 1 + 1)).sum ≤ n) = _
      rw [List.map_cons, List.take_succ_cons, List.sum_cons, Int.add_assoc]
    rw [e, count_lead rs]
    have e0 : (((r :: rs).map wt).take (0 + 1)).sum = wt r := by simp
    rw [e0]
    by_cases c : n < tot + wt r
    · rw [if_pos c]
      have c' : ¬ tot + wt r ≤ n := by omega
      simp only [c', decide_false]
      rw [← count_lead rs (tot + wt r)]
      have : (List.range rs.length).countP (fun i => decide (tot + wt r + ((rs.map wt).take (i + 1)).sum ≤ n)) = 0 := by
        rw [List.countP_eq_zero]
        intro i _
        have := sum_take_nonneg rs (i + 1)
        simp; omega
      rw [this]; rfl
    · rw [if_neg c]
      have c' : tot + wt r ≤ n := by omega
      simp only [c', decide_true, if_true]
      omega
theorem fits_len (rs : List Row) (n : Int) : (fits rs n).length = (List.range rs.length).countP (fun i : Nat => fitsK rs n ((i : Int) + 1)) := by
  unfold fits rangeD
  rw [List.filterMap_map]
  have e0 : ((rs.length : Int) + 1 - 1).toNat = rs.length := by omega
  rw [e0]
  rw [List.length_filterMap_eq_countP]
  refine List.countP_congr fun i _ => ?_
  have e : (1 : Int) + 1 * (i : Int) = (i : Int) + 1 := by omega
  show Option.isSome (if fitsK rs n ((1 : Int) + 1 * (i : Int)) = true then some (D.int ((1 : Int) + 1 * (i : Int))) else none) = true ↔ _
  rw [e]
  by_cases c : fitsK rs n ((i : Int) + 1) = true
  · rw [if_pos c]; simp [c]
  · rw [if_neg c]; simp [c]
theorem page_eq {rs : List Row} {n : Int} (h : ∀ r ∈ rs, r.size = wt r) : rs.take (fits rs n).length = lim n rs 0 [] := by
  rw [fits_len]
  cases rs with
  | nil => rfl
  | cons r rs =>
    rw [lim, if_neg (fun q => q.1 rfl), List.length_cons, List.range_succ_eq_map, List.countP_cons, List.countP_map]
    have e : ((fun i : Nat => fitsK (r :: rs) n ((i : Int) + 1)) ∘ Nat.succ) = fun i => decide (wt r + ((rs.map wt).take (i + 1)).sum ≤ n) := by
      funext i
      show fitsK (r :: rs) n (((i + 1 : Nat) : Int) + 1) = _
      unfold fitsK
      have e1 : (((i + 1 : Nat) : Int) + 1).toNat = i + 1 + 1 := by omega
      have e2 : ((((i + 1 : Nat) : Int) + 1) == 1) = false := by
        rw [beq_eq_false_iff_ne]; omega
      rw [e1, e2, List.map_cons, List.take_succ_cons, List.sum_cons, Bool.false_or]
    have e0 : fitsK (r :: rs) n (((0 : Nat) : Int) + 1) = true := by
      unfold fitsK
      have : ((((0 : Nat) : Int) + 1) == 1) = true := by decide
      rw [this, Bool.true_or]
    rw [e, count_lead rs, e0, if_pos rfl, List.take_succ_cons, h r (.head _), lim_lead (fun r hr => h r (.tail _ hr)) (by simp), Int.zero_add]
    rfl
section
variable {story : List Item} {σ : Stg} {k0 : Int} {b0 : List UInt8}
theorem Inv.st1 (I : Inv story σ k0 b0) : (st story.reverse none none []).1 = some σ.base := by
  rw [(st_eq _ _ _ _).1]
  exact I.base
theorem Inv.st2 (I : Inv story σ k0 b0) : (st story.reverse none none []).2 = stR story.reverse none := by
  rw [(st_eq _ _ _ _).2, List.append_nil]
theorem full_len : (full σ k0 b0).length = σ.es.length + 1 := rfl
theorem Inv.rowAt (I : Inv story σ k0 b0) {i : Int} (h1 : σ.base ≤ i) (h2 : i ≤ σ.last) : ∃ r, (full σ k0 b0)[(i - σ.base).toNat]? = some r ∧ r.t = σ.termAt i := by
  by_cases q : i = σ.base
  · subst q
    have : (σ.base - σ.base).toNat = 0 := by omega
    rw [this]
    refine ⟨_, rfl, ?_⟩
    unfold Sto'.termAt
    rw [if_pos rfl]
  · have hi : (i - (σ.base + 1)).toNat < σ.es.length := by unfold Sto'.last at h2; omega
    have hr := List.getElem?_eq_getElem hi
    generalize σ.es[(i - (σ.base + 1)).toNat] = r at hr
    refine ⟨r, ?_, ?_⟩
    · have : (i - σ.base).toNat = (i - (σ.base + 1)).toNat + 1 := by omega
      rw [this]
      exact hr
    · unfold Sto'.termAt
      rw [if_neg q, hr]; rfl
theorem page_at (ok : σ.Ok) (hb : ∀ r ∈ σ.es, r.b.length < 128) {lo hi n : Int} (h1 : σ.base < lo) (h2 : σ.base ≤ hi) :
    let rs := ((full σ k0 b0).drop (lo - σ.base).toNat).take ((hi - σ.base).toNat - (lo - σ.base).toNat)
    rs.take (fits rs n).length = σ.page lo hi n := by
  intro rs
  have e : rs = (σ.es.drop (lo - (σ.base + 1)).toNat).take ((hi - σ.base).toNat - (lo - σ.base).toNat) := by
    have e2 : (lo - σ.base).toNat = (lo - (σ.base + 1)).toNat + 1 := by omega
    show ((full σ k0 b0).drop (lo - σ.base).toNat).take ((hi - σ.base).toNat - (lo - σ.base).toNat) = _
    rw [e2]
    rfl
  have hs : ∀ r ∈ rs, r.size = wt r := fun r hr => by
    rw [e] at hr
    have := List.mem_of_mem_drop (List.mem_of_mem_take hr)
    exact size_wt (ok.rows r this) (hb r this)
  rw [page_eq hs]
  unfold Sto'.page
  by_cases q : hi ≤ lo
  · rw [if_pos q, e]
    have : (hi - σ.base).toNat - (lo - σ.base).toNat = 0 := by omega
    rw [this, List.take_zero]
    rfl
  · rw [if_neg q, e]
    congr 2
    omega
end
end

section
open PySem PySem.Calls PySem.W PyProof.Rows PySem.Spec
section
variable {Ω : Wo} {Γ : Ctx} {A : Around} {ρ : Loc} {π : Led} {Φ : Fl → Loc → Led → Prop} {Ψ : Addr → Loc → Led → Prop}
theorem EvP.callF {fe : Expr} {es : List Expr} {pos : Pos} {f : Value} {ds : List D} {n m : Nat} {d : D} (F : FnP Ω f ds π n d) (K : COk Ω Γ A) (amb : Amb A Γ.fs m) (hm : n ≤ m) (hf : EvP Ω Γ A ρ π (eval fe Γ.env) (.raw f)) (hk : keepIn Ω.K f = true)
    (a : ElP Ω Γ A ρ π (spliced (backTo pos (starEach es Γ.env))) ds) (hs : ((backTo pos (starEach es Γ.env)).any (·.1)) = false := by rfl) (hz : es = [] → ds = [] := by first | (intro h; cases h; done) | (intro _; rfl))
    (he : eval (.Call fe es [] pos) Γ.env = (do callWith pos (← eval fe Γ.env) [] (backTo pos (starEach es Γ.env)) (backToKw pos (keywordEach [] Γ.env))) := by rfl) : EvP Ω Γ A ρ π (eval (.Call fe es [] pos) Γ.env) d :=
  Ev.pure (π₁ := π) (π₂ := []) (by rw [List.append_nil]) (Ev.call K (amb.mono hm) F (by rw [List.append_nil]) hf hk a hs hz he)
theorem Ev.meth {o : Expr} {name : Str} {apos pos : Pos} {es : List Expr} {f C : Addr} {fs : List (Str × D)} {d : D} {ds : List D} {n m : Nat} {Φv : D → Led → Prop} {Ψv : Addr → Led → Prop} {pl : Sem Bool} (F : Fn Ω (.ref f) (d :: ds) π n Φv Ψv) (K : COk Ω Γ A) (amb : Amb A Γ.fs m) (hm : n ≤ m)
    (ho : EvP Ω Γ A ρ π (eval o Γ.env) d) (i : InsD π d C fs) (hn : fs.lookup name = none) (mo : MetOk Ω.K C name f)
    (a : ElP Ω Γ A ρ π (spliced (backTo pos (starEach es Γ.env))) ds) (hs : ((backTo pos (starEach es Γ.env)).any (·.1)) = false := by rfl) (hz : es = [] → ds = [] := by first | (intro h; cases h; done) | (intro _; rfl))
    (he : eval (.Call (.Attribute o name apos) es [] pos) Γ.env = (do
      let ov ← eval o Γ.env
      standAt apos.atName
      let (f, first) ← holding [ov] (getMethod ov name pl)
      callWith pos f first (backTo pos (starEach es Γ.env)) (backToKw pos (keywordEach [] Γ.env))) := by rfl) :
    Ev Ω Γ A ρ π (eval (.Call (.Attribute o name apos) es [] pos) Γ.env) Φv Ψv :=
  (Ev.method (π₁ := π) (π₂ := []) (pl := pl) K (amb.mono hm) F (by rw [List.append_nil]) ho i hn mo a hs hz he).mono (fun d π' h => by
    obtain ⟨p, h, rfl⟩ := h
    rw [List.append_nil]; exact h) fun c π' h => by
    obtain ⟨p, h, rfl⟩ := h
    rw [List.append_nil]; exact h
theorem TsP.ne {l r : Expr} {pos : Pos} {n m : Nat} {d : D} {whole : Sem Value} (hd : DtD n d) (amb : Amb A Γ.fs m) (hn : n ≤ 70) (h1 : EvP Ω Γ A ρ π (eval l Γ.env) d) (h2 : EvP Ω Γ A ρ π (eval r Γ.env) d) (hm : behindInMarks .NotEq r = false := by rfl) :
    TsP Ω Γ A ρ π (PySem.isTrue (.Compare l [.NotEq] [r] pos) Γ.env whole) false := TsP.cmp h1 h2 (fun _ => CmpP.neD hd (by have := amb.units; omega)) hm
theorem EvP.eqS {l r : Expr} {pos : Pos} {n m : Nat} {d : D} (hd : DtD n d) (amb : Amb A Γ.fs m) (hn : n ≤ 70) (h1 : EvP Ω Γ A ρ π (eval l Γ.env) d) (h2 : EvP Ω Γ A ρ π (eval r Γ.env) d) (hm : behindInMarks .Eq r = false := by rfl) :
    EvP Ω Γ A ρ π (eval (.Compare l [.Eq] [r] pos) Γ.env) (.bool true) := EvP.cmp h1 h2 (fun _ => CmpP.eqD hd (by have := amb.units; omega)) hm
end
theorem dt_ints (n : Nat) (vs : List Int) : ∀ d ∈ intsD vs, DtD n d := fun d h => by
  obtain ⟨i, _, rfl⟩ := List.mem_map.mp h
  exact .int n i
theorem dt_conf (n : Nat) (vs : List Int) : DtD (n + 2) (confR vs) := .tup fun d h => by
  simp only [List.mem_cons, List.not_mem_nil, or_false] at h
  rcases h with rfl | rfl | rfl | rfl | rfl
  · exact .tup (dt_ints n vs)
  · exact .tup fun d h => nomatch h
  · exact .tup fun d h => nomatch h
  · exact .tup fun d h => nomatch h
  · exact .bool _ _
theorem dt_snap (n : Nat) (i t : Int) (vs : List Int) (b : List UInt8) : DtD (n + 3) (snapR i t vs b) := .tup fun d h => by
  simp only [List.mem_cons, List.not_mem_nil, or_false] at h
  rcases h with rfl | rfl | rfl | rfl
  · exact .int _ _
  · exact .int _ _
  · exact dt_conf n vs
  · exact .bytes _ _
theorem dt_hard (n : Nat) (t v c : Int) : DtD (n + 1) (hardR t v c) := .tup fun d h => by
  simp only [List.mem_cons, List.not_mem_nil, or_false] at h
  rcases h with rfl | rfl | rfl <;> exact .int _ _
theorem dt_tup (n : Nat) (r : Row) : DtD (n + 1) r.tup := .tup fun d h => by
  simp only [List.mem_cons, List.not_mem_nil, or_false] at h
  rcases h with rfl | rfl | rfl | rfl
  · exact .int _ _
  · exact .int _ _
  · exact .int _ _
  · exact .bytes _ _
theorem dt_rows (n : Nat) (rs : List Row) : ∀ d ∈ rs.map Row.tup, DtD (n + 1) d := fun d h => by
  obtain ⟨r, _, rfl⟩ := List.mem_map.mp h
  exact dt_tup n r
end

section
open PySem PySem.Calls PySem.W PyProof.Rows PySem.Spec
noncomputable def Item.d (x : Item) : D := .tup [.int x.k, .int x.i, .list (tupsD x.told)]
noncomputable def storyD (s : List Item) : List D := s.map Item.d
theorem storyD_len (s : List Item) : (storyD s).length = s.length := by rw [storyD, List.length_map]
theorem none_opt {G : GM} {o : Option Int} : ∀ v, Rd G v (optD o) → (v == Value.none) = o.isNone := fun v r => by
  cases o with
  | none => cases r; rfl
  | some i => cases r; rfl
theorem filter_tups (p : Row → Bool) (rs : List Row) : (tupsD rs).filterMap (fun d => if p (unrow d) then some d else none) = tupsD (rs.filter p) := by
  induction rs with
  | nil => rfl
  | cons r rs ih =>
    show List.filterMap _ (r.tup :: tupsD rs) = _
    rw [List.filterMap_cons, unrow_tup, ih]
    by_cases h : p r = true
    · rw [if_pos h, List.filter_cons_of_pos h]; rfl
    · rw [if_neg h, List.filter_cons_of_neg h]
theorem filt_t {p : Row → Bool} {r : Row} (h : p r = true) : (fun d => if p (unrow d) = true then some d else none) r.tup = some r.tup := by
  show (if p (unrow r.tup) = true then some r.tup else none) = _
  rw [unrow_tup, if_pos h]
theorem filt_f {p : Row → Bool} {r : Row} (h : p r = false) : (fun d => if p (unrow d) = true then some d else none) r.tup = none := by
  show (if p (unrow r.tup) = true then some r.tup else none) = _
  rw [unrow_tup, h]
  rfl
section
variable {Ω : Wo}
/-- one item of the list's is read by its index -/
theorem ev_tup_index {Γ : Ctx} {A : Around} {ρ : Loc} {π : Led} {e i : Expr} {pos : Pos} {r : Row} (h : EvP Ω Γ A ρ π (eval e Γ.env) r.tup) (hi : EvP Ω Γ A ρ π (eval i Γ.env) (.int 1))
    (hs : ∀ a t, subscripted i false (.ref a) (.int 1 t) = operate [.ref a, .int 1 t] (getItem (.ref a) (.int 1 t)) := by intro _ _; rfl) : EvP Ω Γ A ρ π (eval (.Subscript e i pos) Γ.env) (.int r.i) :=
  EvP.idxT (ds := [.int r.t, .int r.i, .int r.k, .bytes r.b.toArray]) (k := 1) (j := 1) h hi rfl rfl (by decide) (by decide) hs
theorem fn_standing (H : Here Ω) {π : Led} {d : D} {story : List Item} {b : Int} {rs : List Row} (l : ∀ π', (∀ p ∈ π, p ∈ π') → LstD π' d (storyD story)) (hz : story.length ≤ 90) (ht : ∀ x ∈ story, x.told.length ≤ 10) (hb : (st story.reverse none none []).1 = some b) (hr : (st story.reverse none none []).2 = rs) :
    FnP Ω (.ref 474) [d] π 1 (.tup [.int b, .list (tupsD (rs.filter fun r => decide (b ≤ r.i)))]) := by
  obtain ⟨P, hP⟩ := id H.k
  refine Fn.of_def (f := 474) (n := 0) (name := (ft 30).name) (qual := "_law_standing") (params := (ft 30).params) (body := (ft 30).body) (scope := (ft 30).scope) (dV := .none) (kV := .none) (doc := .none) (pm := (.str "law_no0407_01" 770)) (an := .none) (cdv := (.ref 473)) (ct := .none) (oc := .type "function") (od := .none) (osl := #[]) ["story"] [("story", NameKind.local), ("base", NameKind.cell), ("floor", NameKind.cell), ("rows", NameKind.local), ("k", NameKind.local), ("kind", NameKind.local), ("index", NameKind.local), ("told", NameKind.local), ("range", NameKind.globalImplicit), ("len", NameKind.globalImplicit)] (by rw [hP]; kernel_rfl) (by rw [hP]; kernel_rfl) (fun vs hvs => ?_) rfl (by kernel_rfl) rfl rfl (by decide) (by kernel_rfl) (by kernel_rfl) (by kernel_rfl) fun Γ A B => ?_
  · match vs, hvs with
    | [a0], _ => kernel_rfl
  have K := B.ok
  have hn := B.nms
  have amb := B.amb
  have hW := B.W
  have O : Own Γ := ⟨B.own⟩
  show Ex _ _ _ [some _, none, none, none, none, none, none, none, none, none] _ _ _ _
  have hlen := storyD_len story
  refine Ex.cons (Ex.assignP (d := .none) K (by fail "m_ev") (.cel B.cells (by fail "m_put") (B.cell "base" rfl)) ?_)
  refine Ex.cons (Ex.assignP (d := .none) K (by fail "m_ev") (.cel B.cells (by fail "m_put") (B.cell "floor" rfl)) ?_)
  refine Ex.cons (Ex.assignP (d := .list []) K (by fail "m_ev") (.loc (by fail "m_put")) ?_)
  show Ex _ _ _ [some d, some (optD none), some (optD none), some (.list (tupsD [])), none, none, none, none, none, none] π _ _ _
  refine Ex.seq (fun ρ π' => ∃ f k kd ix td, ρ = [some d, some (.int b), some (optD f), some (.list (tupsD rs)), k, kd, ix, td, none, none] ∧ π = π' ∧ rs.length ≤ 1000)
    (Ex.forIn (fun i ρ π' => ∃ bo f rs' k kd ix td, ρ = [some d, some (optD bo), some (optD f), some (.list (tupsD rs')), k, kd, ix, td, none, none] ∧ π = π' ∧ st (story.reverse.drop i) bo f rs' = st story.reverse none none [] ∧ rs'.length ≤ 10 * i) O K
      (SrcP.rangeDown (a := (storyD story).length - 1) (b := -1) amb.handled (by fail "m_glob") ?args (by omega) (by omega) (by omega) (by omega) (PyProof.noPylong_small (by omega))) (fun v G G' i ρ' π' it o h g _ => rng_on h g) ?turn ?done ⟨none, none, [], _, _, _, _, rfl, rfl, rfl, Nat.zero_le _⟩) ?rest
  case args =>
    have l0 := l π fun p hp => hp
    have hz1 : (storyD story).length < 2 ^ 63 := by omega
    fail "m_el"
  case done =>
    rintro ρ' π' ⟨bo, f, rs', k, kd, ix, td, rfl, rfl, hs, hl⟩
    rw [rangeD_len] at hl
    rw [rangeD_len, List.drop_of_length_le (by rw [List.length_reverse]; omega)] at hs
    rw [← hs] at hb hr
    have hb : bo = some b := hb
    have hr : rs' = rs := hr
    subst hb hr
    exact ⟨f, k, kd, ix, td, rfl, rfl, by show rs'.length ≤ 1000; omega⟩
  case turn =>
    rintro i x ρ' π' it o hd ⟨bo, f, rs', k, kd, ix, td, rfl, rfl, hs, hl⟩
    obtain ⟨hi, rfl⟩ := rangeD_get hd
    have hi : i < story.length := by omega
    have e0 : ((storyD story).length - 1 : Int) + -1 * (i : Int) = ((story.length - 1 - i : Nat) : Int) := by omega
    rw [e0]
    have hj : story.length - 1 - i < story.length := by omega
    have hx := List.getElem?_eq_getElem hj
    generalize story[story.length - 1 - i] = x at hx
    have hrev : story.reverse[i]? = some x := by rw [List.getElem?_reverse hi]; exact hx
    have hxl := ht x (List.mem_of_getElem? hx)
    rw [drop_get hrev] at hs
    refine ⟨_, .loc (by fail "m_put"), ?_⟩
    show Ex _ _ _ [some d, some (optD bo), some (optD f), some (.list (tupsD rs')), some (.int ((story.length - 1 - i : Nat) : Int)), kd, ix, td, none, none] ((it, .obj o) :: π) _ _ _
    have l1 := l ((it, .obj o) :: π) fun p hp => .tail _ hp
    have hg : (storyD story)[(((story.length - 1 - i : Nat) : Int)).toNat]? = some (.tup [.int x.k, .int x.i, .list (tupsD x.told)]) := by rw [storyD, List.getElem?_map, Int.toNat_natCast, hx]; rfl
    have hi0 : (0 : Int) ≤ ((story.length - 1 - i : Nat) : Int) := by omega
    have hi1 : ((story.length - 1 - i : Nat) : Int) < 2 ^ 63 := by omega
    refine Ex.cons (Ex.unpack3 (f₁ := fun e1 => [some d, some (optD bo), some (optD f), some (.list (tupsD rs')), some (.int ((story.length - 1 - i : Nat) : Int)), some e1, ix, td, none, none]) (f₂ := fun e1 e2 => [some d, some (optD bo), some (optD f), some (.list (tupsD rs')), some (.int ((story.length - 1 - i : Nat) : Int)), some e1, some e2, td, none, none]) (f₃ := fun e1 e2 e3 => [some d, some (optD bo), some (optD f), some (.list (tupsD rs')), some (.int ((story.length - 1 - i : Nat) : Int)), some e1, some e2, some e3, none, none]) K amb.handled (EvP.toEv (Φ := fun d' π' => d' = .tup [.int x.k, .int x.i, .list (tupsD x.told)] ∧ π' = (it, .obj o) :: π) (by fail "m_ev") ⟨rfl, rfl⟩) ?go)
    rintro _ _ ⟨rfl, rfl⟩
    refine ⟨_, _, _, rfl, .loc (by fail "m_put"), .loc (by fail "m_put"), .loc (by fail "m_put"), ?_⟩
    show Ex _ _ _ [some d, some (optD bo), some (optD f), some (.list (tupsD rs')), some (.int ((story.length - 1 - i : Nat) : Int)), some (.int x.k), some (.int x.i), some (.list (tupsD x.told)), none, none] ((it, .obj o) :: π) _ _ _
    have hzt : (tupsD x.told).length ≤ 1000 := by rw [tupsD_len]; omega
    refine Ex.seq (fun ρ π' => ∃ bo' f' rs2, ρ = [some d, some (optD bo'), some (optD f'), some (.list (tupsD rs2)), some (.int ((story.length - 1 - i : Nat) : Int)), some (.int x.k), some (.int x.i), some (.list (tupsD x.told)), none, none] ∧ π' = (it, .obj o) :: π ∧ rs2.length ≤ 10 * i + 10 ∧
      (x.k = 0 → rs2 = rs' ∧ bo' = some (bo.getD x.i)) ∧ (x.k ≠ 0 → st (story.reverse.drop (i + 1)) bo' f' rs2 = st story.reverse none none [])) ?ifs ?rst2
    case ifs =>
      refine Ex.ite (c := x.k == 1) (by fail "m_ts") (fun h1 => ?_) (fun h1 => ?_)
      · have h1 : x.k = 1 := by simpa using h1
        have hk0 : ¬ x.k = 0 := by omega
        rw [st, if_pos h1] at hs
        have hl2 : (x.told.filter (lowr f)).length ≤ 10 := Nat.le_trans (List.length_filter_le ..) hxl
        have hzz : (tupsD (x.told.filter (lowr f))).length + (tupsD rs').length ≤ 1000 := by rw [tupsD_len, tupsD_len]; omega
        refine Ex.cons (Ex.assignP (d := .list (tupsD (x.told.filter (lowr f)) ++ tupsD rs')) K (EvP.addL (EvP.cast (EvP.comp (fun d => if lowr f (unrow d) then some d else none) K (by fail "m_scope") (SrcP.list amb.handled (by fail "m_ev") (.fro _)) hzt lst_ok ?turn) ?eq) (.fro _) (by fail "m_ev") (.fro _) hzz) (.loc (by fail "m_put")) ?next)
        case eq => rw [filter_tups]
        case turn =>
          intro Γc Kc hnc hfc d' it' o' D' acc hd'
          obtain ⟨r, hr', rfl⟩ := List.mem_map.mp hd'
          refine ⟨lowr f r, TsL.one ?_, fun h => ⟨r.tup, filt_t h, by fail "m_ev"⟩, fun h => filt_f h⟩
          cases f with
          | none =>
            refine TsP.cast (TsP.or2 (c := true) (d := true) (TsP.cmp (by fail "m_name") EvP.cnone fun _ => CmpP.isN (none_opt (o := none))) fun h => by cases h) rfl
          | some g =>
            refine TsP.cast (TsP.or2 (c := false) (d := decide (r.i < g)) (TsP.cmp (by fail "m_name") EvP.cnone fun _ => CmpP.isN (none_opt (o := some g))) fun _ => TsP.cmp (ev_tup_index (by fail "m_name") EvP.cint) (by fail "m_name") fun _ => CmpP.lt) rfl
        case next =>
          have e1 : tupsD (x.told.filter (lowr f)) ++ tupsD rs' = tupsD (x.told.filter (lowr f) ++ rs') := by rw [tupsD, tupsD, tupsD, List.map_append]
          rw [e1]
          show Ex _ _ _ [some d, some (optD bo), some (optD f), some (.list (tupsD (x.told.filter (lowr f) ++ rs'))), some (.int ((story.length - 1 - i : Nat) : Int)), some (.int x.k), some (.int x.i), some (.list (tupsD x.told)), none, none] ((it, .obj o) :: π) _ _ _
          cases f with
          | none =>
            refine Ex.cons (Ex.ite (c := true) (TsP.cast (TsP.or2 (c := true) (d := true) (TsP.cmp (by fail "m_name") EvP.cnone fun _ => CmpP.isN (none_opt (o := none))) fun h => by cases h) rfl) (fun _ => ?_) (fun h => by cases h))
            refine Ex.cons (Ex.assignP (d := .int x.i) K (by fail "m_ev") (.cel B.cells (by fail "m_put") (B.cell "floor" rfl)) (Ex.nil (Ex.nil ⟨bo, some x.i, x.told.filter (lowr none) ++ rs', rfl, rfl, ?_, fun h => absurd h hk0, fun _ => hs⟩)))
            rw [List.length_append]; omega
          | some g =>
            have hl3 : (x.told.filter (lowr (some g)) ++ rs').length ≤ 10 * i + 10 := by rw [List.length_append]; omega
            refine Ex.cons (Ex.ite (c := decide (x.i < g)) (TsP.cast (TsP.or2 (c := false) (d := decide (x.i < g)) (TsP.cmp (by fail "m_name") EvP.cnone fun _ => CmpP.isN (none_opt (o := some g))) fun _ => TsP.cmp (by fail "m_name") (by fail "m_name") fun _ => CmpP.lt) rfl) (fun h => ?_) (fun h => ?_))
            · have h : x.i < g := by simpa using h
              refine Ex.cons (Ex.assignP (d := .int x.i) K (by fail "m_ev") (.cel B.cells (by fail "m_put") (B.cell "floor" rfl)) (Ex.nil (Ex.nil ⟨bo, some x.i, x.told.filter (lowr (some g)) ++ rs', rfl, rfl, hl3, fun h => absurd h hk0, fun _ => ?_⟩)))
              have : minf (some g) x.i = some x.i := by show some (if x.i < g then x.i else g) = _; rw [if_pos h]
              rw [this] at hs
              exact hs
            · have h : ¬ x.i < g := by simpa using h
              refine Ex.nil (Ex.nil ⟨bo, some g, x.told.filter (lowr (some g)) ++ rs', rfl, rfl, hl3, fun h => absurd h hk0, fun _ => ?_⟩)
              have : minf (some g) x.i = some g := by show some (if x.i < g then x.i else g) = _; rw [if_neg h]
              rw [this] at hs
              exact hs
      · have h1 : ¬ x.k = 1 := by simpa using h1
        rw [st, if_neg h1] at hs
        have fin : ∀ (hx0 : x.k ≠ 0), st (story.reverse.drop (i + 1)) (some (bo.getD x.i)) f rs' = st story.reverse none none [] := fun hx0 => by rw [if_neg hx0] at hs; exact hs
        cases bo with
        | none =>
          refine Ex.cons (Ex.ite (c := true) (TsP.cmp (by fail "m_name") EvP.cnone fun _ => CmpP.isN (none_opt (o := none))) (fun _ => ?_) (fun h => by cases h))
          exact Ex.cons (Ex.assignP (d := .int x.i) K (by fail "m_ev") (.cel B.cells (by fail "m_put") (B.cell "base" rfl)) (Ex.nil (Ex.nil ⟨some x.i, f, rs', rfl, rfl, by omega, fun _ => ⟨rfl, rfl⟩, fin⟩)))
        | some b' =>
          refine Ex.cons (Ex.ite (c := false) (TsP.cmp (by fail "m_name") EvP.cnone fun _ => CmpP.isN (none_opt (o := some b'))) (fun h => by cases h) (fun _ => ?_))
          exact Ex.nil (Ex.nil ⟨some b', f, rs', rfl, rfl, by omega, fun _ => ⟨rfl, rfl⟩, fin⟩)
    case rst2 =>
      rintro _ _ ⟨bo', f', rs2, rfl, rfl, hl2, h0, hn0⟩
      refine Ex.cons (Ex.ite (c := x.k == 0) (by fail "m_ts") (fun h => ?_) (fun h => ?_))
      · have h : x.k = 0 := by simpa using h
        obtain ⟨rfl, rfl⟩ := h0 h
        have hzz : (tupsD x.told).length + (tupsD rs2).length ≤ 1000 := by rw [tupsD_len, tupsD_len]; omega
        have n1 : ¬ x.k = 1 := by omega
        rw [st, if_neg n1, if_pos h] at hs
        rw [← hs] at hb hr
        have hb : bo.getD x.i = b := Option.some.inj hb
        have hr : x.told ++ rs2 = rs := hr
        have e1 : tupsD x.told ++ tupsD rs2 = tupsD rs := by rw [← hr, tupsD, tupsD, tupsD, List.map_append]
        have hrl : rs.length ≤ 1000 := by rw [← hr, List.length_append]; omega
        rw [hb]
        refine Ex.cons (Ex.assignP (d := .list (tupsD rs)) K (EvP.cast (by fail "m_ev") (by rw [e1])) (.loc (by fail "m_put")) ?_)
        exact Ex.cons (Ex.brk ⟨_, .refl _, f', _, _, _, _, rfl, rfl, hrl⟩)
      · have h : x.k ≠ 0 := by simpa using h
        exact Ex.nil (Ex.nil ⟨_, .refl _, bo', f', rs2, _, _, _, _, rfl, rfl, hn0 h, by omega⟩)
  case rest =>
    rintro _ _ ⟨f, k, kd, ix, td, rfl, rfl, hrl⟩
    refine Ex.cons (Ex.retP (EvP.cast (EvP.tup (ds := [.int b, .list (tupsD (rs.filter fun r => decide (b ≤ r.i)))]) (ElP.cons (by fail "m_ev") (ElP.cons (EvP.cast (EvP.comp (fun d => if decide (b ≤ (unrow d).i) then some d else none) K (by fail "m_scope") (SrcP.list amb.handled (by fail "m_ev") (.fro _)) (by rw [tupsD_len]; exact hrl) lst_ok ?turn) ?eq) ElP.nil))) rfl) ⟨rfl, rfl⟩)
    case eq => rw [filter_tups (fun r => decide (b ≤ r.i))]
    case turn =>
      intro Γc Kc hnc hfc d' it' o' D' acc hd'
      obtain ⟨r, hr', rfl⟩ := List.mem_map.mp hd'
      refine ⟨decide (b ≤ r.i), TsL.one ?_, fun h => ⟨r.tup, filt_t (p := fun r => decide (b ≤ r.i)) h, by fail "m_ev"⟩, fun h => filt_f (p := fun r => decide (b ≤ r.i)) h⟩
      exact TsP.cmp (ev_tup_index (by fail "m_name") EvP.cint) (by fail "m_name") fun _ => CmpP.ge
end
end

section
open PySem PySem.Calls PySem.W PyProof.Rows
theorem Fn.of_top {Ω : Wo} {f : Addr} {args : List D} {π : Led} {n : Nat} {Φ : D → Led → Prop} {Ψ : Addr → Led → Prop} {name qual : Str} {params : Arguments} {body : List Stmt} {scope : Scope} {dV kV doc pm cdv ct : Value} {an : Option Addr} {o : Obj} (ps : List Str) (names : List (Str × NameKind))
    (ho : Ω.b.get? f = some o) (hd : o.data = .func (fnOf name qual params body scope dV kV doc pm an cdv ct)) (hcd : Ω.b.CodeRec cdv qual)
    (hbind : ∀ vs : List Value, vs.length = ps.length → bindArgs (fnOf name qual params body scope dV kV doc pm an cdv ct) ⟨vs, []⟩ = pure (ps.zip vs)) (hlen : args.length = ps.length)
    (hn : scope.names = names) (hps : (names.take ps.length).map (·.1) = ps) (hkinds : ((names.take ps.length).all fun x => x.2 == .local || x.2 == .cell) = true) (nd : (names.map (·.1)).Nodup)
    (hco : scope.isCoroutine = false) (hgen : scope.isGenerator = false) (hk : scope.kind = .function)
    (h : ∀ Γ A, Body Ω names π n Γ A → Ex Ω Γ A (loc0 names args) π (execs body Γ.env) (fun fl _ π' => match fl with | .ret d => Φ d π' | .next => Φ .none π' | _ => False) (fun c _ π' => Ψ c π')) :
    Fn Ω (.ref f) args π (n + 1) Φ Ψ := by
  intro A fs s G vs Q E amb hbG hsub hfr hoff hled hnd hoffG hrd hQ hE
  have hstays : ∀ b o, Ω.b.get? b = some o → s.heap.get? b = some o := fun b o e => hsub b o (hbG b o e)
  have X : Ω.K.In s.heap := Ω.kin.keeps hstays
  have T := Ω.top.keeps hstays
  have hvl : vs.length = ps.length := by rw [hrd.length, hlen]
  have hdep := amb.depth
  have hunits := amb.units
  -- a parameter's place
  have hbinds : ∀ m, ∀ x ∈ ps.zip vs, scope.names.lookup x.1 = some .local ∨ (scope.names.lookup x.1 = some .cell ∧ ((cellsFrom m scope.names []).lookup x.1).isSome = true) := by
    intro m ⟨x, v⟩ hm
    obtain ⟨i, hi⟩ := List.getElem?_of_mem hm
    obtain ⟨h1, h2⟩ := List.getElem?_zip_eq_some.mp hi
    have h3 : ((names.take ps.length).map (·.1))[i]? = some x := by rw [hps]; exact h1
    rw [List.getElem?_map] at h3
    cases z : (names.take ps.length)[i]? with
    | none => rw [z] at h3; cases h3
    | some p =>
      obtain ⟨y, k⟩ := p
      rw [z] at h3
      cases h3
      have hp := List.all_eq_true.mp hkinds _ (List.mem_of_getElem? z)
      rw [List.getElem?_take] at z
      split at z
      · rw [hn]
        have h4 := lookup_nodup nd z
        have : k = .local ∨ k = .cell := by simpa using hp
        rcases this with rfl | rfl
        · exact .inl h4
        · exact .inr ⟨h4, cellsFrom_some _ _ _ (.inl h4)⟩
      · cases z
  refine codeAny_call_function (by omega) (hstays _ _ ho) hd hco hgen rfl (hcd.keeps hstays) ?_
  rw [hbind vs hvl]
  refine wpAny_pure (wpAny_newFunctionEnv_cells hk (hbinds _) fun env henv s' x => ?_)
  have hkeep := x.toInCall.keep
  refine ⟨T.nolimit.keeps hkeep, codeAny_func ?_⟩
  obtain ⟨h₁, tk, hs', _⟩ := x.done
  subst hs'
  have S : Starts names env s.heap h₁ (ps.zip vs) := by
    refine ⟨hkeep, by rw [henv]; rfl, by rw [henv]; rfl, by rw [henv]; exact hk, by rw [henv]; exact hn, ?_, x.cell, fun n c hm => ?_, by rw [henv]; show cellsFrom _ scope.names _ = _; rw [hn], x.apart⟩
    · have := x.toInCall.ns
      rw [show env.locals = s.heap.objs.size from by rw [henv]; rfl] at this
      exact this
    · have := x.above n c hm
      rw [show env.locals = s.heap.objs.size from by rw [henv]; rfl] at this
      exact this
  have R := Rel.start S nd hlen hrd hps hkinds hsub hfr hoff hled hnd hoffG
  have hfrs : (A.deeper env).frames = some (env :: fs) := Around.frames_deeper amb.frames
  have b : Body Ω names π n ⟨names, env, env :: fs, fad fs, G, s.heap, adrs π⟩ (A.deeper env) := by
    refine ⟨⟨hfrs, S.kind, ?_, ?_, S.nms, nd, ⟨hstays, hbG⟩, fun a ha => (by obtain ⟨p, hp, hb⟩ := List.mem_flatMap.mp ha; exact (hled p hp).ex a hb)⟩, rfl, ⟨?_, fun c hc => ?_⟩, fun y hy => ?_, ⟨hfrs, amb.handled, ?_, ?_⟩, rfl, ⟨fs, s.heap.objs.size, rfl, S.frame⟩⟩
    · show env.globals = mainGlobals
      rw [henv]; rfl
    · show env.builtins = builtinsNs
      rw [henv]; rfl
    · exact List.pairwise_map.mpr S.apart
    · obtain ⟨p, hp, rfl⟩ := List.mem_map.mp hc
      cases q : s.heap.get? p.2 with
      | none => rfl
      | some o => exact absurd (Nat.lt_trans (S.above p.1 p.2 hp) (Heap.lt_size q)) (Nat.lt_irrefl _)
    · show (env.cells.lookup y).isSome = true
      rw [S.cells]
      exact cellsFrom_some _ _ _ (.inl hy)
    · show A.depth + 1 + 3 * n + 3 < recursionLimit
      omega
    · show A.units + 3 + 8 * n + 80 < cLine
      omega
  refine wpAny_mono (h _ _ b _ G (fun fl s' => _) (fun e s' => _) R (fun fl f ρ' π' G' h' tk' hΦ R' g r => ?_) (fun e c ρ' π' G' h' tk' hΨ F' _ => ?_)) (fun _ _ z => z) fun _ _ z => z
  · cases r with
    | next => exact hQ _ _ π' G' h' tk' hΦ R'.aft .none
    | brk => exact hΦ.elim
    | cont => exact hΦ.elim
    | ret r => exact hQ _ _ π' G' h' tk' hΦ R'.aft r
  · obtain ⟨h₂, B, R₂, hB, hsl, X'⟩ := F'.out
    have hfad : fad (env :: fs) = s.heap.objs.size :: fad fs := by unfold fad; rw [List.filterMap_cons, S.frame]
    have hLn : ∀ a ∈ fad fs, a ≠ s.heap.objs.size := fun a ha q => by
      obtain ⟨_, o, ho, _⟩ := hfr.mem ha
      rw [q, get_size] at ho; cases ho
    have hL := R₂.offL
    have hLe : env.locals = s.heap.objs.size := S.loc
    refine exc_leave X' hfrs S.frame fun h'' a0 hfl hu => ?_
    refine hE e c π' G' (h₂.hide s.heap.objs.size) B a0 h'' tk' hΨ (R₂.aft.hide (get_size _) (hLe ▸ hL.1) (hLe ▸ hL.2.1)) (fun a o e n => ?_) (fun a o e n => ?_) hfl
    · have e1 := Heap.of_hide e
      refine hB a o e1 fun q => ?_
      have q : a ∈ fad (env :: fs) := q
      rw [hfad] at q
      rcases List.mem_cons.mp q with rfl | q
      · rw [Heap.hide_self] at e; cases e
      · exact n q
    · have e1 := Heap.of_hide e
      obtain ⟨sl, e2⟩ := hsl a o e1 (by show a ∈ fad (env :: fs); rw [hfad]; exact .tail _ n)
      obtain ⟨_, o', ho', hnf⟩ := R₂.frs.mem (show a ∈ fad (env :: fs) by rw [hfad]; exact .tail _ n)
      rw [e1] at ho'
      cases ho'
      obtain ⟨sl', e3⟩ := hu a _ e2 hnf
      exact ⟨sl', e3⟩

section
variable {Ω : Wo} {Γ : Ctx} {A : Around} {ρ : Loc} {π : Led} {G : GM} {h : Heap} {Φ : Fl → Loc → Led → Prop} {Ψ : Addr → Loc → Led → Prop}
/-- a list's items, told in another way -/
theorem Rel.relist {πa πb : Led} {a : Addr} {ds ds' : List D} (R : Rel Γ ρ (πa ++ (a, .list ds) :: πb) G h) (hh : ∀ vs, RdL G vs ds → RdL G vs ds') : Rel Γ ρ (πa ++ (a, .list ds') :: πb) G h := by
  obtain ⟨aft, frs, frSub, offF, ns, offL, cl, cv⟩ := R
  have ea : adrs (πa ++ (a, MO.list ds') :: πb) = adrs (πa ++ (a, MO.list ds) :: πb) := by
    rw [adrs_append, adrs_append, adrs_cons, adrs_cons]; rfl
  refine ⟨⟨aft.sub, aft.ext, aft.new, aft.stp, fun q hq => ?_, by rw [ea]; exact aft.nodup, fun b hb => aft.off b (ea ▸ hb), fun b hb => aft.own b (ea ▸ hb)⟩, frs, frSub, fun b hb => ⟨(offF b hb).1, fun q => (offF b hb).2 (ea ▸ q)⟩, ns, ⟨offL.1, fun q => offL.2.1 (ea ▸ q), offL.2.2⟩,
    fun c hc => ⟨(cl c hc).1, (cl c hc).2.1, fun q => (cl c hc).2.2.1 (ea ▸ q), (cl c hc).2.2.2⟩, cv⟩
  rcases List.mem_append.mp hq with hq | hq
  · exact aft.led q (List.mem_append_left _ hq)
  · rcases List.mem_cons.mp hq with rfl | hq
    · obtain ⟨vs, n, e, r⟩ := aft.led (a, .list ds) (List.mem_append_right _ (.head _))
      exact ⟨vs, n, e, hh vs r⟩
    · exact aft.led q (List.mem_append_right _ (.tail _ hq))
noncomputable def entL (f : Nat → Row) : List (Addr × Addr) → Nat → Led
  | [], _ => []
  | p :: es, k => (p.1, .inst 201 p.2 (f k).f) :: entL f es (k + 1)
noncomputable def rawL (es : List (Addr × Addr)) : List D := es.map fun p => .raw (.ref p.1)
noncomputable def rowsL (f : Nat → Row) (n k : Nat) : List Row := (List.range n).map fun i => f (k + i)
theorem rowsL_succ (f : Nat → Row) (n k : Nat) : rowsL f (n + 1) k = f k :: rowsL f n (k + 1) := by
  unfold rowsL
  rw [List.range_succ_eq_map, List.map_cons, List.map_map]
  congr 1
  refine List.map_congr_left fun i _ => ?_
  show f (k + (i + 1)) = f (k + 1 + i)
  congr 1; omega
theorem Rel.freezeL {f : Nat → Row} {b : Addr} {π0 : Led} (nw : Γ.W = []) : ∀ {es : List (Addr × Addr)} {k : Nat} {acc : List D} {G : GM}, Rel Γ ρ ((b, .list (acc ++ rawL es)) :: (entL f es k ++ π0)) G h →
    ∃ G', Rel Γ ρ ((b, .list (acc ++ entsD (rowsL f es.length k))) :: π0) G' h ∧ GLe G G'
  | [], k, acc, G, R => ⟨G, R, GLe.refl G⟩
  | p :: es, k, acc, G, R => by
    have R : Rel Γ ρ ([(b, MO.list (acc ++ rawL (p :: es)))] ++ (p.1, .inst 201 p.2 (f k).f) :: (entL f es (k + 1) ++ π0)) G h := R
    obtain ⟨G1, R1, g1, r1⟩ := R.freeze (fun x _ => by rw [nw]; exact fun q => nomatch q)
    have R2 : Rel Γ ρ ((b, MO.list ((acc ++ [(f k).ent]) ++ rawL es)) :: (entL f es (k + 1) ++ π0)) G1 h := by
      refine Rel.relist (πa := []) (ds := acc ++ rawL (p :: es)) R1 fun vs hv => ?_
      obtain ⟨l1, l2, e, h1, h2⟩ : ∃ l1 l2, vs = l1 ++ l2 ∧ RdL G1 l1 acc ∧ RdL G1 l2 (rawL (p :: es)) := by
        refine ⟨vs.take acc.length, vs.drop acc.length, (List.take_append_drop _ _).symm, ?_, ?_⟩
        · have := hv.take acc.length
          rw [List.take_left] at this
          exact this
        · have := hv.drop acc.length
          rw [List.drop_left] at this
          exact this
      subst e
      have h2 : RdL G1 l2 (.raw (.ref p.1) :: rawL es) := h2
      cases h2 with
      | cons h2 h3 =>
        cases h2
        rw [List.append_assoc]
        exact h1.append (.cons r1 h3)
    obtain ⟨G2, R3, g2⟩ := Rel.freezeL nw R2
    refine ⟨G2, ?_, g1.trans g2⟩
    have e : acc ++ [(f k).ent] ++ entsD (rowsL f es.length (k + 1)) = acc ++ entsD (rowsL f (p :: es).length k) := by
      rw [List.length_cons, rowsL_succ, List.append_assoc]; rfl
    rw [← e]
    exact R3
theorem Ex.freezeL {t : Sem Flow} {f : Nat → Row} {b : Addr} {π0 : Led} {es : List (Addr × Addr)} (nw : Γ.W = []) (x : Ex Ω Γ A ρ ((b, .list (entsD (rowsL f es.length 0))) :: π0) t Φ Ψ) : Ex Ω Γ A ρ ((b, .list (rawL es)) :: (entL f es 0 ++ π0)) t Φ Ψ := fun s G Q E R hQ hE => by
  obtain ⟨G1, R1, g1⟩ := Rel.freezeL (acc := []) nw R
  exact x.go R1 g1 hQ hE
theorem entL_append (f : Nat → Row) (es : List (Addr × Addr)) (p : Addr × Addr) : ∀ k, entL f (es ++ [p]) k = entL f es k ++ [(p.1, .inst 201 p.2 (f (k + es.length)).f)] := by
  induction es with
  | nil => intro k; rfl
  | cons q es ih =>
    intro k
    show _ :: entL f (es ++ [p]) (k + 1) = _
    rw [ih]
    have : k + 1 + es.length = k + (q :: es).length := by rw [List.length_cons]; omega
    rw [this]; rfl
theorem entL_congr {f g : Nat → Row} : ∀ {es : List (Addr × Addr)} {k : Nat}, (∀ i, k ≤ i → i < k + es.length → f i = g i) → entL f es k = entL g es k
  | [], _, _ => rfl
  | p :: es, k, h => by
    show _ :: _ = _ :: _
    rw [h k (Nat.le_refl _) (by rw [List.length_cons]; omega), entL_congr fun i h1 h2 => h i (by omega) (by rw [List.length_cons]; omega)]
theorem entL_split (f : Nat → Row) (es : List (Addr × Addr)) {m : Nat} {p : Addr × Addr} (h : es[m]? = some p) : ∀ k, entL f es k = entL f (es.take m) k ++ (p.1, .inst 201 p.2 (f (k + m)).f) :: entL f (es.drop (m + 1)) (k + m + 1) := by
  induction es generalizing m with
  | nil => cases h
  | cons q es ih =>
    intro k
    cases m with
    | zero => cases h; rfl
    | succ m =>
      show _ :: entL f es (k + 1) = _
      rw [ih h (k + 1)]
      have e1 : k + 1 + m = k + (m + 1) := by omega
      rw [e1]; rfl
end
end

section
open PySem PySem.Calls PySem.W PyProof.Rows PySem.Spec
noncomputable abbrev tl (a l : Addr) (σ : Stg) (y : Int) (base rows last got i want lo hi limit page state conf : Option D) : Loc :=
  [some (.raw (.ref a)), some (.raw (.ref l)), some (snapR σ.si σ.st σ.sv σ.sb), some (confR σ.cv), some (hardR σ.ht σ.hv σ.hc), some (.int y), base, rows, last, got, i, want, lo, hi, limit, page, state, conf, none, none, none, none, none, none, none]
noncomputable abbrev LD (a dx : Addr) (σ : Stg) (l : Addr) (story : List Item) : Led := [(a, .inst 439 dx σ.f), (l, .list (storyD story))]
noncomputable def gD (σ : Stg) : D := if σ.base ≤ σ.si then snapR σ.si σ.st σ.sv σ.sb else .none
noncomputable def tA (σ : Stg) (i : Int) : Int := if i < σ.base then -1 else if σ.last < i then -2 else σ.termAt i
noncomputable def wD (σ : Stg) (lo hi n : Int) : D := if lo ≤ σ.base then .int (-1) else if σ.last + 1 < hi then .int (-2) else .list (tupsD (σ.page lo hi n))
theorem cut_tups {rs : List Row} {i j : Int} (h : 0 ≤ i) (h' : 0 ≤ j) : cut (some i) (some j) (tupsD rs) = tupsD ((rs.drop i.toNat).take (j.toNat - i.toNat)) := by
  rw [cut_run h h', tupsD, tupsD, List.map_take, List.map_drop]
noncomputable def unent : D → Row
  | .inst _ [(_, .int t), (_, .int i), (_, .int k), (_, .bytes b)] => ⟨t, i, k, b.toList⟩
  | _ => ⟨0, 0, 0, []⟩
theorem unent_ent (r : Row) : unent r.ent = r := by
  rfl
theorem ents_tups (rs : List Row) : (entsD rs).filterMap (fun d => some (unent d).tup) = tupsD rs := by
  induction rs with
  | nil => rfl
  | cons r rs ih =>
    show List.filterMap _ (r.ent :: entsD rs) = _
    rw [List.filterMap_cons, unent_ent, ih]
    rfl
theorem lim_len {n : Int} : ∀ {rs : List Row} {t : Int} {kept : List Row}, (lim n rs t kept).length ≤ kept.length + rs.length
  | [], t, kept => by rw [lim]; exact Nat.le_refl _
  | r :: rs, t, kept => by
    rw [lim]
    split
    · exact Nat.le_add_right _ _
    · have := lim_len (n := n) (rs := rs) (t := t + r.size) (kept := kept ++ [r])
      rw [List.length_append] at this
      rw [List.length_cons]
      simp at this
      omega
theorem page_len {σ : Stg} (ok : σ.Ok) {lo hi n : Int} : (σ.page lo hi n).length ≤ 400 := by
  unfold Sto'.page
  have := ok.len
  split
  · simp
  · refine Nat.le_trans lim_len ?_
    rw [List.length_take, List.length_drop]
    simp
    omega
theorem dt_two (a b : Int) : DtD 1 (.tup [.int a, .int b]) := .tup fun d h => by
  simp only [List.mem_cons, List.not_mem_nil, or_false] at h
  rcases h with rfl | rfl <;> exact .int _ _
theorem fmod_in {a b : Int} (h : 0 < b) : 0 ≤ a.fmod b ∧ a.fmod b < b := by
  rw [Int.fmod_eq_emod_of_nonneg _ (by omega)]
  exact ⟨Int.emod_nonneg _ (by omega), Int.emod_lt_of_pos _ h⟩
section
variable {Ω : Wo}
set_option maxHeartbeats 4000000 in
theorem fn_tells (H : Here Ω) {a dx l : Addr} {σ : Stg} {story : List Item} {k0 : Int} {b0 : List UInt8} {y : Int} (ok : σ.Ok) (I : Inv story σ k0 b0) (hsm : ∀ r ∈ σ.es, r.b.length < 128) (hz : story.length ≤ 90) (ht : ∀ x ∈ story, x.told.length ≤ 10) (hb0 : b0.length ≤ 1000) :
    FnP Ω (.ref 479) [.raw (.ref a), .raw (.ref l), snapR σ.si σ.st σ.sv σ.sb, confR σ.cv, hardR σ.ht σ.hv σ.hc, .int y] (LD a dx σ l story) 5 (.bool true) := by
  obtain ⟨P, hP⟩ := id H.k
  refine Fn.of_def (f := 479) (n := 4) (name := (ft 31).name) (qual := "_law_tells") (params := (ft 31).params) (body := (ft 31).body) (scope := (ft 31).scope) (dV := .none) (kV := .none) (doc := .none) (pm := (.str "law_no0407_01" 770)) (an := .none) (cdv := (.ref 478)) (ct := .none) (oc := .type "function") (od := .none) (osl := #[]) ["storage", "story", "snap", "members", "hard", "y"] [("storage", NameKind.local), ("story", NameKind.local), ("snap", NameKind.local), ("members", NameKind.local), ("hard", NameKind.local), ("y", NameKind.local), ("base", NameKind.local), ("rows", NameKind.local), ("last", NameKind.local), ("got", NameKind.local), ("i", NameKind.local), ("want", NameKind.local), ("lo", NameKind.local), ("hi", NameKind.local), ("limit", NameKind.local), ("page", NameKind.local), ("state", NameKind.local), ("conf", NameKind.local), ("_law_standing", NameKind.globalImplicit), ("len", NameKind.globalImplicit), ("SnapNotReady", NameKind.globalImplicit), ("Compacted", NameKind.globalImplicit), ("Unavailable", NameKind.globalImplicit), ("_law_page", NameKind.globalImplicit), ("tuple", NameKind.globalImplicit)] (by rw [hP]; kernel_rfl) (by rw [hP]; kernel_rfl) (fun vs hvs => ?_) rfl (by kernel_rfl) rfl rfl (by decide) (by kernel_rfl) (by kernel_rfl) (by kernel_rfl) fun Γ A B => ?_
  · match vs, hvs with
    | [a0, a1, a2, a3, a4, a5], _ => kernel_rfl
  have K := B.ok
  have hn := B.nms
  have amb := B.amb
  have hW := B.W
  have O : Own Γ := ⟨B.own⟩
  show Ex _ _ _ [some _, some _, some _, some _, some _, some _, none, none, none, none, none, none, none, none, none, none, none, none, none, none, none, none, none, none, none] _ _ _ _
  have h1 := ok.base
  have h2 := ok.len
  have h3 := ok.cv
  have h4 := ok.sv
  have hlast : σ.last = σ.base + σ.es.length := rfl
  have ii : InsD (LD a dx σ l story) (.raw (.ref a)) 439 σ.f := .mu (.head _)
  have fS := fn_standing H (π := (LD a dx σ l story)) (d := .raw (.ref l)) (story := story) (b := σ.base) (rs := stR story.reverse none) (fun π' h => .mu (h _ (.tail _ (.head _)))) hz ht I.st1 I.st2
  rw [I.all] at fS
  have fl := fn_last H ok ii
  have ff := fn_first H ii
  have hzf : (tupsD (full σ k0 b0)).length = σ.es.length + 1 := by rw [tupsD_len, full_len]
  have hz1 : (tupsD (full σ k0 b0)).length < 2 ^ 63 := by omega
  have hz2 : (tupsD (full σ k0 b0)).length ≤ 1000 := by omega
  refine Ex.cons (Ex.unpack2 (f₁ := fun e1 => tl a l σ y (some e1) none none none none none none none none none none none) (f₂ := fun e1 e2 => tl a l σ y (some e1) (some e2) none none none none none none none none none none) K amb.handled (EvP.toEv (Φ := fun d' π' => d' = .tup [.int σ.base, .list (tupsD (full σ k0 b0))] ∧ π' = LD a dx σ l story) (EvP.callF fS K amb (by omega) (by fail "m_own") (k_law_standing H) (by fail "m_el")) ⟨rfl, rfl⟩) ?go1)
  rintro _ _ ⟨rfl, rfl⟩
  refine ⟨_, _, rfl, .loc (by fail "m_put"), .loc (by fail "m_put"), ?_⟩
  refine Ex.cons (Ex.assignP (d := .int σ.last) K (EvP.cast (by fail "m_ev") (by rw [hzf, hlast]; congr 1; omega)) (.loc (by fail "m_put")) ?_)
  refine Ex.seq (fun ρ π' => ρ = tl a l σ y (some (.int σ.base)) (some (.list (tupsD (full σ k0 b0)))) (some (.int σ.last)) (some (gD σ)) none none none none none none none none ∧ π' = LD a dx σ l story) ?try1 ?rest1
  case try1 =>
    refine Ex.try (Ψb := fun c ρ' π' => c = 116 ∧ σ.si < σ.base ∧ ρ' = tl a l σ y (some (.int σ.base)) (some (.list (tupsD (full σ k0 b0)))) (some (.int σ.last)) none none none none none none none none none ∧ π' = LD a dx σ l story) O K ?body ?hand
    case body =>
      refine Ex.cons (Ex.assign (Φv := fun d π' => d = gD σ ∧ π' = LD a dx σ l story) K (Ev.rowOf (Φo := fun d π' => σ.base ≤ σ.si ∧ d = .inst 334 (snapF σ.si σ.st σ.sv σ.sb) ∧ π' = LD a dx σ l story) K amb (n := 2) (by omega) ((Ev.meth (fn_snapshot H ok ii) K amb (by omega) (by fail "m_ev") ii rfl (met_MemoryStorage_snapshot H) ElP.nil).mono (fun _ _ h => h) ?ex) ?hk) (.loc (by fail "m_put")) ?next)
      case ex =>
        rintro c π' ⟨x1, x2, x3⟩
        exact ⟨x2, x1, rfl, x3⟩
      case hk =>
        rintro d π' ⟨x1, rfl, rfl⟩
        exact ⟨334, _, 317, _, .fro _ _, rfl, met_Snapshot_row H, fn_Snap_row H (by omega) (.fro _ _), (if_pos x1).symm, rfl⟩
      case next =>
        rintro d π' ⟨rfl, rfl⟩
        exact Ex.nil ⟨rfl, rfl⟩
    case hand =>
      rintro c ρ' π' ⟨rfl, hlt, rfl, rfl⟩
      refine Hnd.take K (by fail "m_lk") (g_SnapNotReady H) (m_SnapNotReady_SnapNotReady H) fun z => ?_
      refine Ex.cons (Ex.assignP (d := gD σ) (K.mark z) (EvP.cast EvP.cnone (if_neg (by omega)).symm) (.loc (by fail "m_put")) (Ex.nil ⟨rfl, rfl⟩))
  case rest1 =>
    rintro _ _ ⟨rfl, rfl⟩
    refine Ex.cons (Ex.ite (c := false) (TsP.ne (n := 3) (d := gD σ) ?dt amb (by decide) (by fail "m_name") ?snp) (fun h => by cases h) (fun _ => Ex.nil ?_))
    case dt =>
      unfold gD
      split
      · exact dt_snap 0 _ _ _ _
      · exact .none _
    case snp =>
      by_cases q : σ.base ≤ σ.si
      · have e : gD σ = snapR σ.si σ.st σ.sv σ.sb := if_pos q
        rw [e]
        exact EvP.ite (c := true) (TsP.cast (c := decide (σ.base ≤ σ.si)) (by fail "m_ts") (decide_eq_true q)) (fun _ => by fail "m_ev") (fun h => by cases h)
      · have e : gD σ = .none := if_neg q
        rw [e]
        exact EvP.ite (c := false) (TsP.cast (c := decide (σ.base ≤ σ.si)) (by fail "m_ts") (decide_eq_false q)) (fun h => by cases h) (fun _ => by fail "m_ev")
    have hd5 : 0 < σ.last - σ.base + 5 := by omega
    have hfi := fmod_in (a := y) hd5
    obtain ⟨i, hi⟩ : ∃ i, σ.base - 2 + y.fmod (σ.last - σ.base + 5) = i := ⟨_, rfl⟩
    have hib : -1000000 ≤ i ∧ i ≤ 1000000 := by omega
    refine Ex.cons (Ex.assignP (d := .int i) K (EvP.cast (by fail "m_ev") (by rw [hi])) (.loc (by fail "m_put")) ?_)
    refine Ex.seq (fun ρ π' => ρ = tl a l σ y (some (.int σ.base)) (some (.list (tupsD (full σ k0 b0)))) (some (.int σ.last)) (some (.int (tA σ i))) (some (.int i)) none none none none none none none ∧ π' = LD a dx σ l story) ?try2 ?rest2
    case try2 =>
      refine Ex.try (Ψb := fun c ρ' π' => ((i < σ.base ∧ c = 80) ∨ (σ.base ≤ i ∧ σ.last < i ∧ c = 92)) ∧ ρ' = tl a l σ y (some (.int σ.base)) (some (.list (tupsD (full σ k0 b0)))) (some (.int σ.last)) (some (gD σ)) (some (.int i)) none none none none none none none ∧ π' = LD a dx σ l story) O K ?body ?hand
      case body =>
        refine Ex.cons (Ex.assign (Φv := fun d π' => d = .int (tA σ i) ∧ π' = LD a dx σ l story) K ((Ev.meth (fn_term_at H ok hib ii) K amb (by omega) (by fail "m_ev") ii rfl (met_MemoryStorage_term_at H) (by fail "m_el")).mono ?m1 ?m2) (.loc (by fail "m_put")) ?next)
        case m1 =>
          rintro d π' ⟨x1, x2, rfl, rfl⟩
          refine ⟨?_, rfl⟩
          unfold tA
          rw [if_neg (by omega), if_neg (by omega)]
        case m2 =>
          rintro c π' ⟨x1, rfl⟩
          exact ⟨x1, rfl, rfl⟩
        case next =>
          rintro d π' ⟨rfl, rfl⟩
          exact Ex.nil ⟨rfl, rfl⟩
      case hand =>
        rintro c ρ' π' ⟨⟨x1, rfl⟩ | ⟨x1, x2, rfl⟩, rfl, rfl⟩
        · refine Hnd.take K (by fail "m_lk") (g_Compacted H) (m_Compacted_Compacted H) fun z => ?_
          refine Ex.cons (Ex.assignP (d := .int (tA σ i)) (K.mark z) (EvP.cast (EvP.neg EvP.cint) (by unfold tA; rw [if_pos x1])) (.loc (by fail "m_put")) (Ex.nil ⟨rfl, rfl⟩))
        · refine Hnd.skip K (by fail "m_lk") (g_Compacted H) (m_Unavailable_Compacted H) ?_
          refine Hnd.take K (by fail "m_lk") (g_Unavailable H) (m_Unavailable_Unavailable H) fun z => ?_
          refine Ex.cons (Ex.assignP (d := .int (tA σ i)) (K.mark z) (EvP.cast (EvP.neg EvP.cint) (by unfold tA; rw [if_neg (by omega), if_pos x2])) (.loc (by fail "m_put")) (Ex.nil ⟨rfl, rfl⟩))
    case rest2 =>
      rintro _ _ ⟨rfl, rfl⟩
      refine Ex.seq (fun ρ π' => ρ = tl a l σ y (some (.int σ.base)) (some (.list (tupsD (full σ k0 b0)))) (some (.int σ.last)) (some (.int (tA σ i))) (some (.int i)) (some (.int (tA σ i))) none none none none none none ∧ π' = LD a dx σ l story) ?ifs ?rest3
      case ifs =>
        refine Ex.ite (c := decide (i < σ.base)) (by fail "m_ts") (fun h => ?_) (fun h => Ex.cons (Ex.ite (c := decide (σ.last < i)) (by fail "m_ts") (fun h' => ?_) (fun h' => ?_)))
        · have h : i < σ.base := by simpa using h
          exact Ex.cons (Ex.assignP (d := .int (tA σ i)) K (EvP.cast (EvP.neg EvP.cint) (by unfold tA; rw [if_pos h])) (.loc (by fail "m_put")) (Ex.nil ⟨rfl, rfl⟩))
        · have h : ¬ i < σ.base := by simpa using h
          have h' : σ.last < i := by simpa using h'
          exact Ex.cons (Ex.assignP (d := .int (tA σ i)) K (EvP.cast (EvP.neg EvP.cint) (by unfold tA; rw [if_neg h, if_pos h'])) (.loc (by fail "m_put")) (Ex.nil (Ex.nil ⟨rfl, rfl⟩)))
        · have h : ¬ i < σ.base := by simpa using h
          have h' : ¬ σ.last < i := by simpa using h'
          obtain ⟨r, hr, hrt⟩ := I.rowAt (i := i) (by omega) (by omega)
          have hg : (tupsD (full σ k0 b0))[(i - σ.base).toNat]? = some (.tup [.int r.t, .int r.i, .int r.k, .bytes r.b.toArray]) := by rw [tupsD, List.getElem?_map, hr]; rfl
          have hi0 : 0 ≤ i - σ.base := by omega
          have hi1 : i - σ.base < 2 ^ 63 := by omega
          exact Ex.cons (Ex.assignP (d := .int (tA σ i)) K (EvP.cast (by fail "m_ev") (by unfold tA; rw [if_neg h, if_neg h', hrt])) (.loc (by fail "m_put")) (Ex.nil (Ex.nil ⟨rfl, rfl⟩)))
      case rest3 =>
        rintro _ _ ⟨rfl, rfl⟩
        refine Ex.cons (Ex.ite (c := false) (TsP.ne (n := 0) (.int _ _) amb (by decide) (by fail "m_name") (by fail "m_name")) (fun h => by cases h) (fun _ => Ex.nil ?_))
        have hd3 : 0 < σ.last - σ.base + 3 := by omega
        have hfl := fmod_in (a := y.fdiv 5) hd3
        have hfh := fmod_in (a := y.fdiv 3) (show (0 : Int) < 5 by decide)
        obtain ⟨lo, hlo⟩ : ∃ lo, σ.base + (y.fdiv 5).fmod (σ.last - σ.base + 3) = lo := ⟨_, rfl⟩
        obtain ⟨hi, hhi⟩ : ∃ hi, lo - 1 + (y.fdiv 3).fmod 5 = hi := ⟨_, rfl⟩
        obtain ⟨n, hn'⟩ : ∃ n, (y.fdiv 2).fmod 24 = n := ⟨_, rfl⟩
        have q5 : Builtin.divisionGoesByPylong y 5 = false := PyProof.noPylong_small (by decide)
        have q3 : Builtin.divisionGoesByPylong y 3 = false := PyProof.noPylong_small (by decide)
        have q2 : Builtin.divisionGoesByPylong y 2 = false := PyProof.noPylong_small (by decide)
        have hlob : -1000000 ≤ lo ∧ lo ≤ 1000000 := by omega
        have hhib : -1000000 ≤ hi ∧ hi ≤ 1000000 := by omega
        refine Ex.cons (Ex.assignP (d := .int lo) K (EvP.cast (by fail "m_ev") (by rw [hlo])) (.loc (by fail "m_put")) ?_)
        refine Ex.cons (Ex.assignP (d := .int hi) K (EvP.cast (by fail "m_ev") (by rw [hhi])) (.loc (by fail "m_put")) ?_)
        refine Ex.cons (Ex.assignP (d := .int n) K (EvP.cast (by fail "m_ev") (by rw [hn'])) (.loc (by fail "m_put")) ?_)
        refine Ex.seq (fun ρ π' => ρ = tl a l σ y (some (.int σ.base)) (some (.list (tupsD (full σ k0 b0)))) (some (.int σ.last)) (some (.int (tA σ i))) (some (.int i)) (some (wD σ lo hi n)) (some (.int lo)) (some (.int hi)) (some (.int n)) none none none ∧ π' = LD a dx σ l story) ?ifs2 ?rest4
        case ifs2 =>
          refine Ex.ite (c := decide (lo ≤ σ.base)) (by fail "m_ts") (fun h => ?_) (fun h => Ex.cons (Ex.ite (c := decide (σ.last + 1 < hi)) (by fail "m_ts") (fun h' => ?_) (fun h' => ?_)))
          · have h : lo ≤ σ.base := by simpa using h
            exact Ex.cons (Ex.assignP (d := wD σ lo hi n) K (EvP.cast (EvP.neg EvP.cint) (by unfold wD; rw [if_pos h])) (.loc (by fail "m_put")) (Ex.nil ⟨rfl, rfl⟩))
          · have h : ¬ lo ≤ σ.base := by simpa using h
            have h' : σ.last + 1 < hi := by simpa using h'
            exact Ex.cons (Ex.assignP (d := wD σ lo hi n) K (EvP.cast (EvP.neg EvP.cint) (by unfold wD; rw [if_neg h, if_pos h'])) (.loc (by fail "m_put")) (Ex.nil (Ex.nil ⟨rfl, rfl⟩)))
          · have h : ¬ lo ≤ σ.base := by simpa using h
            have h' : ¬ σ.last + 1 < hi := by simpa using h'
            have hp := page_at (k0 := k0) (b0 := b0) ok hsm (lo := lo) (hi := hi) (n := n) (by omega) (by omega)
            dsimp only at hp
            have f1 := fn_page H (rows := ((full σ k0 b0).drop (lo - σ.base).toNat).take ((hi - σ.base).toNat - (lo - σ.base).toNat)) (limit := n) (by rw [List.length_take, List.length_drop, full_len]; omega) (fun r hr => by
              have := List.mem_of_mem_drop (List.mem_of_mem_take hr)
              rcases List.mem_cons.mp this with rfl | this
              · exact hb0
              · have := hsm r this; omega)
            rw [hp, ← cut_tups (by omega) (by omega)] at f1
            exact Ex.cons (Ex.assignP (d := wD σ lo hi n) K (EvP.cast (EvP.call0 f1 K amb (by omega) (by fail "m_own") (k_law_page H) (by fail "m_el")) (by unfold wD; rw [if_neg h, if_neg h'])) (.loc (by fail "m_put")) (Ex.nil (Ex.nil ⟨rfl, rfl⟩)))
        case rest4 =>
          rintro _ _ ⟨rfl, rfl⟩
          refine Ex.seq (fun ρ π' => ∃ pg, ρ = tl a l σ y (some (.int σ.base)) (some (.list (tupsD (full σ k0 b0)))) (some (.int σ.last)) (some (wD σ lo hi n)) (some (.int i)) (some (wD σ lo hi n)) (some (.int lo)) (some (.int hi)) (some (.int n)) pg none none ∧ π' = LD a dx σ l story) ?try3 ?rest5
          case try3 =>
            refine Ex.try (Ψb := fun c ρ' π' => ((lo ≤ σ.base ∧ c = 80) ∨ (σ.base < lo ∧ σ.last + 1 < hi ∧ c = 92)) ∧ ρ' = tl a l σ y (some (.int σ.base)) (some (.list (tupsD (full σ k0 b0)))) (some (.int σ.last)) (some (.int (tA σ i))) (some (.int i)) (some (wD σ lo hi n)) (some (.int lo)) (some (.int hi)) (some (.int n)) none none none ∧ π' = LD a dx σ l story) O K ?body ?hand
            case body =>
              refine Ex.cons (Ex.assign (Φv := fun d π' => σ.base < lo ∧ hi ≤ σ.last + 1 ∧ ∃ x, d = .raw (.ref x) ∧ π' = (x, .list (entsD (σ.page lo hi n))) :: LD a dx σ l story) K ((Ev.meth (fn_between H ok hlob hhib ii) K amb (by omega) (by fail "m_ev") ii rfl (met_MemoryStorage_entries_between H) (by fail "m_el")).mono (fun _ _ h => h) ?ex) (.loc (by fail "m_put")) ?next)
              case ex =>
                rintro c π' ⟨x1, rfl⟩
                exact ⟨x1, rfl, rfl⟩
              case next =>
                rintro _ _ ⟨hw1, hw2, x, rfl, rfl⟩
                have hwD : wD σ lo hi n = .list (tupsD (σ.page lo hi n)) := by unfold wD; rw [if_neg (by omega), if_neg (by omega)]
                have hpl : (σ.page lo hi n).length ≤ 400 := page_len ok
                show Ex _ _ _ (tl a l σ y (some (.int σ.base)) (some (.list (tupsD (full σ k0 b0)))) (some (.int σ.last)) (some (.int (tA σ i))) (some (.int i)) (some (wD σ lo hi n)) (some (.int lo)) (some (.int hi)) (some (.int n)) (some (.raw (.ref x))) none none) ((x, .list (entsD (σ.page lo hi n))) :: LD a dx σ l story) _ _ _
                refine Ex.cons (Ex.assignComp (ds := entsD (σ.page lo hi n)) (fun d => some (unent d).tup) K (by fail "m_scope") (SrcP.list (d := .raw (.ref x)) amb.handled (by fail "m_ev") (.mu (.head _))) (by rw [entsD_len]; omega) lst_ok ?turn (.loc (by fail "m_put")) ?hk (swapsOn K (by fail "m_lk") rfl))
                case turn =>
                  intro Γc Kc hnc hfc d it o D acc hd
                  obtain ⟨r, hr, rfl⟩ := List.mem_map.mp hd
                  have ambc : Amb A Γc.fs 4 := amb_of hfc amb
                  refine ⟨true, TsL.nil, fun _ => ⟨_, rfl, ?_⟩, fun h => by cases h⟩
                  rw [unent_ent]
                  have fe := fn_Entry_row H (π := (it, .obj o) :: (D, .list acc) :: ((x, .list (entsD (σ.page lo hi n))) :: LD a dx σ l story)) r (.fro 201 r.f)
                  exact EvP.meth0 fe Kc ambc (by omega) (by fail "m_name") (.fro _ _) rfl (met_Entry_row H) ElP.nil
                case hk =>
                  rw [ents_tups, ← hwD]
                  refine Ex.cons (Ex.while (fun m ρ π' => ∃ ds, m = ds.length ∧ ρ = tl a l σ y (some (.int σ.base)) (some (.list (tupsD (full σ k0 b0)))) (some (.int σ.last)) (some (wD σ lo hi n)) (some (.int i)) (some (wD σ lo hi n)) (some (.int lo)) (some (.int hi)) (some (.int n)) (some (.raw (.ref x))) none none ∧ π' = (x, .list ds) :: LD a dx σ l story ∧ ds.length ≤ 1000) O K ?wturn _ ⟨entsD (σ.page lo hi n), rfl, rfl, rfl, by rw [entsD_len]; omega⟩)
                  rintro m ρ' π' ⟨ds, rfl, rfl, rfl, hl⟩
                  have hl1 : ds.length < 2 ^ 63 := by omega
                  refine ⟨decide ((0 : Int) < ds.length), TsP.cmp (EvP.lenL (d := .raw (.ref x)) K (by fail "m_glob") (by fail "m_name") (.mu (.head _)) hl1) EvP.cint fun _ => CmpP.gt, fun h => ?_, fun h => ?_⟩
                  · rcases List.eq_nil_or_concat ds with rfl | ⟨dl, dd, rfl⟩
                    · simp at h
                    · rw [List.concat_eq_append] at hl ⊢
                      rw [List.length_append] at hl
                      refine Ex.cons (Ex.expr (Ev.pop (πa := []) (πb := LD a dx σ l story) (by fail "m_ev") (by omega)) ?_ K.quiet)
                      rintro _ _ ⟨rfl, rfl⟩
                      exact Ex.nil ⟨dl.length, by rw [List.length_append]; exact Nat.lt_succ_self _, dl, rfl, rfl, rfl, by omega⟩
                  · exact Ex.drop (πa := []) (πb := LD a dx σ l story) (Ex.nil ⟨_, rfl, rfl⟩)
            case hand =>
              rintro c ρ' π' ⟨⟨x1, rfl⟩ | ⟨x1, x2, rfl⟩, rfl, rfl⟩
              · refine Hnd.take K (by fail "m_lk") (g_Compacted H) (m_Compacted_Compacted H) fun z => ?_
                refine Ex.cons (Ex.assignP (d := wD σ lo hi n) (K.mark z) (EvP.cast (EvP.neg EvP.cint) (by unfold wD; rw [if_pos x1])) (.loc (by fail "m_put")) (Ex.nil ⟨_, rfl, rfl⟩))
              · refine Hnd.skip K (by fail "m_lk") (g_Compacted H) (m_Unavailable_Compacted H) ?_
                refine Hnd.take K (by fail "m_lk") (g_Unavailable H) (m_Unavailable_Unavailable H) fun z => ?_
                refine Ex.cons (Ex.assignP (d := wD σ lo hi n) (K.mark z) (EvP.cast (EvP.neg EvP.cint) (by unfold wD; rw [if_neg (by omega), if_pos x2])) (.loc (by fail "m_put")) (Ex.nil ⟨_, rfl, rfl⟩))
          case rest5 =>
            rintro _ _ ⟨pg, rfl, rfl⟩
            refine Ex.cons (Ex.ite (c := false) (TsP.cast (TsP.or2 (c := false) (d := false) (TsP.ne (n := 2) (d := wD σ lo hi n) ?dt2 amb (by decide) (by fail "m_name") (by fail "m_name")) (fun _ => TsP.ne (n := 1) (d := .tup [.int (σ.base + 1), .int σ.last]) (dt_two _ _) amb (by decide) (by fail "m_ev") (by fail "m_ev"))) rfl) (fun h => by cases h) (fun _ => Ex.nil ?_))
            case dt2 =>
              unfold wD
              split
              · exact .int _ _
              · split
                · exact .int _ _
                · exact .list (dt_rows 0 _)
            refine Ex.cons (Ex.unpack2 (f₁ := fun e1 => tl a l σ y (some (.int σ.base)) (some (.list (tupsD (full σ k0 b0)))) (some (.int σ.last)) (some (wD σ lo hi n)) (some (.int i)) (some (wD σ lo hi n)) (some (.int lo)) (some (.int hi)) (some (.int n)) pg (some e1) none) (f₂ := fun e1 e2 => tl a l σ y (some (.int σ.base)) (some (.list (tupsD (full σ k0 b0)))) (some (.int σ.last)) (some (wD σ lo hi n)) (some (.int i)) (some (wD σ lo hi n)) (some (.int lo)) (some (.int hi)) (some (.int n)) pg (some e1) (some e2)) K amb.handled ((Ev.meth (fn_init_state H ii) K amb (by omega) (by fail "m_ev") ii rfl (met_MemoryStorage_initial_state H) ElP.nil).mono (fun _ _ h => h) fun _ _ h => h.elim) ?go2)
            rintro _ _ ⟨x, dx2, rfl, rfl⟩
            refine ⟨_, _, rfl, .loc (by fail "m_put"), .loc (by fail "m_put"), ?_⟩
            have i3 : InsD ((x, MO.inst 257 dx2 (hardF σ.ht σ.hv σ.hc)) :: LD a dx σ l story) (.raw (.ref x)) 257 (hardF σ.ht σ.hv σ.hc) := .mu (.head _)
            have fh := fn_Hard_row H i3
            have fc : FnP Ω (.ref 282) [.inst 292 (confF σ.cv)] ((x, MO.inst 257 dx2 (hardF σ.ht σ.hv σ.hc)) :: LD a dx σ l story) 1 (confR σ.cv) := fn_Conf_row H (by omega) (.fro _ _)
            refine Ex.cons (Ex.ite (c := false) (TsP.ne (n := 3) (d := .tup [hardR σ.ht σ.hv σ.hc, confR σ.cv]) ?dt3 amb (by decide) (by fail "m_ev") (by fail "m_ev")) (fun h => by cases h) (fun _ => Ex.nil ?_))
            case dt3 =>
              refine .tup fun d h => ?_
              simp only [List.mem_cons, List.not_mem_nil, or_false] at h
              rcases h with rfl | rfl
              · exact dt_hard 1 _ _ _
              · exact dt_conf 0 _
            refine Ex.cons (Ex.augAttr (πa := []) (πb := LD a dx σ l story) K (by fail "m_ev") rfl (get_HardState_commit H) (by fail "m_ev") (fun s t u Q E h => wpAny_iadd_int h) (set_HardState_commit H) (Nat.le_of_ble_eq_true rfl) ?_)
            show Ex _ _ _ _ ((x, .inst 257 dx2 (hardF σ.ht σ.hv (σ.hc + 9))) :: LD a dx σ l story) _ _ _
            have i4 : InsD ((x, MO.inst 257 dx2 (hardF σ.ht σ.hv (σ.hc + 9))) :: LD a dx σ l story) (.raw (.ref a)) 439 σ.f := .mu (.tail _ (.head _))
            have fr := fn_Sto_row H ok i4
            refine Ex.cons (Ex.retDrop (EvP.eqS (n := 4) (d := .tup [hardR σ.ht σ.hv σ.hc, .int σ.base, .int σ.bt, .tup (σ.es.map Row.tup), snapR σ.si σ.st σ.sv σ.sb]) ?dt4 amb (by decide) (by fail "m_ev") (EvP.tup (ElP.cons (by fail "m_ev") (ElP.cons (by fail "m_ev") (ElP.cons ?r00 (ElP.cons ?r1 (ElP.cons (by fail "m_ev") ElP.nil))))))) ⟨rfl, rfl⟩)
            case dt4 =>
              refine .tup fun d h => ?_
              simp only [List.mem_cons, List.not_mem_nil, or_false] at h
              rcases h with rfl | rfl | rfl | rfl | rfl
              · exact dt_hard 2 _ _ _
              · exact .int _ _
              · exact .int _ _
              · exact .tup (dt_rows 1 _)
              · exact dt_snap 0 _ _ _ _
            case r00 =>
              have hg : (tupsD (full σ k0 b0))[(0 : Int).toNat]? = some (.tup [.int σ.bt, .int σ.base, .int k0, .bytes b0.toArray]) := rfl
              fail "m_ev"
            case r1 =>
              refine EvP.cast (EvP.tupleL (ds := cut (some 1) none (tupsD (full σ k0 b0))) (by fail "m_glob") (by fail "m_ev") (.fro _) ?_) ?_
              · rw [cut_from (by decide), List.length_drop]; omega
              · rw [cut_from (by decide)]; rfl
end
end

section
open PySem PySem.Calls PySem.W PyProof.Rows PySem.Spec
noncomputable abbrev lawN : List (Str × NameKind) := [(Str.ofString "script", NameKind.local), (Str.ofString "x", NameKind.local), (Str.ofString "nums", NameKind.local), (Str.ofString "begin", NameKind.local), (Str.ofString "conf", NameKind.local), (Str.ofString "storage", NameKind.local), (Str.ofString "story", NameKind.local), (Str.ofString "members", NameKind.local), (Str.ofString "snap", NameKind.local), (Str.ofString "hard", NameKind.local), (Str.ofString "i", NameKind.local), (Str.ofString "way", NameKind.local), (Str.ofString "y", NameKind.local), (Str.ofString "base", NameKind.cell), (Str.ofString "rows", NameKind.local), (Str.ofString "last", NameKind.local), (Str.ofString "at", NameKind.local), (Str.ofString "term", NameKind.cell), (Str.ofString "data", NameKind.cell), (Str.ofString "state", NameKind.local), (Str.ofString "entries", NameKind.local), (Str.ofString "want", NameKind.local), (Str.ofString "start", NameKind.cell), (Str.ofString "count", NameKind.local), (Str.ofString "told", NameKind.cell), (Str.ofString "got", NameKind.local), (Str.ofString "len", NameKind.globalImplicit), (Str.ofString "_law_draw", NameKind.globalImplicit), (Str.ofString "ConfState", NameKind.globalImplicit), (Str.ofString "MemoryStorage", NameKind.globalImplicit), (Str.ofString "_law_tells", NameKind.globalImplicit), (Str.ofString "range", NameKind.globalImplicit), (Str.ofString "_law_standing", NameKind.globalImplicit), (Str.ofString "_law_terms", NameKind.globalImplicit), (Str.ofString "bytes", NameKind.globalImplicit), (Str.ofString "HardState", NameKind.globalImplicit), (Str.ofString "max", NameKind.globalImplicit), (Str.ofString "Snapshot", NameKind.globalImplicit), (Str.ofString "LogGap", NameKind.globalImplicit), (Str.ofString "Compacted", NameKind.globalImplicit), (Str.ofString "LogPanic", NameKind.globalImplicit), (Str.ofString "SnapOutOfDate", NameKind.globalImplicit)]
noncomputable def LawOk : Prop := ∀ (Ω : Wo), Here Ω → ∀ (Γ : Mine.Ctx) (A : Around) (ns : List Int), ns.length ≤ 63 → Body Ω lawN [] 8 Γ A → Ex Ω Γ A (loc0 lawN [.list (intsD ns)]) [] (execs lawRec.body Γ.env)
  (fun fl _ π' => match fl with | .ret d => d = .bool true | .next => D.none = .bool true | _ => False) (fun _ _ _ => False)
end

section
open PySem PySem.Calls PySem.W PyProof.Rows PySem.Spec
theorem TsP.boolT {Ω : Wo} {Γ : Ctx} {A : Around} {ρ : Loc} {π : Led} {e : Expr} {b : Bool} (a : EvP Ω Γ A ρ π (eval e Γ.env) (.bool b))
    (hs : PySem.isTrue e Γ.env (eval e Γ.env) = (do let v ← eval e Γ.env; standAt (Expr.pos e); holding [v] (truthy v)) := by rfl) : TsP Ω Γ A ρ π (PySem.isTrue e Γ.env (eval e Γ.env)) b := fun s G Q E R hQ => by
  refine wpAny_isTrue_value (a s G _ E R fun v G1 h1 tk1 R1 g1 r1 => ?_) hs
  cases r1
  exact wpAny_truthy_bool (hQ G1 h1 tk1 R1 g1)
theorem LocLe.nil : LocLe [] [] := fun i d h => h
theorem LocLe.same {o : Option D} {ρ' ρ : Loc} (h : LocLe ρ' ρ) : LocLe (o :: ρ') (o :: ρ) := fun i d e => by
  cases i with
  | zero => exact e
  | succ i => exact h i d e
theorem LocLe.skip {o : Option D} {ρ' ρ : Loc} (h : LocLe ρ' ρ) : LocLe (none :: ρ') (o :: ρ) := fun i d e => by
  cases i with
  | zero => cases e
  | succ i => exact h i d e

local macro_rules | `(tactic| fail "m_le") => `(tactic| first | exact LocLe.nil | (refine' LocLe.same ?gg; (case gg => fail "m_le")) | (refine' LocLe.skip ?gg; (case gg => fail "m_le")))
noncomputable abbrev LW (sc x nums bg conf : Option D) (a l : Addr) (mem snp hrd : D) (i way y base rows last at_ term data state entries want start count told got : Option D) : Loc :=
  [sc, x, nums, bg, conf, some (.raw (.ref a)), some (.raw (.ref l)), some mem, some snp, some hrd, i, way, y, base, rows, last, at_, term, data, state, entries, want, start, count, told, got, none, none, none, none, none, none, none, none, none, none, none, none, none, none, none, none]
noncomputable def lawTurn : List Stmt := match (lawRec.body[10]? : Option Stmt) with
  | some (.For _ _ b _ _) => b
  | _ => []
noncomputable def lawH : List ExceptHandler := match (lawTurn[14]? : Option Stmt) with
  | some (.Try _ hs _ _ _) => hs
  | _ => []
structure Bd (n : Nat) (σ : Stg) (story : List Item) (b0 : List UInt8) : Prop where
  base : 0 ≤ σ.base ∧ σ.base ≤ 1 + 6 * n
  si : 0 ≤ σ.si ∧ σ.si ≤ 1 + 6 * n
  len : σ.es.length ≤ 3 * n
  cv : σ.cv.length ≤ 2
  sv : σ.sv.length ≤ 2
  rows : ∀ r ∈ σ.es, r.Ok ∧ r.b.length ≤ 2
  slen : story.length ≤ 1 + n
  told : ∀ x ∈ story, x.told.length ≤ 3
  b0 : b0.length ≤ 2
  n : n ≤ 8
theorem Bd.ok {n : Nat} {σ : Stg} {story : List Item} {b0 : List UInt8} (B : Bd n σ story b0) : σ.Ok := by
  have h1 := B.base
  have h2 := B.si
  have h3 := B.len
  have h4 := B.cv
  have h5 := B.sv
  have h6 := B.n
  exact ⟨by omega, by omega, by omega, by omega, by omega, fun r hr => (B.rows r hr).1⟩
noncomputable def Go (n : Nat) (σ : Stg) (story : List Item) : Prop := ∃ k0 b0, Inv story σ k0 b0 ∧ Bd n σ story b0
noncomputable def JL (sc : D) (ns : List Int) (bg : D) (a dx l : Addr) (n : Nat) (ρ : Loc) (π : Led) : Prop := ∃ σ story, Go n σ story ∧
  ρ = LW (some sc) none (some (.list (intsD ns))) (some bg) none a l (confR σ.cv) (snapR σ.si σ.st σ.sv σ.sb) (hardR σ.ht σ.hv σ.hc) none none none none none none none none none none none none none none none none ∧ π = LD a dx σ l story
noncomputable def PostT (sc : D) (ns : List Int) (bg : D) (a dx l : Addr) (n : Nat) (it : Addr) (o : Obj) (fl : Fl) (ρ : Loc) (π : Led) : Prop := ∃ π₃, π.Perm ((it, .obj o) :: π₃) ∧ match fl with
  | .next => JL sc ns bg a dx l (n + 1) ρ π₃
  | _ => False
section
variable {Ω : Wo} {Γ : Ctx} {A : Around}
theorem hands (H : Here Ω) (K : COk Ω Γ A) (hn : Γ.names = lawN) {Φ : Fl → Loc → Led → Prop} {Ψ : Addr → Loc → Led → Prop} {π : Led} {c : Addr} {s : Str} {sc x nums bg conf : Option D} {a l : Addr} {mem snp hrd : D} {i way y base rows last at_ term data state entries want start count told got : Option D}
    (h : (c = 128 ∧ s = "gap") ∨ (c = 80 ∧ s = "folded") ∨ (c = 140 ∧ s = "panic") ∨ (c = 104 ∧ s = "old"))
    (hΦ : Φ .next (LW sc x nums bg conf a l mem snp hrd i way y base rows last at_ term data state entries want start count told (some (.str s))) π) :
    Hnd Ω Γ A c (LW sc x nums bg conf a l mem snp hrd i way y base rows last at_ term data state entries want start count told got) π lawH Φ Ψ := by
  rcases h with ⟨rfl, rfl⟩ | ⟨rfl, rfl⟩ | ⟨rfl, rfl⟩ | ⟨rfl, rfl⟩
  · refine Hnd.take K (by fail "m_lk") (g_LogGap H) (m_LogGap_LogGap H) fun z => ?_
    exact Ex.cons (Ex.assignP (K.mark z) EvP.cstr (.loc (by fail "m_put")) (Ex.nil hΦ))
  · refine Hnd.skip K (by fail "m_lk") (g_LogGap H) (m_Compacted_LogGap H) ?_
    refine Hnd.take K (by fail "m_lk") (g_Compacted H) (m_Compacted_Compacted H) fun z => ?_
    exact Ex.cons (Ex.assignP (K.mark z) EvP.cstr (.loc (by fail "m_put")) (Ex.nil hΦ))
  · refine Hnd.skip K (by fail "m_lk") (g_LogGap H) (m_LogPanic_LogGap H) ?_
    refine Hnd.skip K (by fail "m_lk") (g_Compacted H) (m_LogPanic_Compacted H) ?_
    refine Hnd.take K (by fail "m_lk") (g_LogPanic H) (m_LogPanic_LogPanic H) fun z => ?_
    exact Ex.cons (Ex.assignP (K.mark z) EvP.cstr (.loc (by fail "m_put")) (Ex.nil hΦ))
  · refine Hnd.skip K (by fail "m_lk") (g_LogGap H) (m_SnapOutOfDate_LogGap H) ?_
    refine Hnd.skip K (by fail "m_lk") (g_Compacted H) (m_SnapOutOfDate_Compacted H) ?_
    refine Hnd.skip K (by fail "m_lk") (g_LogPanic H) (m_SnapOutOfDate_LogPanic H) ?_
    refine Hnd.take K (by fail "m_lk") (g_SnapOutOfDate H) (m_SnapOutOfDate_SnapOutOfDate H) fun z => ?_
    exact Ex.cons (Ex.assignP (K.mark z) EvP.cstr (.loc (by fail "m_put")) (Ex.nil hΦ))
set_option maxHeartbeats 4000000 in
theorem tail (H : Here Ω) (B : Body Ω lawN [] 8 Γ A) {n : Nat} {σ : Stg} {story : List Item} (go : Go (n + 1) σ story) {w sc bg : D} {ns : List Int} (hw : DtD 3 w) {yv : Int} {a dx l s ds e it : Addr} {o : Obj} {es : List D} (hes : es.length ≤ 1000) {t v c : Int}
    {x conf : Option D} {i way base rows last at_ term data start count told : Option D} :
    Ex Ω Γ A (LW (some sc) x (some (.list (intsD ns))) (some bg) conf a l (confR σ.cv) (snapR σ.si σ.st σ.sv σ.sb) (hardR σ.ht σ.hv σ.hc) i way (some (.int yv)) base rows last at_ term data (some (.raw (.ref s))) (some (.raw (.ref e))) (some w) start count told (some w))
      ((a, .inst 439 dx σ.f) :: (l, .list (storyD story)) :: (it, .obj o) :: (s, .inst 257 ds (hardF t v c)) :: (e, .list es) :: []) (execs (lawTurn.drop 15) Γ.env) (PostT sc ns bg a dx l n it o) (fun _ _ _ => False) := by
  have K := B.ok
  have hn := B.nms
  have amb := B.amb
  have O : Own Γ := ⟨B.own⟩
  obtain ⟨k0, b0, I, bd⟩ := id go
  refine Ex.cons (Ex.while (fun m ρ π' => ∃ es, m = es.length ∧ ρ = LW (some sc) x (some (.list (intsD ns))) (some bg) conf a l (confR σ.cv) (snapR σ.si σ.st σ.sv σ.sb) (hardR σ.ht σ.hv σ.hc) i way (some (.int yv)) base rows last at_ term data (some (.raw (.ref s))) (some (.raw (.ref e))) (some w) start count told (some w) ∧
    π' = (a, .inst 439 dx σ.f) :: (l, .list (storyD story)) :: (it, .obj o) :: (s, .inst 257 ds (hardF t v c)) :: (e, .list es) :: [] ∧ es.length ≤ 1000) O K ?wturn _ ⟨es, rfl, rfl, rfl, hes⟩)
  rintro m ρ' π' ⟨es, rfl, rfl, rfl, hl⟩
  have hl1 : es.length < 2 ^ 63 := by omega
  refine ⟨decide ((0 : Int) < es.length), TsP.cmp (EvP.lenL (d := .raw (.ref e)) K (by fail "m_glob") (by fail "m_name") (.mu (.tail _ (.tail _ (.tail _ (.tail _ (.head _)))))) hl1) EvP.cint fun _ => CmpP.gt, fun h => ?_, fun h => ?_⟩
  · rcases List.eq_nil_or_concat es with rfl | ⟨dl, dd, rfl⟩
    · simp at h
    · rw [List.concat_eq_append] at hl ⊢
      rw [List.length_append] at hl
      refine Ex.cons (Ex.expr (Ev.pop (πa := [(a, .inst 439 dx σ.f), (l, .list (storyD story)), (it, .obj o), (s, .inst 257 ds (hardF t v c))]) (πb := []) (by fail "m_ev") (by omega)) ?_ K.quiet)
      rintro _ _ ⟨rfl, rfl⟩
      exact Ex.nil ⟨dl.length, by rw [List.length_append]; exact Nat.lt_succ_self _, dl, rfl, rfl, rfl, by omega⟩
  · refine Ex.cons (Ex.augAttr (πa := [(a, .inst 439 dx σ.f), (l, .list (storyD story)), (it, .obj o)]) (πb := [(e, .list es)]) K (by fail "m_ev") rfl (get_HardState_term H) (by fail "m_ev") (fun s t u Q E h => wpAny_iadd_int h) (set_HardState_term H) (Nat.le_of_ble_eq_true rfl) ?_)
    refine Ex.drop (πa := [(a, .inst 439 dx σ.f), (l, .list (storyD story)), (it, .obj o)]) (πb := [(e, .list es)]) (Ex.drop (πa := [(a, .inst 439 dx σ.f), (l, .list (storyD story)), (it, .obj o)]) (πb := []) ?_)
    have ft := fn_tells H (a := a) (dx := dx) (l := l) (y := yv) bd.ok I (fun r hr => by have := (bd.rows r hr).2; omega) (by have := bd.slen; have := bd.n; omega) (fun x hx => by have := bd.told x hx; omega) (by have := bd.b0; omega)
    refine Ex.cons (Ex.ite (c := false) (TsP.cast (TsP.or2 (c := false) (d := false) (TsP.ne hw amb (by decide) (by fail "m_name") (by fail "m_name")) (fun _ => TsP.not (c := true) (TsP.boolT (Ev.pure (π₁ := LD a dx σ l story) (π₂ := [(it, .obj o)]) (.refl _) (Ev.call K (amb.mono (by omega)) ft (.refl _) (by fail "m_own") (k_law_tells H) (by fail "m_el")))))) rfl) (fun h => by cases h) (fun _ => Ex.nil ?_))
    refine Ex.less (ρ' := LW (some sc) none (some (.list (intsD ns))) (some bg) none a l (confR σ.cv) (snapR σ.si σ.st σ.sv σ.sb) (hardR σ.ht σ.hv σ.hc) none none none none none none none none none none none none none none none none) (by fail "m_le") (Ex.nil ⟨LD a dx σ l story, ?_, σ, story, go, rfl, rfl⟩)
    exact List.perm_middle (l₁ := LD a dx σ l story) (l₂ := [])
end
end

section
open PySem PySem.Calls PySem.W PyProof.Rows PySem.Spec
noncomputable abbrev LT (a dx : Addr) (σ : Stg) (l : Addr) (story : List Item) (it : Addr) (o : Obj) (s ds : Addr) (t v c : Int) (e : Addr) (es : List D) : Led :=
  (a, .inst 439 dx σ.f) :: (l, .list (storyD story)) :: (it, .obj o) :: (s, .inst 257 ds (hardF t v c)) :: (e, .list es) :: []
section
variable {n : Nat} {σ : Stg} {story : List Item} {k0 : Int} {b0 : List UInt8}
theorem Bd.succ (B : Bd n σ story b0) (h : n < 8) : Bd (n + 1) σ story b0 := by
  have h1 := B.base
  have h2 := B.si
  have h3 := B.len
  have h4 := B.slen
  exact ⟨by omega, by omega, by omega, B.cv, B.sv, B.rows, by omega, B.told, B.b0, by omega⟩
theorem storyD_app (s : List Item) (x : Item) : storyD (s ++ [x]) = storyD s ++ [x.d] := by rw [storyD, storyD, List.map_append]; rfl
theorem told_app {s : List Item} {x : Item} (h : ∀ y ∈ s, y.told.length ≤ 3) (hx : x.told.length ≤ 3) : ∀ y ∈ s ++ [x], y.told.length ≤ 3 := fun y hy => by
  rcases List.mem_append.mp hy with hy | hy
  · exact h y hy
  · rw [List.mem_singleton.mp hy]; exact hx
theorem Go.fold (I : Inv story σ k0 b0) (B : Bd n σ story b0) (hn : n < 8) {i : Int} (h1 : σ.base < i) (h2 : i ≤ σ.last) (h3 : i ≤ σ.base + 5) : Go (n + 1) (σ.folded i) (story ++ [⟨2, i, []⟩]) := by
  obtain ⟨r, hr, I'⟩ := I.fold h1 h2
  have b1 := B.base
  have b2 := B.si
  have b3 := B.len
  have b4 := B.slen
  refine ⟨r.k, r.b, I', ⟨⟨?_, ?_⟩, ⟨b2.1, ?_⟩, ?_, B.cv, B.sv, fun r hr => ?_, ?_, told_app B.told (by simp), (B.rows r hr).2, by omega⟩⟩
  · show (0 : Int) ≤ i; omega
  · show i ≤ _; omega
  · show σ.si ≤ _; omega
  · show (σ.es.drop _).length ≤ _
    rw [List.length_drop]; omega
  · exact B.rows r (List.mem_of_mem_drop hr)
  · rw [List.length_append]; simp; omega
theorem Go.apply (B : Bd n σ story b0) (hn : n < 8) {i t : Int} {vs : List Int} {b : List UInt8} (h1 : σ.base ≤ i) (h3 : i ≤ σ.base + 5) (hv : vs.length ≤ 2) : Go (n + 1) (σ.newSnap i t vs b) (story ++ [⟨0, i, [⟨t, i, 0, []⟩]⟩]) := by
  have b1 := B.base
  have b2 := B.si
  have b3 := B.len
  have b4 := B.slen
  refine ⟨0, [], Inv.snap 0 [], ⟨⟨?_, ?_⟩, ⟨?_, ?_⟩, ?_, hv, hv, (fun r hr => nomatch hr), ?_, told_app B.told (by simp), by simp, by omega⟩⟩
  · show (0 : Int) ≤ i; omega
  · show i ≤ _; omega
  · show (0 : Int) ≤ i; omega
  · show i ≤ _; omega
  · show ([] : List Row).length ≤ _; simp
  · rw [List.length_append]; simp; omega
theorem Go.newer (I : Inv story σ k0 b0) (B : Bd n σ story b0) (hn : n < 8) {i : Int} {c : Option (List Int)} {b : List UInt8} (h1 : σ.base ≤ i) (h3 : i ≤ σ.base + 5) (hv : ∀ vs, c = some vs → vs.length ≤ 2) : Go (n + 1) (σ.newer i c b) story := by
  have b1 := B.base
  have b2 := B.si
  have b3 := B.len
  have b4 := B.slen
  have hc : (c.getD σ.cv).length ≤ 2 := by
    cases c with
    | none => exact B.cv
    | some vs => exact hv vs rfl
  refine ⟨k0, b0, I.same rfl rfl rfl, ⟨⟨b1.1, ?_⟩, ⟨?_, ?_⟩, ?_, hc, hc, B.rows, by omega, B.told, B.b0, by omega⟩⟩
  · show σ.base ≤ _; omega
  · show (0 : Int) ≤ i; omega
  · show i ≤ _; omega
  · show σ.es.length ≤ _; omega
theorem Go.hard (I : Inv story σ k0 b0) (B : Bd n σ story b0) (hn : n < 8) (t v c : Int) : Go (n + 1) (σ.setHard t v c) story := by
  have b1 := B.base
  have b2 := B.si
  have b3 := B.len
  have b4 := B.slen
  refine ⟨k0, b0, I.same rfl rfl rfl, ⟨⟨b1.1, ?_⟩, ⟨b2.1, ?_⟩, ?_, B.cv, B.sv, B.rows, by omega, B.told, B.b0, by omega⟩⟩
  · show σ.base ≤ _; omega
  · show σ.si ≤ _; omega
  · show σ.es.length ≤ _; omega
theorem Go.app (I : Inv story σ k0 b0) (B : Bd n σ story b0) (hn : n < 8) {s : Int} {rs : List Row} (hc : ∀ (k : Nat) r, rs[k]? = some r → r.i = s + k) (h1 : σ.base + 1 ≤ s + rs.length - 1) (h2 : s ≤ σ.last + 1) (hl : rs.length ≤ 3)
    (hr : ∀ r ∈ rs, (0 ≤ r.t ∧ r.t ≤ 1000000) ∧ (0 ≤ r.k ∧ r.k ≤ 1000000) ∧ r.b.length ≤ 2 ∧ r.i ≤ 1000000) :
    Go (n + 1) (σ.app s rs) (story ++ [⟨1, if s < σ.base + 1 then σ.base + 1 else s, rs.filter (fun r => decide (σ.base < r.i))⟩]) := by
  have b1 := B.base
  have b2 := B.si
  have b3 := B.len
  have b4 := B.slen
  refine ⟨k0, b0, I.app hc h1 h2, ⟨⟨b1.1, ?_⟩, ⟨b2.1, ?_⟩, ?_, B.cv, B.sv, fun r hr' => ?_, ?_, told_app B.told (Nat.le_trans (List.length_filter_le ..) hl), B.b0, by omega⟩⟩
  · show σ.base ≤ _; omega
  · show σ.si ≤ _; omega
  · show (σ.es.take _ ++ rs.drop _).length ≤ _
    rw [List.length_append, List.length_take, List.length_drop]; omega
  · have hr' : r ∈ σ.es.take _ ++ rs.drop (σ.base + 1 - s).toNat := hr'
    rcases List.mem_append.mp hr' with h | h
    · exact B.rows r (List.mem_of_mem_take h)
    · obtain ⟨j, hj⟩ := List.getElem?_of_mem h
      rw [List.getElem?_drop] at hj
      have e := hc _ r hj
      obtain ⟨x1, x2, x3, x4⟩ := hr r (List.mem_of_mem_drop h)
      exact ⟨⟨x1, ⟨by omega, x4⟩, x2, by omega⟩, x3⟩
  · rw [List.length_append]; simp; omega
end
end

section
open PySem PySem.Calls PySem.W PyProof.Rows PySem.Spec
section
variable {Ω : Wo} {Γ : Ctx} {A : Around}
set_option maxHeartbeats 4000000 in
theorem way3 (H : Here Ω) (B : Body Ω lawN [] 8 Γ A) {n : Nat} {σ : Stg} {story : List Item} {k0 : Int} {b0 : List UInt8} (I : Inv story σ k0 b0) (bd : Bd n σ story b0) (hn8 : n < 8) {sc bg : D} {ns cf : List Int} {yv at' tv : Int} (hcf : cf.length ≤ 2) (hat : σ.base - 1 ≤ at' ∧ at' ≤ σ.base + 5)
    (hyv : 0 ≤ yv) {u : UInt8} {a dx l s ds e it : Addr} {o : Obj} {t v c : Int} {x i : Option D} :
    Ex Ω Γ A (LW (some sc) x (some (.list (intsD ns))) (some bg) (some (.inst 292 (confF cf))) a l (confR σ.cv) (snapR σ.si σ.st σ.sv σ.sb) (hardR σ.ht σ.hv σ.hc) i (some (.int 3)) (some (.int yv)) (some (.int σ.base)) (some (.list (tupsD (full σ k0 b0)))) (some (.int σ.last)) (some (.int at')) (some (.int tv)) (some (.bytes [u].toArray)) (some (.raw (.ref s))) (some (.raw (.ref e))) (some .none) none none none none) (LT a dx σ l story it o s ds t v c e []) (execs (lawTurn.drop 12) Γ.env) (PostT sc ns bg a dx l n it o) (fun _ _ _ => False) := by
  have K := B.ok
  have hn := B.nms
  have amb := B.amb
  have O : Own Γ := ⟨B.own⟩
  have hW := B.W
  have ok := bd.ok
  have b1 := bd.base
  have b2 := bd.si
  have b3 := bd.len
  have hlast : σ.last = σ.base + σ.es.length := rfl
  have ii : InsD (LT a dx σ l story it o s ds t v c e []) (.raw (.ref a)) 439 σ.f := .mu (.head _)
  have hib : -1000000 ≤ at' ∧ at' ≤ 1000000 := by omega
  have hz : (storyD story).length ≤ 1000 := by rw [storyD_len]; have := bd.slen; omega
  refine Ex.seq (fun ρ π' => ∃ want story', ρ = LW (some sc) x (some (.list (intsD ns))) (some bg) (some (.inst 292 (confF cf))) a l (confR σ.cv) (snapR σ.si σ.st σ.sv σ.sb) (hardR σ.ht σ.hv σ.hc) i (some (.int 3)) (some (.int yv)) (some (.int σ.base)) (some (.list (tupsD (full σ k0 b0)))) (some (.int σ.last)) (some (.int at')) (some (.int tv)) (some (.bytes [u].toArray)) (some (.raw (.ref s))) (some (.raw (.ref e))) (some want) none none none none ∧ π' = LT a dx σ l story' it o s ds t v c e [] ∧
    ((at' ≤ σ.base ∧ want = .str "folded" ∧ story' = story) ∨ (σ.base < at' ∧ σ.last < at' ∧ want = .str "panic" ∧ story' = story) ∨ (σ.base < at' ∧ at' ≤ σ.last ∧ want = .none ∧ story' = story ++ [⟨2, at', []⟩]))) ?ifs ?rest
  case ifs =>
    refine Ex.ite (c := false) (TsP.cast (c := (decide ((3 : Int) < 3) || ((3 : Int) == 7))) (by fail "m_ts") (by decide)) (fun h => by cases h) (fun _ => Ex.cons ?_)
    refine Ex.ite (c := true) (TsP.cast (c := ((3 : Int) == 3)) (by fail "m_ts") (by decide)) (fun _ => ?_) (fun h => by cases h)
    refine Ex.cons (Ex.ite (c := decide (at' ≤ σ.base)) (by fail "m_ts") (fun h => ?_) (fun h => Ex.cons (Ex.ite (c := decide (σ.last < at')) (by fail "m_ts") (fun h' => ?_) (fun h' => ?_))))
    · exact Ex.cons (Ex.assignP K (by fail "m_ev") (.loc (by fail "m_put")) (Ex.nil (Ex.nil (Ex.nil ⟨_, story, rfl, rfl, .inl ⟨by simpa using h, rfl, rfl⟩⟩))))
    · exact Ex.cons (Ex.assignP K (by fail "m_ev") (.loc (by fail "m_put")) (Ex.nil (Ex.nil (Ex.nil (Ex.nil ⟨_, story, rfl, rfl, .inr (.inl ⟨by simpa using h, by simpa using h', rfl, rfl⟩)⟩)))))
    · refine Ex.cons (Ex.expr (Ev.append (πa := [(a, .inst 439 dx σ.f)]) (πb := [(it, .obj o), (s, .inst 257 ds (hardF t v c)), (e, .list [])]) (d := Item.d ⟨2, at', []⟩) (by fail "m_ev") (EvP.tup (ds := [.int 2, .int at', .list []]) (by fail "m_el")) hz) ?_ K.quiet)
      rintro _ _ ⟨rfl, rfl⟩
      rw [← storyD_app]
      exact Ex.nil (Ex.nil (Ex.nil (Ex.nil ⟨_, _, rfl, rfl, .inr (.inr ⟨by simpa using h, by simpa using h', rfl, rfl⟩)⟩)))
  case rest =>
    rintro _ _ ⟨want, story', rfl, rfl, hcase⟩
    refine Ex.cons (Ex.assignP K (by fail "m_ev") (.loc (by fail "m_put")) ?_)
    refine Ex.seq (fun ρ π' => ∃ σ', Go (n + 1) σ' story' ∧ ρ = LW (some sc) x (some (.list (intsD ns))) (some bg) (some (.inst 292 (confF cf))) a l (confR σ'.cv) (snapR σ'.si σ'.st σ'.sv σ'.sb) (hardR σ'.ht σ'.hv σ'.hc) i (some (.int 3)) (some (.int yv)) (some (.int σ.base)) (some (.list (tupsD (full σ k0 b0)))) (some (.int σ.last)) (some (.int at')) (some (.int tv)) (some (.bytes [u].toArray)) (some (.raw (.ref s))) (some (.raw (.ref e))) (some want) none none none (some want) ∧ π' = LT a dx σ' l story' it o s ds t v c e []) ?try1 ?rest2
    case try1 =>
      refine Ex.try (Ψb := fun c' ρ' π' => ((c' = 80 ∧ at' ≤ σ.base) ∨ (c' = 140 ∧ σ.base < at' ∧ σ.last < at')) ∧ ρ' = LW (some sc) x (some (.list (intsD ns))) (some bg) (some (.inst 292 (confF cf))) a l (confR σ.cv) (snapR σ.si σ.st σ.sv σ.sb) (hardR σ.ht σ.hv σ.hc) i (some (.int 3)) (some (.int yv)) (some (.int σ.base)) (some (.list (tupsD (full σ k0 b0)))) (some (.int σ.last)) (some (.int at')) (some (.int tv)) (some (.bytes [u].toArray)) (some (.raw (.ref s))) (some (.raw (.ref e))) (some want) none none none (some .none) ∧ π' = LT a dx σ l story' it o s ds t v c e []) O K ?body ?hand
      case body =>
        refine Ex.cons (Ex.ite (c := false) (TsP.cast (c := (decide ((3 : Int) < 3) || ((3 : Int) == 7))) (by fail "m_ts") (by decide)) (fun h => by cases h) (fun _ => Ex.cons ?_))
        refine Ex.ite (c := true) (TsP.cast (c := ((3 : Int) == 3)) (by fail "m_ts") (by decide)) (fun _ => ?_) (fun h => by cases h)
        have i2 : InsD (LT a dx σ l story' it o s ds t v c e []) (.raw (.ref a)) 439 σ.f := .mu (.head _)
        refine Ex.cons (Ex.expr ((Ev.meth (fn_compact H ok hib) K amb (by omega) (by fail "m_ev") i2 rfl (met_MemoryStorage_compact H) (by fail "m_el")).mono (fun _ _ h => h) ?ex) ?_ K.quiet)
        case ex =>
          rintro c' π' ⟨x1, rfl⟩
          exact ⟨x1, rfl, rfl⟩
        rintro _ _ ⟨rfl, x1, x2, rfl⟩
        rcases hcase with ⟨y1, rfl, rfl⟩ | ⟨y1, y2, rfl, rfl⟩ | ⟨y1, y2, rfl, rfl⟩
        · omega
        · omega
        · exact Ex.nil (Ex.nil (Ex.nil ⟨_, Go.fold I bd hn8 x1 x2 hat.2, rfl, rfl⟩))
      case hand =>
        rintro c' ρ' π' ⟨x1, rfl, rfl⟩
        rcases hcase with ⟨y1, rfl, rfl⟩ | ⟨y1, y2, rfl, rfl⟩ | ⟨y1, y2, rfl, rfl⟩
        · rcases x1 with ⟨rfl, x1⟩ | ⟨rfl, x1, x2⟩
          · exact hands H K hn (.inr (.inl ⟨rfl, rfl⟩)) ⟨_, ⟨k0, b0, I, bd.succ hn8⟩, rfl, rfl⟩
          · omega
        · rcases x1 with ⟨rfl, x1⟩ | ⟨rfl, x1, x2⟩
          · omega
          · exact hands H K hn (.inr (.inr (.inl ⟨rfl, rfl⟩))) ⟨_, ⟨k0, b0, I, bd.succ hn8⟩, rfl, rfl⟩
        · omega
    case rest2 =>
      rintro _ _ ⟨σ', go, rfl, rfl⟩
      have hw : DtD 3 want := by
        rcases hcase with ⟨y1, rfl, rfl⟩ | ⟨y1, y2, rfl, rfl⟩ | ⟨y1, y2, rfl, rfl⟩
        · exact .str _ _
        · exact .str _ _
        · exact .none _
      exact tail H B go hw (by simp)
end
end

section
open PySem PySem.Calls PySem.W PyProof.Rows PySem.Spec
section
variable {Ω : Wo} {Γ : Ctx} {A : Around}
set_option maxHeartbeats 4000000 in
theorem way4 (H : Here Ω) (B : Body Ω lawN [] 8 Γ A) {n : Nat} {σ : Stg} {story : List Item} {k0 : Int} {b0 : List UInt8} (I : Inv story σ k0 b0) (bd : Bd n σ story b0) (hn8 : n < 8) {sc bg : D} {ns cf : List Int} {yv at' tv : Int} (hcf : cf.length ≤ 2) (hat : σ.base - 1 ≤ at' ∧ at' ≤ σ.base + 5)
    (hyv : 0 ≤ yv) {u : UInt8} {a dx l s ds e it : Addr} {o : Obj} {t v c : Int} {x i : Option D} :
    Ex Ω Γ A (LW (some sc) x (some (.list (intsD ns))) (some bg) (some (.inst 292 (confF cf))) a l (confR σ.cv) (snapR σ.si σ.st σ.sv σ.sb) (hardR σ.ht σ.hv σ.hc) i (some (.int 4)) (some (.int yv)) (some (.int σ.base)) (some (.list (tupsD (full σ k0 b0)))) (some (.int σ.last)) (some (.int at')) (some (.int tv)) (some (.bytes [u].toArray)) (some (.raw (.ref s))) (some (.raw (.ref e))) (some .none) none none none none) (LT a dx σ l story it o s ds t v c e []) (execs (lawTurn.drop 12) Γ.env) (PostT sc ns bg a dx l n it o) (fun _ _ _ => False) := by
  have K := B.ok
  have hn := B.nms
  have amb := B.amb
  have O : Own Γ := ⟨B.own⟩
  have hW := B.W
  have ok := bd.ok
  have b1 := bd.base
  have b2 := bd.si
  have b3 := bd.len
  have hlast : σ.last = σ.base + σ.es.length := rfl
  have ii : InsD (LT a dx σ l story it o s ds t v c e []) (.raw (.ref a)) 439 σ.f := .mu (.head _)
  have hib : -1000000 ≤ at' ∧ at' ≤ 1000000 := by omega
  have hz : (storyD story).length ≤ 1000 := by rw [storyD_len]; have := bd.slen; omega
  refine Ex.seq (fun ρ π' => ∃ want mem snp cc, (∀ vs, cc = some vs → vs.length ≤ 2) ∧ ρ = LW (some sc) x (some (.list (intsD ns))) (some bg) (some (optConf cc)) a l mem snp (hardR σ.ht σ.hv σ.hc) i (some (.int 4)) (some (.int yv)) (some (.int σ.base)) (some (.list (tupsD (full σ k0 b0)))) (some (.int σ.last)) (some (.int at')) (some (.int tv)) (some (.bytes [u].toArray)) (some (.raw (.ref s))) (some (.raw (.ref e))) (some want) none none none none ∧ π' = LT a dx σ l story it o s ds t v c e [] ∧
    ((at' ≤ σ.si ∧ want = .str "old" ∧ mem = confR σ.cv ∧ snp = snapR σ.si σ.st σ.sv σ.sb) ∨ (σ.si < at' ∧ σ.last < at' ∧ want = .str "panic" ∧ mem = confR σ.cv ∧ snp = snapR σ.si σ.st σ.sv σ.sb) ∨ (σ.si < at' ∧ at' ≤ σ.last ∧ at' < σ.base ∧ want = .str "folded" ∧ mem = confR σ.cv ∧ snp = snapR σ.si σ.st σ.sv σ.sb) ∨
      (σ.si < at' ∧ at' ≤ σ.last ∧ σ.base ≤ at' ∧ want = snapR at' (σ.termAt at') (cc.getD σ.cv) [u] ∧ mem = confR (cc.getD σ.cv) ∧ snp = snapR at' (σ.termAt at') (cc.getD σ.cv) [u]))) ?ifs ?rest
  case ifs =>
    refine Ex.ite (c := false) (TsP.cast (c := (decide ((4 : Int) < 3) || ((4 : Int) == 7))) (by fail "m_ts") (by decide)) (fun h => by cases h) (fun _ => Ex.cons ?_)
    refine Ex.ite (c := false) (TsP.cast (c := ((4 : Int) == 3)) (by fail "m_ts") (by decide)) (fun h => by cases h) (fun _ => Ex.cons ?_)
    refine Ex.ite (c := true) (TsP.cast (c := ((4 : Int) == 4)) (by fail "m_ts") (by decide)) (fun _ => ?_) (fun h => by cases h)
    have q21 : Builtin.divisionGoesByPylong yv 21 = false := PyProof.noPylong_small (by decide)
    refine Ex.seq (fun ρ π' => ∃ cc, (∀ vs, cc = some vs → vs.length ≤ 2) ∧ ρ = LW (some sc) x (some (.list (intsD ns))) (some bg) (some (optConf cc)) a l (confR σ.cv) (snapR σ.si σ.st σ.sv σ.sb) (hardR σ.ht σ.hv σ.hc) i (some (.int 4)) (some (.int yv)) (some (.int σ.base)) (some (.list (tupsD (full σ k0 b0)))) (some (.int σ.last)) (some (.int at')) (some (.int tv)) (some (.bytes [u].toArray)) (some (.raw (.ref s))) (some (.raw (.ref e))) (some .none) none none none none ∧ π' = LT a dx σ l story it o s ds t v c e []) ?ifc ?more
    case ifc =>
      refine Ex.ite (c := (yv.fdiv 21).fmod 2 == 0) (by fail "m_ts") (fun h => ?_) (fun h => Ex.nil ⟨some cf, (fun vs h => by cases h; exact hcf), rfl, rfl⟩)
      exact Ex.cons (Ex.assignP (d := .none) K EvP.cnone (.loc (by fail "m_put")) (Ex.nil ⟨none, (fun vs h => by cases h), rfl, rfl⟩))
    case more =>
      rintro _ _ ⟨cc, hcc, rfl, rfl⟩
      refine Ex.cons (Ex.ite (c := decide (at' ≤ σ.si)) (by fail "m_ts") (fun h => ?_) (fun h => Ex.cons (Ex.ite (c := decide (σ.last < at')) (by fail "m_ts") (fun h' => ?_) (fun h' => Ex.cons (Ex.ite (c := decide (at' < σ.base)) (by fail "m_ts") (fun h2 => ?_) (fun h2 => ?_))))))
      · exact Ex.cons (Ex.assignP K (by fail "m_ev") (.loc (by fail "m_put")) (Ex.nil (Ex.nil (Ex.nil (Ex.nil (⟨_, _, _, cc, hcc, rfl, rfl, .inl ⟨by simpa using h, rfl, rfl, rfl⟩⟩))))))
      · exact Ex.cons (Ex.assignP K (by fail "m_ev") (.loc (by fail "m_put")) (Ex.nil (Ex.nil (Ex.nil (Ex.nil (Ex.nil (⟨_, _, _, cc, hcc, rfl, rfl, .inr (.inl ⟨by simpa using h, by simpa using h', rfl, rfl, rfl⟩)⟩)))))))
      · exact Ex.cons (Ex.assignP K (by fail "m_ev") (.loc (by fail "m_put")) (Ex.nil (Ex.nil (Ex.nil (Ex.nil (Ex.nil (Ex.nil (⟨_, _, _, cc, hcc, rfl, rfl, .inr (.inr (.inl ⟨by simpa using h, by simpa using h', by simpa using h2, rfl, rfl, rfl⟩))⟩))))))))
      · have h : σ.si < at' := by simpa using h
        have h' : at' ≤ σ.last := by simpa using h'
        have h2 : σ.base ≤ at' := by simpa using h2
        refine Ex.seq (fun ρ π' => ρ = LW (some sc) x (some (.list (intsD ns))) (some bg) (some (optConf cc)) a l (confR (cc.getD σ.cv)) (snapR σ.si σ.st σ.sv σ.sb) (hardR σ.ht σ.hv σ.hc) i (some (.int 4)) (some (.int yv)) (some (.int σ.base)) (some (.list (tupsD (full σ k0 b0)))) (some (.int σ.last)) (some (.int at')) (some (.int tv)) (some (.bytes [u].toArray)) (some (.raw (.ref s))) (some (.raw (.ref e))) (some .none) none none none none ∧ π' = LT a dx σ l story it o s ds t v c e []) ?ifm ?snp
        case ifm =>
          cases cc with
          | none =>
            refine Ex.ite (c := false) ?_ (fun h => by cases h) (fun _ => Ex.nil ⟨rfl, rfl⟩)
            exact TsP.cmp (a := .none) (by fail "m_name") EvP.cnone fun _ => CmpP.isNotN (c := false) none_none
          | some vs =>
            refine Ex.ite (c := true) ?_ (fun _ => ?_) (fun h => by cases h)
            · exact TsP.cmp (a := .inst 292 (confF vs)) (by fail "m_name") EvP.cnone fun _ => CmpP.isNotN (c := true) none_inst
            · have f1 : FnP Ω (.ref 282) [.inst 292 (confF vs)] (LT a dx σ l story it o s ds t v c e []) 1 (confR vs) := fn_Conf_row H (by have := hcc vs rfl; omega) (.fro _ _)
              exact Ex.cons (Ex.assignP (d := confR vs) K (EvP.meth0 f1 K amb (by omega) (d := .inst 292 (confF vs)) (by fail "m_name") (.fro _ _) rfl (met_ConfState_row H) ElP.nil) (.loc (by fail "m_put")) (Ex.nil ⟨rfl, rfl⟩))
        case snp =>
          rintro _ _ ⟨rfl, rfl⟩
          obtain ⟨r, hr, hrt⟩ := I.rowAt h2 h'
          have hg : (tupsD (full σ k0 b0))[(at' - σ.base).toNat]? = some (.tup [.int r.t, .int r.i, .int r.k, .bytes r.b.toArray]) := by rw [tupsD, List.getElem?_map, hr]; rfl
          have hi0 : 0 ≤ at' - σ.base := by omega
          have hi1 : at' - σ.base < 2 ^ 63 := by omega
          refine Ex.cons (Ex.assignP (d := snapR at' (σ.termAt at') (cc.getD σ.cv) [u]) K (EvP.cast (EvP.tup (ds := [.int at', .int r.t, confR (cc.getD σ.cv), .bytes [u].toArray]) (by fail "m_el")) (by rw [hrt]; rfl)) (.loc (by fail "m_put")) ?_)
          refine Ex.cons (Ex.assignP (d := snapR at' (σ.termAt at') (cc.getD σ.cv) [u]) K (by fail "m_name") (.loc (by fail "m_put")) ?_)
          exact Ex.nil (Ex.nil (Ex.nil (Ex.nil (Ex.nil (Ex.nil (⟨_, _, _, cc, hcc, rfl, rfl, .inr (.inr (.inr ⟨h, h', h2, rfl, rfl, rfl⟩))⟩))))))
  case rest =>
    rintro _ _ ⟨want, mem, snp, cc, hcc, rfl, rfl, hcase⟩
    refine Ex.cons (Ex.assignP K (by fail "m_ev") (.loc (by fail "m_put")) ?_)
    refine Ex.seq (fun ρ π' => ∃ σ', Go (n + 1) σ' story ∧ ρ = LW (some sc) x (some (.list (intsD ns))) (some bg) (some (optConf cc)) a l (confR σ'.cv) (snapR σ'.si σ'.st σ'.sv σ'.sb) (hardR σ'.ht σ'.hv σ'.hc) i (some (.int 4)) (some (.int yv)) (some (.int σ.base)) (some (.list (tupsD (full σ k0 b0)))) (some (.int σ.last)) (some (.int at')) (some (.int tv)) (some (.bytes [u].toArray)) (some (.raw (.ref s))) (some (.raw (.ref e))) (some want) none none none (some want) ∧ π' = LT a dx σ' l story it o s ds t v c e []) ?try1 ?rest2
    case try1 =>
      refine Ex.try (Ψb := fun c' ρ' π' => ((c' = 104 ∧ at' ≤ σ.si) ∨ (c' = 140 ∧ σ.si < at' ∧ σ.last < at') ∨ (c' = 80 ∧ σ.si < at' ∧ at' ≤ σ.last ∧ at' < σ.base)) ∧ ρ' = LW (some sc) x (some (.list (intsD ns))) (some bg) (some (optConf cc)) a l mem snp (hardR σ.ht σ.hv σ.hc) i (some (.int 4)) (some (.int yv)) (some (.int σ.base)) (some (.list (tupsD (full σ k0 b0)))) (some (.int σ.last)) (some (.int at')) (some (.int tv)) (some (.bytes [u].toArray)) (some (.raw (.ref s))) (some (.raw (.ref e))) (some want) none none none (some .none) ∧ π' = LT a dx σ l story it o s ds t v c e []) O K ?body ?hand
      case body =>
        refine Ex.cons (Ex.ite (c := false) (TsP.cast (c := (decide ((4 : Int) < 3) || ((4 : Int) == 7))) (by fail "m_ts") (by decide)) (fun h => by cases h) (fun _ => Ex.cons ?_))
        refine Ex.ite (c := false) (TsP.cast (c := ((4 : Int) == 3)) (by fail "m_ts") (by decide)) (fun h => by cases h) (fun _ => Ex.cons ?_)
        refine Ex.ite (c := true) (TsP.cast (c := ((4 : Int) == 4)) (by fail "m_ts") (by decide)) (fun _ => ?_) (fun h => by cases h)
        have hcl : (cc.getD σ.cv).length ≤ 2 := by
          cases cc with
          | none => exact bd.cv
          | some vs => exact hcc vs rfl
        refine Ex.cons (Ex.assign (Φv := fun d π' => σ.si < at' ∧ σ.base ≤ at' ∧ at' ≤ σ.last ∧ d = snapR at' (σ.termAt at') (cc.getD σ.cv) [u] ∧ π' = LT a dx (σ.newer at' cc [u]) l story it o s ds t v c e []) K (Ev.rowOf (Φo := fun d π' => σ.si < at' ∧ σ.base ≤ at' ∧ at' ≤ σ.last ∧ d = .inst 334 (snapF at' (σ.termAt at') (cc.getD σ.cv) [u]) ∧ π' = LT a dx (σ.newer at' cc [u]) l story it o s ds t v c e []) K amb (n := 2) (by omega) ((Ev.meth (fn_create H (c := cc) (b := [u]) ok hib) K amb (by omega) (by fail "m_ev") ii rfl (met_MemoryStorage_create_snapshot H) (by fail "m_el")).mono (fun _ _ h => h) ?ex) ?hk) (.loc (by fail "m_put")) ?next)
        case ex =>
          rintro c' π' ⟨x1, rfl⟩
          exact ⟨x1, rfl, rfl⟩
        case hk =>
          rintro d π' ⟨x1, x2, x3, rfl, rfl⟩
          exact ⟨334, _, 317, _, .fro _ _, rfl, met_Snapshot_row H, fn_Snap_row H (by omega) (.fro _ _), x1, x2, x3, rfl, rfl⟩
        case next =>
          rintro d π' ⟨x1, x2, x3, rfl, rfl⟩
          rcases hcase with ⟨y1, rfl, rfl, rfl⟩ | ⟨y1, y2, rfl, rfl, rfl⟩ | ⟨y1, y2, y3, rfl, rfl, rfl⟩ | ⟨y1, y2, y3, rfl, rfl, rfl⟩
          · omega
          · omega
          · omega
          · exact Ex.nil (Ex.nil (Ex.nil (Ex.nil (⟨_, Go.newer I bd hn8 x2 hat.2 hcc, rfl, rfl⟩))))
      case hand =>
        rintro c' ρ' π' ⟨x1, rfl, rfl⟩
        rcases hcase with ⟨y1, rfl, rfl, rfl⟩ | ⟨y1, y2, rfl, rfl, rfl⟩ | ⟨y1, y2, y3, rfl, rfl, rfl⟩ | ⟨y1, y2, y3, rfl, rfl, rfl⟩
        · rcases x1 with ⟨rfl, x1⟩ | ⟨rfl, x1, x2⟩ | ⟨rfl, x1, x2, x3⟩
          · exact hands H K hn (.inr (.inr (.inr ⟨rfl, rfl⟩))) ⟨_, ⟨k0, b0, I, bd.succ hn8⟩, rfl, rfl⟩
          · omega
          · omega
        · rcases x1 with ⟨rfl, x1⟩ | ⟨rfl, x1, x2⟩ | ⟨rfl, x1, x2, x3⟩
          · omega
          · exact hands H K hn (.inr (.inr (.inl ⟨rfl, rfl⟩))) ⟨_, ⟨k0, b0, I, bd.succ hn8⟩, rfl, rfl⟩
          · omega
        · rcases x1 with ⟨rfl, x1⟩ | ⟨rfl, x1, x2⟩ | ⟨rfl, x1, x2, x3⟩
          · omega
          · omega
          · exact hands H K hn (.inr (.inl ⟨rfl, rfl⟩)) ⟨_, ⟨k0, b0, I, bd.succ hn8⟩, rfl, rfl⟩
        · rcases x1 with ⟨rfl, x1⟩ | ⟨rfl, x1, x2⟩ | ⟨rfl, x1, x2, x3⟩ <;> omega
    case rest2 =>
      rintro _ _ ⟨σ', go, rfl, rfl⟩
      have hw : DtD 3 want := by
        rcases hcase with ⟨y1, rfl, rfl, rfl⟩ | ⟨y1, y2, rfl, rfl, rfl⟩ | ⟨y1, y2, y3, rfl, rfl, rfl⟩ | ⟨y1, y2, y3, rfl, rfl, rfl⟩
        · exact .str _ _
        · exact .str _ _
        · exact .str _ _
        · exact dt_snap 0 _ _ _ _
      exact tail H B go hw (by simp)
end
end

section
open PySem PySem.Calls PySem.W PyProof.Rows PySem.Spec
section
variable {Ω : Wo} {Γ : Ctx} {A : Around}
set_option maxHeartbeats 4000000 in
theorem way5 (H : Here Ω) (B : Body Ω lawN [] 8 Γ A) {n : Nat} {σ : Stg} {story : List Item} {k0 : Int} {b0 : List UInt8} (I : Inv story σ k0 b0) (bd : Bd n σ story b0) (hn8 : n < 8) {sc bg : D} {ns cf : List Int} {yv at' tv : Int} (hcf : cf.length ≤ 2) (hat : σ.base - 1 ≤ at' ∧ at' ≤ σ.base + 5)
    (hyv : 0 ≤ yv) {u : UInt8} {a dx l s ds e it : Addr} {o : Obj} {t v c : Int} {x i : Option D} :
    Ex Ω Γ A (LW (some sc) x (some (.list (intsD ns))) (some bg) (some (.inst 292 (confF cf))) a l (confR σ.cv) (snapR σ.si σ.st σ.sv σ.sb) (hardR σ.ht σ.hv σ.hc) i (some (.int 5)) (some (.int yv)) (some (.int σ.base)) (some (.list (tupsD (full σ k0 b0)))) (some (.int σ.last)) (some (.int at')) (some (.int tv)) (some (.bytes [u].toArray)) (some (.raw (.ref s))) (some (.raw (.ref e))) (some .none) none none none none) (LT a dx σ l story it o s ds t v c e []) (execs (lawTurn.drop 12) Γ.env) (PostT sc ns bg a dx l n it o) (fun _ _ _ => False) := by
  have K := B.ok
  have hn := B.nms
  have amb := B.amb
  have O : Own Γ := ⟨B.own⟩
  have hW := B.W
  have ok := bd.ok
  have b1 := bd.base
  have b2 := bd.si
  have b3 := bd.len
  have hlast : σ.last = σ.base + σ.es.length := rfl
  have ii : InsD (LT a dx σ l story it o s ds t v c e []) (.raw (.ref a)) 439 σ.f := .mu (.head _)
  have hib : -1000000 ≤ at' ∧ at' ≤ 1000000 := by omega
  have hz : (storyD story).length ≤ 1000 := by rw [storyD_len]; have := bd.slen; omega
  refine Ex.seq (fun ρ π' => ∃ want story' mem snp, ρ = LW (some sc) x (some (.list (intsD ns))) (some bg) (some (.inst 292 (confF cf))) a l mem snp (hardR σ.ht σ.hv σ.hc) i (some (.int 5)) (some (.int yv)) (some (.int σ.base)) (some (.list (tupsD (full σ k0 b0)))) (some (.int σ.last)) (some (.int at')) (some (.int tv)) (some (.bytes [u].toArray)) (some (.raw (.ref s))) (some (.raw (.ref e))) (some want) none none none none ∧ π' = LT a dx σ l story' it o s ds t v c e [] ∧
    (((at' ≤ σ.si ∨ at' < σ.base) ∧ want = .str "old" ∧ story' = story ∧ mem = confR σ.cv ∧ snp = snapR σ.si σ.st σ.sv σ.sb) ∨ (σ.si < at' ∧ σ.base ≤ at' ∧ want = .none ∧ story' = story ++ [⟨0, at', [⟨tv, at', 0, []⟩]⟩] ∧ mem = confR cf ∧ snp = snapR at' tv cf [u]))) ?ifs ?rest
  case ifs =>
    refine Ex.ite (c := false) (TsP.cast (c := (decide ((5 : Int) < 3) || ((5 : Int) == 7))) (by fail "m_ts") (by decide)) (fun h => by cases h) (fun _ => Ex.cons ?_)
    refine Ex.ite (c := false) (TsP.cast (c := ((5 : Int) == 3)) (by fail "m_ts") (by decide)) (fun h => by cases h) (fun _ => Ex.cons ?_)
    refine Ex.ite (c := false) (TsP.cast (c := ((5 : Int) == 4)) (by fail "m_ts") (by decide)) (fun h => by cases h) (fun _ => Ex.cons ?_)
    refine Ex.ite (c := true) (TsP.cast (c := ((5 : Int) == 5)) (by fail "m_ts") (by decide)) (fun _ => ?_) (fun h => by cases h)
    refine Ex.cons (Ex.ite (c := decide (at' ≤ σ.si) || decide (at' < σ.base)) (by fail "m_ts") (fun h => ?_) (fun h => ?_))
    · exact Ex.cons (Ex.assignP K (by fail "m_ev") (.loc (by fail "m_put")) (Ex.nil (Ex.nil (Ex.nil (Ex.nil (Ex.nil (⟨_, story, _, _, rfl, rfl, .inl ⟨by simpa using h, rfl, rfl, rfl, rfl⟩⟩)))))))
    · refine Ex.cons (Ex.expr (Ev.append (πa := [(a, .inst 439 dx σ.f)]) (πb := [(it, .obj o), (s, .inst 257 ds (hardF t v c)), (e, .list [])]) (d := Item.d ⟨0, at', [⟨tv, at', 0, []⟩]⟩) (by fail "m_ev") (EvP.tup (ds := [.int 0, .int at', .list [.tup [.int tv, .int at', .int 0, .bytes ([] : List UInt8).toArray]]]) (by fail "m_el")) hz) ?_ K.quiet)
      rintro _ _ ⟨rfl, rfl⟩
      rw [← storyD_app]
      have fc : ∀ π', FnP Ω (.ref 282) [.inst 292 (confF cf)] π' 1 (confR cf) := fun π' => fn_Conf_row H (by omega) (.fro _ _)
      have f1 := fc (((a, .inst 439 dx σ.f) :: (l, .list (storyD (story ++ [⟨0, at', [⟨tv, at', 0, []⟩]⟩]))) :: [(it, .obj o), (s, .inst 257 ds (hardF t v c)), (e, .list [])]))
      refine Ex.cons (Ex.assignP (d := confR cf) K (by fail "m_ev") (.loc (by fail "m_put")) ?_)
      refine Ex.cons (Ex.assignP (d := snapR at' tv cf [u]) K (EvP.tup (ds := [.int at', .int tv, confR cf, .bytes [u].toArray]) (by fail "m_el")) (.loc (by fail "m_put")) ?_)
      simp only [Bool.or_eq_false_iff, decide_eq_false_iff_not] at h
      exact Ex.nil (Ex.nil (Ex.nil (Ex.nil (Ex.nil (⟨_, _, _, _, rfl, rfl, .inr ⟨by omega, by omega, rfl, rfl, rfl, rfl⟩⟩)))))
  case rest =>
    rintro _ _ ⟨want, story', mem, snp, rfl, rfl, hcase⟩
    refine Ex.cons (Ex.assignP K (by fail "m_ev") (.loc (by fail "m_put")) ?_)
    refine Ex.seq (fun ρ π' => ∃ σ', Go (n + 1) σ' story' ∧ ρ = LW (some sc) x (some (.list (intsD ns))) (some bg) (some (.inst 292 (confF cf))) a l (confR σ'.cv) (snapR σ'.si σ'.st σ'.sv σ'.sb) (hardR σ'.ht σ'.hv σ'.hc) i (some (.int 5)) (some (.int yv)) (some (.int σ.base)) (some (.list (tupsD (full σ k0 b0)))) (some (.int σ.last)) (some (.int at')) (some (.int tv)) (some (.bytes [u].toArray)) (some (.raw (.ref s))) (some (.raw (.ref e))) (some want) none none none (some want) ∧ π' = LT a dx σ' l story' it o s ds t v c e []) ?try1 ?rest2
    case try1 =>
      refine Ex.try (Ψb := fun c' ρ' π' => c' = 104 ∧ (at' ≤ σ.si ∨ at' < σ.base) ∧ ρ' = LW (some sc) x (some (.list (intsD ns))) (some bg) (some (.inst 292 (confF cf))) a l mem snp (hardR σ.ht σ.hv σ.hc) i (some (.int 5)) (some (.int yv)) (some (.int σ.base)) (some (.list (tupsD (full σ k0 b0)))) (some (.int σ.last)) (some (.int at')) (some (.int tv)) (some (.bytes [u].toArray)) (some (.raw (.ref s))) (some (.raw (.ref e))) (some want) none none none (some .none) ∧ π' = LT a dx σ l story' it o s ds t v c e []) O K ?body ?hand
      case body =>
        refine Ex.cons (Ex.ite (c := false) (TsP.cast (c := (decide ((5 : Int) < 3) || ((5 : Int) == 7))) (by fail "m_ts") (by decide)) (fun h => by cases h) (fun _ => Ex.cons ?_))
        refine Ex.ite (c := false) (TsP.cast (c := ((5 : Int) == 3)) (by fail "m_ts") (by decide)) (fun h => by cases h) (fun _ => Ex.cons ?_)
        refine Ex.ite (c := false) (TsP.cast (c := ((5 : Int) == 4)) (by fail "m_ts") (by decide)) (fun h => by cases h) (fun _ => Ex.cons ?_)
        refine Ex.ite (c := true) (TsP.cast (c := ((5 : Int) == 5)) (by fail "m_ts") (by decide)) (fun _ => ?_) (fun h => by cases h)
        have i2 : InsD (LT a dx σ l story' it o s ds t v c e []) (.raw (.ref a)) 439 σ.f := .mu (.head _)
        have fs := fn_Snap H at' tv cf [u]
        refine Ex.cons (Ex.expr ((Ev.meth (fn_apply H (vs := cf) (b := [u]) (t := tv) ok hib) K amb (by omega) (by fail "m_ev") i2 rfl (met_MemoryStorage_apply_snapshot H) (by fail "m_el")).mono (fun _ _ h => h) ?ex) ?_ K.quiet)
        case ex =>
          rintro c' π' ⟨rfl, x1, rfl⟩
          exact ⟨rfl, x1, rfl, rfl⟩
        rintro _ _ ⟨rfl, x1, x2, rfl⟩
        rcases hcase with ⟨y1, rfl, rfl, rfl, rfl⟩ | ⟨y1, y2, rfl, rfl, rfl, rfl⟩
        · omega
        · exact Ex.nil (Ex.nil (Ex.nil (Ex.nil (Ex.nil (⟨_, Go.apply bd hn8 x2 hat.2 hcf, rfl, rfl⟩)))))
      case hand =>
        rintro c' ρ' π' ⟨rfl, x1, rfl, rfl⟩
        rcases hcase with ⟨y1, rfl, rfl, rfl, rfl⟩ | ⟨y1, y2, rfl, rfl, rfl, rfl⟩
        · exact hands H K hn (.inr (.inr (.inr ⟨rfl, rfl⟩))) ⟨_, ⟨k0, b0, I, bd.succ hn8⟩, rfl, rfl⟩
        · omega
    case rest2 =>
      rintro _ _ ⟨σ', go, rfl, rfl⟩
      have hw : DtD 3 want := by
        rcases hcase with ⟨y1, rfl, rfl, rfl, rfl⟩ | ⟨y1, y2, rfl, rfl, rfl, rfl⟩
        · exact .str _ _
        · exact .none _
      exact tail H B go hw (by simp)
end
end

section
open PySem PySem.Calls PySem.W PyProof.Rows PySem.Spec
section
variable {Ω : Wo} {Γ : Ctx} {A : Around}
set_option maxHeartbeats 4000000 in
theorem way6 (H : Here Ω) (B : Body Ω lawN [] 8 Γ A) {n : Nat} {σ : Stg} {story : List Item} {k0 : Int} {b0 : List UInt8} (I : Inv story σ k0 b0) (bd : Bd n σ story b0) (hn8 : n < 8) {sc bg : D} {ns cf : List Int} {yv at' tv : Int} (hcf : cf.length ≤ 2) (hat : σ.base - 1 ≤ at' ∧ at' ≤ σ.base + 5)
    (hyv : 0 ≤ yv) {u : UInt8} {a dx l s ds e it : Addr} {o : Obj} {t v c : Int} {x i : Option D} :
    Ex Ω Γ A (LW (some sc) x (some (.list (intsD ns))) (some bg) (some (.inst 292 (confF cf))) a l (confR σ.cv) (snapR σ.si σ.st σ.sv σ.sb) (hardR σ.ht σ.hv σ.hc) i (some (.int 6)) (some (.int yv)) (some (.int σ.base)) (some (.list (tupsD (full σ k0 b0)))) (some (.int σ.last)) (some (.int at')) (some (.int tv)) (some (.bytes [u].toArray)) (some (.raw (.ref s))) (some (.raw (.ref e))) (some .none) none none none none) (LT a dx σ l story it o s ds t v c e []) (execs (lawTurn.drop 12) Γ.env) (PostT sc ns bg a dx l n it o) (fun _ _ _ => False) := by
  have K := B.ok
  have hn := B.nms
  have amb := B.amb
  have O : Own Γ := ⟨B.own⟩
  have hW := B.W
  have ok := bd.ok
  have b1 := bd.base
  have b2 := bd.si
  have b3 := bd.len
  have hlast : σ.last = σ.base + σ.es.length := rfl
  have ii : InsD (LT a dx σ l story it o s ds t v c e []) (.raw (.ref a)) 439 σ.f := .mu (.head _)
  have hib : -1000000 ≤ at' ∧ at' ≤ 1000000 := by omega
  have hz : (storyD story).length ≤ 1000 := by rw [storyD_len]; have := bd.slen; omega
  have i3 : InsD (LT a dx σ l story it o s ds t v c e []) (.raw (.ref s)) 257 (hardF t v c) := .mu (.tail _ (.tail _ (.tail _ (.head _))))
  refine Ex.seq (fun ρ π' => ρ = LW (some sc) x (some (.list (intsD ns))) (some bg) (some (.inst 292 (confF cf))) a l (confR σ.cv) (snapR σ.si σ.st σ.sv σ.sb) (hardR t v c) i (some (.int 6)) (some (.int yv)) (some (.int σ.base)) (some (.list (tupsD (full σ k0 b0)))) (some (.int σ.last)) (some (.int at')) (some (.int tv)) (some (.bytes [u].toArray)) (some (.raw (.ref s))) (some (.raw (.ref e))) (some .none) none none none none ∧ π' = LT a dx σ l story it o s ds t v c e []) ?ifs ?rest
  case ifs =>
    refine Ex.ite (c := false) (TsP.cast (c := (decide ((6 : Int) < 3) || ((6 : Int) == 7))) (by fail "m_ts") (by decide)) (fun h => by cases h) (fun _ => Ex.cons ?_)
    refine Ex.ite (c := false) (TsP.cast (c := ((6 : Int) == 3)) (by fail "m_ts") (by decide)) (fun h => by cases h) (fun _ => Ex.cons ?_)
    refine Ex.ite (c := false) (TsP.cast (c := ((6 : Int) == 4)) (by fail "m_ts") (by decide)) (fun h => by cases h) (fun _ => Ex.cons ?_)
    refine Ex.ite (c := false) (TsP.cast (c := ((6 : Int) == 5)) (by fail "m_ts") (by decide)) (fun h => by cases h) (fun _ => ?_)
    have fh := fn_Hard_row H i3
    exact Ex.cons (Ex.assignP K (by fail "m_ev") (.loc (by fail "m_put")) (Ex.nil (Ex.nil (Ex.nil (Ex.nil (⟨rfl, rfl⟩))))))
  case rest =>
    rintro _ _ ⟨rfl, rfl⟩
    refine Ex.cons (Ex.assignP K (by fail "m_ev") (.loc (by fail "m_put")) ?_)
    refine Ex.seq (fun ρ π' => ∃ σ', Go (n + 1) σ' story ∧ ρ = LW (some sc) x (some (.list (intsD ns))) (some bg) (some (.inst 292 (confF cf))) a l (confR σ'.cv) (snapR σ'.si σ'.st σ'.sv σ'.sb) (hardR σ'.ht σ'.hv σ'.hc) i (some (.int 6)) (some (.int yv)) (some (.int σ.base)) (some (.list (tupsD (full σ k0 b0)))) (some (.int σ.last)) (some (.int at')) (some (.int tv)) (some (.bytes [u].toArray)) (some (.raw (.ref s))) (some (.raw (.ref e))) (some .none) none none none (some .none) ∧ π' = LT a dx σ' l story it o s ds t v c e []) ?try1 ?rest2
    case try1 =>
      refine Ex.try (Ψb := fun c' ρ' π' => False) O K ?body ?hand
      case body =>
        refine Ex.cons (Ex.ite (c := false) (TsP.cast (c := (decide ((6 : Int) < 3) || ((6 : Int) == 7))) (by fail "m_ts") (by decide)) (fun h => by cases h) (fun _ => Ex.cons ?_))
        refine Ex.ite (c := false) (TsP.cast (c := ((6 : Int) == 3)) (by fail "m_ts") (by decide)) (fun h => by cases h) (fun _ => Ex.cons ?_)
        refine Ex.ite (c := false) (TsP.cast (c := ((6 : Int) == 4)) (by fail "m_ts") (by decide)) (fun h => by cases h) (fun _ => Ex.cons ?_)
        refine Ex.ite (c := false) (TsP.cast (c := ((6 : Int) == 5)) (by fail "m_ts") (by decide)) (fun h => by cases h) (fun _ => ?_)
        refine Ex.cons (Ex.expr ((Ev.meth (fn_set_hard H i3) K amb (by omega) (by fail "m_ev") ii rfl (met_MemoryStorage_set_hard H) (by fail "m_el")).mono (fun _ _ h => h) fun _ _ h => h) ?_ K.quiet)
        rintro _ _ ⟨rfl, rfl⟩
        exact Ex.nil (Ex.nil (Ex.nil (Ex.nil (Ex.nil (⟨_, Go.hard I bd hn8 t v c, rfl, rfl⟩)))))
      case hand =>
        intro c' ρ' π' h
        exact h.elim
    case rest2 =>
      rintro _ _ ⟨σ', go, rfl, rfl⟩
      exact tail H B go (.none _) (by simp)
end
end

section
open PySem PySem.Calls PySem.W PyProof.Rows PySem.Spec
theorem rowsL_len (f : Nat → Row) (n k : Nat) : (rowsL f n k).length = n := by simp [rowsL]
theorem rowsL_get {f : Nat → Row} {n : Nat} {i : Nat} {r : Row} (h : (rowsL f n 0)[i]? = some r) : i < n ∧ r = f i := by
  have hi : i < n := by
    have := (List.getElem?_eq_some_iff.mp h).1
    rwa [rowsL_len] at this
  unfold rowsL at h
  rw [List.getElem?_map, List.getElem?_range hi] at h
  have this : f (0 + i) = r := Option.some.inj h
  rw [Nat.zero_add] at this
  exact ⟨hi, this.symm⟩
/-- an entry as the law makes it -/
noncomputable def mkR (tv sv : Int) (u : UInt8) (k : Nat) : Row := ⟨tv, sv + k, ((k : Int).fmod 2) * 2, (List.replicate ((k : Int).fmod 3).toNat [u]).flatten⟩
structure REnt (tv sv : Int) (f : Nat → Row) : Prop where
  t : ∀ k, (f k).t = tv
  k : ∀ k, 0 ≤ (f k).k ∧ (f k).k ≤ 2
  b : ∀ k, (f k).b.length ≤ 2
  i : ∀ k, sv + k ≤ (f k).i ∧ (f k).i ≤ sv + k + 1
  z : (f 0).i = sv
theorem mkR_ok (tv sv : Int) (u : UInt8) : REnt tv sv (mkR tv sv u) := by
  refine ⟨fun k => rfl, fun k => ?_, fun k => ?_, fun k => ?_, ?_⟩
  · have := fmod_in (a := (k : Int)) (show (0 : Int) < 2 by decide)
    show 0 ≤ ((k : Int).fmod 2) * 2 ∧ ((k : Int).fmod 2) * 2 ≤ 2
    omega
  · have := fmod_in (a := (k : Int)) (show (0 : Int) < 3 by decide)
    show (List.replicate ((k : Int).fmod 3).toNat [u]).flatten.length ≤ 2
    simp
    omega
  · show sv + k ≤ sv + k ∧ sv + k ≤ sv + k + 1
    omega
  · show sv + ((0 : Nat) : Int) = sv
    simp
noncomputable def bump (f : Nat → Row) (m : Nat) (k : Nat) : Row := if k = m then { f m with i := (f m).i + 1 } else f k
theorem bump_ok {tv sv : Int} {f : Nat → Row} {m : Nat} (h : REnt tv sv f) (hf : ∀ k, (f k).i = sv + k) (hm : 1 ≤ m) : REnt tv sv (bump f m) := by
  refine ⟨fun k => ?_, fun k => ?_, fun k => ?_, fun k => ?_, ?_⟩
  · unfold bump; split
    · exact h.t m
    · exact h.t k
  · unfold bump; split
    · exact h.k m
    · exact h.k k
  · unfold bump; split
    · exact h.b m
    · exact h.b k
  · unfold bump; split
    · rename_i e
      subst e
      have := hf k
      show sv + k ≤ (f k).i + 1 ∧ (f k).i + 1 ≤ sv + k + 1
      omega
    · exact h.i k
  · unfold bump
    rw [if_neg (by omega)]
    exact h.z
theorem entL_bump (f : Nat → Row) (es : List (Addr × Addr)) {m : Nat} {p : Addr × Addr} (h : es[m]? = some p) : entL (bump f m) es 0 = entL f (es.take m) 0 ++ (p.1, .inst 201 p.2 (put "index" (.int ((f (0 + m)).i + 1)) (f (0 + m)).f)) :: entL f (es.drop (m + 1)) (0 + m + 1) := by
  have hm := (List.getElem?_eq_some_iff.mp h).1
  rw [entL_split (bump f m) es h 0]
  have e1 : entL (bump f m) (es.take m) 0 = entL f (es.take m) 0 := entL_congr fun i _ hi => by
    rw [List.length_take] at hi
    unfold bump
    rw [if_neg (by omega)]
  have e2 : entL (bump f m) (es.drop (m + 1)) (0 + m + 1) = entL f (es.drop (m + 1)) (0 + m + 1) := entL_congr fun i hi _ => by
    unfold bump
    rw [if_neg (by omega)]
  have e3 : (bump f m (0 + m)).f = put "index" (.int ((f (0 + m)).i + 1)) (f (0 + m)).f := by
    rw [Nat.zero_add]
    unfold bump
    rw [if_pos rfl]
    rfl
  rw [e1, e2, e3]
noncomputable def badK (sv : Int) (rs : List Row) (k : Int) : Bool := match rs[k.toNat]? with
  | some r => r.i != sv + k
  | none => false
noncomputable def bads (sv : Int) (rs : List Row) (n : Nat) : List D := (rangeD 0 1 n).filterMap fun d => if badK sv rs (unint d) then some d else none
theorem bads_nil {sv : Int} {rs : List Row} : bads sv rs rs.length = [] ↔ cont sv rs := by
  unfold bads
  rw [List.filterMap_eq_nil_iff]
  constructor
  · intro h k r hk
    have hi : k < rs.length := (List.getElem?_eq_some_iff.mp hk).1
    have := h (.int (0 + 1 * (k : Int))) (by
      unfold rangeD
      exact List.mem_map.mpr ⟨k, List.mem_range.mpr hi, rfl⟩)
    have e : (0 : Int) + 1 * (k : Int) = k := by omega
    rw [e] at this
    by_cases q : badK sv rs k = true
    · have h2 : (if badK sv rs (unint (.int (k : Int))) = true then some (D.int (k : Int)) else none) = none := this
      rw [show unint (.int (k : Int)) = (k : Int) from rfl, if_pos q] at h2
      cases h2
    · unfold badK at q
      rw [Int.toNat_natCast, hk] at q
      simpa using q
  · intro h d hd
    unfold rangeD at hd
    obtain ⟨k, hk, rfl⟩ := List.mem_map.mp hd
    have hk := List.mem_range.mp hk
    have e : (0 : Int) + 1 * (k : Int) = k := by omega
    rw [e]
    have hr := List.getElem?_eq_getElem hk
    have := h k _ hr
    have q : badK sv rs k = false := by
      unfold badK
      rw [Int.toNat_natCast, hr]
      simpa using this
    show (if badK sv rs (unint (.int (k : Int))) = true then some (D.int (k : Int)) else none) = none
    rw [show unint (.int (k : Int)) = (k : Int) from rfl, q]; rfl
section
variable {Ω : Wo} {Γ : Ctx} {A : Around}
set_option maxHeartbeats 4000000 in
theorem wayA (H : Here Ω) (B : Body Ω lawN [] 8 Γ A) {n : Nat} {σ : Stg} {story : List Item} {k0 : Int} {b0 : List UInt8} (I : Inv story σ k0 b0) (bd : Bd n σ story b0) (hn8 : n < 8) {sc bg : D} {ns cf : List Int} {yv at' tv : Int} (hcf : cf.length ≤ 2) (hat : σ.base - 1 ≤ at' ∧ at' ≤ σ.base + 5)
    (hyv : 0 ≤ yv) {way : Int} (hway : (decide (way < 3) || (way == 7)) = true) (htv : 0 ≤ tv ∧ tv ≤ 20000) {u : UInt8} {a dx l s ds e it : Addr} {o : Obj} {t v c : Int} {x i : Option D} :
    Ex Ω Γ A (LW (some sc) x (some (.list (intsD ns))) (some bg) (some (.inst 292 (confF cf))) a l (confR σ.cv) (snapR σ.si σ.st σ.sv σ.sb) (hardR σ.ht σ.hv σ.hc) i (some (.int way)) (some (.int yv)) (some (.int σ.base)) (some (.list (tupsD (full σ k0 b0)))) (some (.int σ.last)) (some (.int at')) (some (.int tv)) (some (.bytes [u].toArray)) (some (.raw (.ref s))) (some (.raw (.ref e))) (some .none) none none none none) (LT a dx σ l story it o s ds t v c e []) (execs (lawTurn.drop 12) Γ.env) (PostT sc ns bg a dx l n it o) (fun _ _ _ => False) := by
  have K := B.ok
  have hn := B.nms
  have amb := B.amb
  have O : Own Γ := ⟨B.own⟩
  have hW := B.W
  have ok := bd.ok
  have b1 := bd.base
  have b2 := bd.si
  have b3 := bd.len
  have hlast : σ.last = σ.base + σ.es.length := rfl
  have ii : InsD (LT a dx σ l story it o s ds t v c e []) (.raw (.ref a)) 439 σ.f := .mu (.head _)
  have hib : -1000000 ≤ at' ∧ at' ≤ 1000000 := by omega
  have hz : (storyD story).length ≤ 1000 := by rw [storyD_len]; have := bd.slen; omega
  have q6 : Builtin.divisionGoesByPylong yv 6 = false := PyProof.noPylong_small (by decide)
  have q96 : Builtin.divisionGoesByPylong yv 96 = false := PyProof.noPylong_small (by decide)
  have q480 : Builtin.divisionGoesByPylong yv 480 = false := PyProof.noPylong_small (by decide)
  refine Ex.seq (fun ρ π' => ∃ want story' e2 sv rs, ρ = LW (some sc) x (some (.list (intsD ns))) (some bg) (some (.inst 292 (confF cf))) a l (confR σ.cv) (snapR σ.si σ.st σ.sv σ.sb) (hardR σ.ht σ.hv σ.hc) i (some (.int way)) (some (.int yv)) (some (.int σ.base)) (some (.list (tupsD (full σ k0 b0)))) (some (.int σ.last)) (some (.int at')) (some (.int tv)) (some (.bytes [u].toArray)) (some (.raw (.ref s))) (some (.raw (.ref e2))) (some want) (some (.int sv)) (some (.int (rs.length : Int))) (some (.list (tupsD rs))) none ∧ π' = LT a dx σ l story' it o s ds t v c e2 (entsD rs) ∧ (σ.last - 3 ≤ sv ∧ sv ≤ σ.last + 2 ∧ rs.length ≤ 3 ∧ (∀ r, rs[0]? = some r → r.i = sv) ∧ (∀ r ∈ rs, r.t = tv ∧ (0 ≤ r.k ∧ r.k ≤ 2) ∧ r.b.length ≤ 2 ∧ sv ≤ r.i ∧ r.i ≤ sv + 4)) ∧
    ((¬ cont sv rs ∧ want = .str "gap" ∧ story' = story) ∨ (cont sv rs ∧ 0 < rs.length ∧ σ.last + 1 < sv ∧ want = .str "gap" ∧ story' = story) ∨ (cont sv rs ∧ 0 < rs.length ∧ sv ≤ σ.last + 1 ∧ σ.base < sv + rs.length - 1 ∧ want = .none ∧ story' = story ++ [⟨1, if sv < σ.base + 1 then σ.base + 1 else sv, rs.filter (fun r => decide (σ.base < r.i))⟩]) ∨ (cont sv rs ∧ (rs.length = 0 ∨ (sv ≤ σ.last + 1 ∧ sv + rs.length - 1 ≤ σ.base)) ∧ want = .none ∧ story' = story))) ?ifs ?rest
  case ifs =>
    refine Ex.ite (c := true) (TsP.cast (c := (decide (way < 3) || (way == 7))) (by fail "m_ts") hway) (fun _ => ?_) (fun h => by cases h)
    have f6 := fmod_in (a := yv) (show (0 : Int) < 6 by decide)
    have f4 := fmod_in (a := yv.fdiv 6) (show (0 : Int) < 4 by decide)
    refine Ex.cons (Ex.assignP (d := .int (σ.last + 2 - yv.fmod 6)) K (by fail "m_ev") (.cel B.cells (by fail "m_put") (B.cell "start" rfl)) ?_)
    refine Ex.cons (Ex.assignP (d := .int ((yv.fdiv 6).fmod 4)) K (by fail "m_ev") (.loc (by fail "m_put")) ?_)
    refine Ex.seq (fun ρ π' => ∃ (sv : Int) (cv : Nat), (σ.last - 3 ≤ sv ∧ sv ≤ σ.last + 2 ∧ cv ≤ 3) ∧ ρ = LW (some sc) x (some (.list (intsD ns))) (some bg) (some (.inst 292 (confF cf))) a l (confR σ.cv) (snapR σ.si σ.st σ.sv σ.sb) (hardR σ.ht σ.hv σ.hc) i (some (.int way)) (some (.int yv)) (some (.int σ.base)) (some (.list (tupsD (full σ k0 b0)))) (some (.int σ.last)) (some (.int at')) (some (.int tv)) (some (.bytes [u].toArray)) (some (.raw (.ref s))) (some (.raw (.ref e))) (some .none) (some (.int sv)) (some (.int (cv : Int))) none none ∧ π' = LT a dx σ l story it o s ds t v c e []) ?if7 ?more
    case if7 =>
      refine Ex.ite (c := way == 7) (by fail "m_ts") (fun _ => ?_) (fun _ => Ex.nil ⟨σ.last + 2 - yv.fmod 6, ((yv.fdiv 6).fmod 4).toNat, by omega, ?_, rfl⟩)
      · refine Ex.cons (Ex.assignP (d := .int (σ.last + 1)) K (by fail "m_ev") (.cel B.cells (by fail "m_put") (B.cell "start" rfl)) ?_)
        refine Ex.cons (Ex.assignP (d := .int ((3 : Nat) : Int)) K (by fail "m_ev") (.loc (by fail "m_put")) (Ex.nil ⟨σ.last + 1, 3, by omega, rfl, rfl⟩))
      · rw [Int.toNat_of_nonneg f4.1]
    case more =>
      rintro _ _ ⟨sv, cv, hsc, rfl, rfl⟩
      refine Ex.drop (πa := [(a, .inst 439 dx σ.f), (l, .list (storyD story)), (it, .obj o), (s, .inst 257 ds (hardF t v c))]) (πb := []) ?_
      refine Ex.cons (Ex.assignCompM (ds := rangeD 0 1 ((cv : Int)).toNat) (fun i acc π' => ∃ es : List (Addr × Addr), es.length = i ∧ acc = rawL es ∧ π'.Perm (entL (mkR tv sv u) es 0 ++ [(a, .inst 439 dx σ.f), (l, .list (storyD story)), (it, .obj o), (s, .inst 257 ds (hardF t v c))])) K (by fail "m_scope") (SrcP.range1 amb.handled (by fail "m_glob") (by fail "m_ev") (by omega) (by omega)) (by rw [rangeD_len]; omega) (fun v G G' i acc π' it o D h g _ => rng_on h g) ?turn ⟨[], rfl, rfl, .refl _⟩ (.loc (by fail "m_put")) ?hk (swapsOn K (by fail "m_lk") rfl))
      case turn =>
        rintro Γc Kc hnc hfc k x acc π' it' o' D hd ⟨es, hes, rfl, hp⟩
        obtain ⟨hk, rfl⟩ := rangeD_get hd
        have e0 : (0 : Int) + 1 * (k : Int) = k := by omega
        rw [e0]
        have ambc : Amb A Γc.fs 8 := amb_of hfc amb
        refine ⟨true, TsL.nil, fun _ => ?_, fun h => by cases h⟩
        have g2 := fmod_in (a := (k : Int)) (show (0 : Int) < 2 by decide)
        have g3 := fmod_in (a := (k : Int)) (show (0 : Int) < 3 by decide)
        refine (Ev.newM (fn_Entry H (mkR tv sv u k)) Kc ambc (by omega) (by fail "m_own") (k_Entry H) (ElP.cons (by fail "m_ev") (ElP.cons (by fail "m_ev") (ElP.cons (EvP.mul (by fail "m_ev") (by fail "m_ev") (IntMulOk.of_right (by decide))) (ElP.cons (EvP.mulB (b := [u]) (by fail "m_ev") (by fail "m_ev") (by simp) (by simp) (by omega) (by omega)) ElP.nil))))).mono (fun d π'' hd => ?_) fun _ _ h => h
        obtain ⟨x, dx', rfl, rfl⟩ := hd
        refine ⟨(x, .inst 201 dx' (mkR tv sv u k).f) :: π', (List.perm_middle (l₁ := [(it', MO.obj o'), (D, MO.list (rawL es))])).symm, es ++ [(x, dx')], by rw [List.length_append, hes]; rfl, by rw [rawL, rawL, List.map_append]; rfl, ?_⟩
        rw [entL_append, Nat.zero_add, hes, List.append_assoc]
        exact (List.Perm.cons _ hp).trans List.perm_middle.symm
      case hk =>
        rintro e2 acc π' ⟨es, hes, rfl, hp⟩
        rw [rangeD_len, Int.toNat_natCast] at hes
        refine Ex.perm (List.Perm.cons _ hp) ?_
        refine Ex.seq (fun ρ π' => ∃ R', REnt tv sv R' ∧ ρ = LW (some sc) x (some (.list (intsD ns))) (some bg) (some (.inst 292 (confF cf))) a l (confR σ.cv) (snapR σ.si σ.st σ.sv σ.sb) (hardR σ.ht σ.hv σ.hc) i (some (.int way)) (some (.int yv)) (some (.int σ.base)) (some (.list (tupsD (full σ k0 b0)))) (some (.int σ.last)) (some (.int at')) (some (.int tv)) (some (.bytes [u].toArray)) (some (.raw (.ref s))) (some (.raw (.ref e2))) (some .none) (some (.int sv)) (some (.int (cv : Int))) none none ∧ π' = (e2, .list (rawL es)) :: (entL R' es 0 ++ [(a, .inst 439 dx σ.f), (l, .list (storyD story)), (it, .obj o), (s, .inst 257 ds (hardF t v c))])) ?bmp ?more2
        case bmp =>
          refine Ex.ite (c := decide ((1 : Int) < (cv : Int)) && ((yv.fdiv 96).fmod 5 == 4)) (by fail "m_ts") (fun h => ?_) (fun h => Ex.nil ⟨mkR tv sv u, mkR_ok tv sv u, rfl, rfl⟩)
          simp only [Bool.and_eq_true, decide_eq_true_eq] at h
          have hm := fmod_in (a := yv.fdiv 480) (show (0 : Int) < (cv : Int) - 1 by omega)
          obtain ⟨m, hme⟩ : ∃ m : Nat, 1 + (yv.fdiv 480).fmod ((cv : Int) - 1) = (m : Int) := ⟨(1 + (yv.fdiv 480).fmod ((cv : Int) - 1)).toNat, by omega⟩
          have hmc : m < es.length := by omega
          have hpm := List.getElem?_eq_getElem hmc
          generalize es[m] = pm at hpm
          have hraw : (rawL es)[((m : Int)).toNat]? = some (.raw (.ref pm.1)) := by rw [Int.toNat_natCast, rawL, List.getElem?_map, hpm]; rfl
          have hne : (cv : Int) - 1 ≠ 0 := by omega
          rw [entL_split (mkR tv sv u) es hpm 0, List.append_assoc]
          refine Ex.cons (Ex.augAttr (πa := (e2, .list (rawL es)) :: entL (mkR tv sv u) (es.take m) 0) (πb := entL (mkR tv sv u) (es.drop (m + 1)) (0 + m + 1) ++ [(a, .inst 439 dx σ.f), (l, .list (storyD story)), (it, .obj o), (s, .inst 257 ds (hardF t v c))]) K (EvP.idxL (d := .raw (.ref e2)) (ds := rawL es) (k := (m : Int)) (by fail "m_name") (.mu (.head _)) (EvP.cast (by fail "m_ev") (by rw [hme])) (by omega) hraw (by omega)) rfl (get_Entry_index H) (by fail "m_ev") (fun s t u Q E h => wpAny_iadd_int h) (set_Entry_index H) (Nat.le_of_ble_eq_true rfl) (Ex.nil ⟨bump (mkR tv sv u) m, bump_ok (mkR_ok tv sv u) (fun k => rfl) (by omega), rfl, ?_⟩))
          rw [entL_bump _ _ hpm, List.append_assoc]
          rfl
        case more2 =>
          rintro _ _ ⟨R', hR, rfl, rfl⟩
          refine Ex.freezeL hW ?_
          have hrl := rowsL_len R' es.length 0
          have hrg : ∀ (i : Nat) r, (rowsL R' es.length 0)[i]? = some r → i < es.length ∧ r = R' i := fun i r h => rowsL_get h
          have hr0 : ∀ r, (rowsL R' es.length 0)[0]? = some r → r.i = sv := fun r h => by rw [(hrg 0 r h).2]; exact hR.z
          have hra : ∀ r ∈ rowsL R' es.length 0, r.t = tv ∧ (0 ≤ r.k ∧ r.k ≤ 2) ∧ r.b.length ≤ 2 ∧ sv ≤ r.i ∧ r.i ≤ sv + 4 := fun r h => by
            obtain ⟨i, hi⟩ := List.getElem?_of_mem h
            obtain ⟨x1, rfl⟩ := hrg i r hi
            have := hR.i i
            exact ⟨hR.t i, hR.k i, hR.b i, by omega, by omega⟩
          generalize rowsL R' es.length 0 = rs at hrl hr0 hra
          have hcv : cv = rs.length := by omega
          clear hrg hR
          subst hcv
          refine Ex.perm (π' := LT a dx σ l story it o s ds t v c e2 (entsD rs)) (List.perm_middle (l₁ := ([(a, .inst 439 dx σ.f), (l, .list (storyD story)), (it, .obj o), (s, .inst 257 ds (hardF t v c))] : Led)) (l₂ := [])).symm ?_
          have le2 : LstD (LT a dx σ l story it o s ds t v c e2 (entsD rs)) (.raw (.ref e2)) (entsD rs) := .mu (.tail _ (.tail _ (.tail _ (.tail _ (.head _)))))
          have hze : (entsD rs).length ≤ 1000 := by rw [entsD_len]; omega
          have hzt : (tupsD rs).length ≤ 1000 := by rw [tupsD_len]; omega
          refine Ex.cons (Ex.assignP (d := .list (tupsD rs)) K (EvP.cast (EvP.comp (fun d => some (unent d).tup) K (by fail "m_scope") (SrcP.list (d := .raw (.ref e2)) amb.handled (by fail "m_ev") le2) hze lst_ok ?tturn) (by rw [ents_tups])) (.cel B.cells (by fail "m_put") (B.cell "told" rfl)) ?_ (swaps_off K (by fail "m_lk")))
          case tturn =>
            intro Γc Kc hnc hfc d it' o' D acc hd
            obtain ⟨r, hr, rfl⟩ := List.mem_map.mp hd
            have ambc : Amb A Γc.fs 8 := amb_of hfc amb
            refine ⟨true, TsL.nil, fun _ => ⟨_, rfl, ?_⟩, fun h => by cases h⟩
            rw [unent_ent]
            have fe := fn_Entry_row H (π := (it', .obj o') :: (D, .list acc) :: LT a dx σ l story it o s ds t v c e2 (entsD rs)) r (.fro 201 r.f)
            exact EvP.meth0 fe Kc ambc (by omega) (by fail "m_name") (.fro _ _) rfl (met_Entry_row H) ElP.nil
          have hzb : (bads sv rs rs.length).length < 2 ^ 63 := by
            have : (bads sv rs rs.length).length ≤ rs.length := by
              unfold bads
              refine Nat.le_trans (List.length_filterMap_le ..) ?_
              rw [rangeD_len]; exact Nat.le_refl _
            omega
          have eb : ∀ {n : Nat}, n = rs.length → (rangeD 0 1 n).filterMap (fun d => if badK sv rs (unint d) then some d else none) = bads sv rs rs.length := fun h => by subst h; rfl
          refine Ex.cons (Ex.ite (c := decide ((0 : Int) < (bads sv rs rs.length).length)) (TsP.cmp (EvP.lenL (d := .list (bads sv rs rs.length)) K (by fail "m_glob") (EvP.cast (EvP.comp (fun d => if badK sv rs (unint d) then some d else none) K (by fail "m_scope") (SrcP.range1 (b := (rs.length : Int)) amb.handled (by fail "m_glob") (by fail "m_ev") (by omega) (by omega)) (by rw [rangeD_len]; omega) rng_ok ?bturn) (by rw [eb (Int.toNat_natCast _)])) (.fro _) hzb) EvP.cint fun _ => CmpP.gt) (fun h => ?_) (fun h => Ex.cons (Ex.ite (c := decide ((0 : Int) < (rs.length : Int)) && decide (σ.last + 1 < sv)) (by fail "m_ts") (fun h' => ?_) (fun h' => Ex.cons (Ex.ite (c := decide ((0 : Int) < (rs.length : Int)) && decide (σ.base < sv + (rs.length : Int) - 1)) (by fail "m_ts") (fun h2 => ?_) (fun h2 => ?_))))))
          case bturn =>
            intro Γc Kc hnc hfc d it' o' D acc hd
            obtain ⟨k, hk⟩ := List.getElem?_of_mem hd
            obtain ⟨hk1, rfl⟩ := rangeD_get hk
            have e0 : (0 : Int) + 1 * (k : Int) = k := by omega
            rw [e0]
            have hk2 : k < rs.length := by rw [Int.toNat_natCast] at hk1; exact hk1
            have hr := List.getElem?_eq_getElem hk2
            generalize rs[k] = r at hr
            have hg : (tupsD rs)[((k : Int)).toNat]? = some r.tup := by rw [tupsD, List.getElem?_map, Int.toNat_natCast, hr]; rfl
            have hb : badK sv rs k = (r.i != sv + k) := by unfold badK; rw [Int.toNat_natCast, hr]
            refine ⟨r.i != sv + k, TsL.one (TsP.cmp (ev_tup_index (EvP.idxL (d := .list (tupsD rs)) (k := (k : Int)) (by fail "m_name") (.fro _) (by fail "m_name") (by omega) hg (by omega)) EvP.cint) (by fail "m_ev") fun _ => CmpP.ne), fun h => ⟨.int k, ?_, by fail "m_ev"⟩, fun h => ?_⟩
            · show (if badK sv rs k = true then some (Mine.D.int k) else none) = _
              rw [hb, if_pos h]
            · show (if badK sv rs k = true then some (Mine.D.int k) else none) = _
              rw [hb, h]; rfl
          · have hnc : ¬ cont sv rs := fun q => by
              rw [bads_nil.mpr q] at h
              simp at h
            exact Ex.cons (Ex.assignP K (by fail "m_ev") (.loc (by fail "m_put")) (Ex.nil (Ex.nil ⟨_, story, e2, sv, rs, rfl, rfl, ⟨hsc.1, hsc.2.1, hsc.2.2, hr0, hra⟩, .inl ⟨hnc, rfl, rfl⟩⟩)))
          · have hcc : cont sv rs := bads_nil.mp (by
              have : (bads sv rs rs.length).length = 0 := by simp at h; simp [h]
              exact List.eq_nil_of_length_eq_zero this)
            simp only [Bool.and_eq_true, decide_eq_true_eq] at h'
            exact Ex.cons (Ex.assignP K (by fail "m_ev") (.loc (by fail "m_put")) (Ex.nil (Ex.nil (Ex.nil ⟨_, story, e2, sv, rs, rfl, rfl, ⟨hsc.1, hsc.2.1, hsc.2.2, hr0, hra⟩, .inr (.inl ⟨hcc, by omega, h'.2, rfl, rfl⟩)⟩))))
          · have hcc : cont sv rs := bads_nil.mp (by
              have : (bads sv rs rs.length).length = 0 := by simp at h; simp [h]
              exact List.eq_nil_of_length_eq_zero this)
            simp only [Bool.and_eq_true, decide_eq_true_eq] at h2
            have h3 : sv ≤ σ.last + 1 := by
              rw [decide_eq_true h2.1, Bool.true_and, decide_eq_false_iff_not] at h'
              omega
            refine Ex.cons (Ex.expr (Ev.append (πa := [(a, .inst 439 dx σ.f)]) (πb := [(it, .obj o), (s, .inst 257 ds (hardF t v c)), (e2, .list (entsD rs))]) (d := Item.d ⟨1, if sv < σ.base + 1 then σ.base + 1 else sv, rs.filter (fun r => decide (σ.base < r.i))⟩) (by fail "m_ev") (EvP.tup (ds := [.int 1, .int (if σ.base + 1 > sv then σ.base + 1 else sv), .list (tupsD (rs.filter (fun r => decide (σ.base < r.i))))]) (ElP.cons (by fail "m_ev") (ElP.cons (EvP.max2 K amb.handled (by fail "m_glob") (by fail "m_el")) (ElP.cons (EvP.cast (EvP.comp (fun d => if decide (σ.base < (unrow d).i) then some d else none) K (by fail "m_scope") (SrcP.list amb.handled (by fail "m_ev") (.fro _)) hzt lst_ok ?fturn) (by rw [filter_tups (fun r => decide (σ.base < r.i))])) ElP.nil)))) hz) ?_ K.quiet)
            case fturn =>
              intro Γc Kc hnc hfc d' it' o' D' acc hd'
              obtain ⟨r, hr', rfl⟩ := List.mem_map.mp hd'
              refine ⟨decide (σ.base < r.i), TsL.one ?_, fun h => ⟨r.tup, filt_t (p := fun r => decide (σ.base < r.i)) h, by fail "m_ev"⟩, fun h => filt_f (p := fun r => decide (σ.base < r.i)) h⟩
              exact TsP.cmp (ev_tup_index (by fail "m_name") EvP.cint) (by fail "m_name") fun _ => CmpP.gt
            rintro _ _ ⟨rfl, rfl⟩
            rw [← storyD_app]
            exact Ex.nil (Ex.nil (Ex.nil (Ex.nil ⟨_, _, e2, sv, rs, rfl, rfl, ⟨hsc.1, hsc.2.1, hsc.2.2, hr0, hra⟩, .inr (.inr (.inl ⟨hcc, by omega, h3, h2.2, rfl, rfl⟩))⟩)))
          · have hcc : cont sv rs := bads_nil.mp (by
              have : (bads sv rs rs.length).length = 0 := by simp at h; simp [h]
              exact List.eq_nil_of_length_eq_zero this)
            have h4 : rs.length = 0 ∨ (sv ≤ σ.last + 1 ∧ sv + rs.length - 1 ≤ σ.base) := by
              by_cases q : rs.length = 0
              · exact .inl q
              · have q1 : (0 : Int) < (rs.length : Int) := by omega
                simp only [decide_eq_true q1, Bool.true_and, decide_eq_false_iff_not] at h' h2
                exact .inr ⟨by omega, by omega⟩
            exact Ex.nil (Ex.nil (Ex.nil (Ex.nil ⟨_, story, e2, sv, rs, rfl, rfl, ⟨hsc.1, hsc.2.1, hsc.2.2, hr0, hra⟩, .inr (.inr (.inr ⟨hcc, h4, rfl, rfl⟩))⟩)))
  case rest =>
    rintro _ _ ⟨want, story', e2, sv, rs, rfl, rfl, ⟨hs1, hs2, hl3, hz0, hrs⟩, hcase⟩
    refine Ex.cons (Ex.assignP K (by fail "m_ev") (.loc (by fail "m_put")) ?_)
    refine Ex.seq (fun ρ π' => ∃ σ', Go (n + 1) σ' story' ∧ ρ = LW (some sc) x (some (.list (intsD ns))) (some bg) (some (.inst 292 (confF cf))) a l (confR σ'.cv) (snapR σ'.si σ'.st σ'.sv σ'.sb) (hardR σ'.ht σ'.hv σ'.hc) i (some (.int way)) (some (.int yv)) (some (.int σ.base)) (some (.list (tupsD (full σ k0 b0)))) (some (.int σ.last)) (some (.int at')) (some (.int tv)) (some (.bytes [u].toArray)) (some (.raw (.ref s))) (some (.raw (.ref e2))) (some want) (some (.int sv)) (some (.int (rs.length : Int))) (some (.list (tupsD rs))) (some want) ∧ π' = LT a dx σ' l story' it o s ds t v c e2 (entsD rs)) ?try1 ?rest2
    case try1 =>
      refine Ex.try (Ψb := fun c' ρ' π' => c' = 128 ∧ rs ≠ [] ∧ (¬ cont sv rs ∨ σ.last + 1 < sv) ∧ ρ' = LW (some sc) x (some (.list (intsD ns))) (some bg) (some (.inst 292 (confF cf))) a l (confR σ.cv) (snapR σ.si σ.st σ.sv σ.sb) (hardR σ.ht σ.hv σ.hc) i (some (.int way)) (some (.int yv)) (some (.int σ.base)) (some (.list (tupsD (full σ k0 b0)))) (some (.int σ.last)) (some (.int at')) (some (.int tv)) (some (.bytes [u].toArray)) (some (.raw (.ref s))) (some (.raw (.ref e2))) (some want) (some (.int sv)) (some (.int (rs.length : Int))) (some (.list (tupsD rs))) (some .none) ∧ π' = LT a dx σ l story' it o s ds t v c e2 (entsD rs)) O K ?body ?hand
      case body =>
        refine Ex.cons (Ex.ite (c := true) (TsP.cast (c := (decide (way < 3) || (way == 7))) (by fail "m_ts") hway) (fun _ => ?_) (fun h => by cases h))
        have i2 : InsD (LT a dx σ l story' it o s ds t v c e2 (entsD rs)) (.raw (.ref a)) 439 σ.f := .mu (.head _)
        have hbi : ∀ r ∈ rs, -1000000 ≤ r.i ∧ r.i ≤ 1000000 := fun r hr => by have := hrs r hr; omega
        refine Ex.cons (Ex.expr ((Ev.meth (fn_append H (rs := rs) (s := sv) (d := .raw (.ref e2)) ok (by omega) hbi hz0 (fun π' => .mu (.tail _ (.tail _ (.tail _ (.tail _ (.head _))))))) K amb (by omega) (by fail "m_ev") i2 rfl (met_MemoryStorage_append H) (by fail "m_el")).mono (fun _ _ h => h) ?ex) ?_ K.quiet)
        case ex =>
          rintro c' π' ⟨rfl, x1, x2, rfl⟩
          exact ⟨rfl, x1, x2, rfl, rfl⟩
        have hnil : rs = [] → rs.length = 0 := fun q => by rw [q]; rfl
        rintro _ _ ⟨rfl, ⟨rfl, x⟩ | ⟨x1, x2, x3, x4, rfl⟩⟩
        · rcases hcase with ⟨y1, rfl, rfl⟩ | ⟨y1, y2, y3, rfl, rfl⟩ | ⟨y1, y2, y3, y4, rfl, rfl⟩ | ⟨y1, y2, rfl, rfl⟩
          · rcases x with x | x
            · exact absurd (fun k r hk => by rw [x] at hk; simp at hk) y1
            · exact absurd x.1 y1
          · rcases x with x | x
            · have := hnil x; omega
            · omega
          · rcases x with x | x
            · have := hnil x; omega
            · omega
          · exact Ex.nil (Ex.nil ⟨_, ⟨k0, b0, I, bd.succ hn8⟩, rfl, rfl⟩)
        · have hpos : 0 < rs.length := by
            rcases Nat.eq_zero_or_pos rs.length with q | q
            · exact absurd (List.eq_nil_of_length_eq_zero q) x1
            · exact q
          rcases hcase with ⟨y1, rfl, rfl⟩ | ⟨y1, y2, y3, rfl, rfl⟩ | ⟨y1, y2, y3, y4, rfl, rfl⟩ | ⟨y1, y2, rfl, rfl⟩
          · exact absurd x2 y1
          · omega
          · refine Ex.nil (Ex.nil ⟨_, Go.app I bd hn8 x2 x3 x4 hl3 (fun r hr => ?_), rfl, rfl⟩)
            obtain ⟨z1, z2, z3, z4, z5⟩ := hrs r hr
            exact ⟨by omega, by omega, z3, by omega⟩
          · omega
      case hand =>
        rintro c' ρ' π' ⟨rfl, x1, x2, rfl, rfl⟩
        have hpos : 0 < rs.length := by
          rcases Nat.eq_zero_or_pos rs.length with q | q
          · exact absurd (List.eq_nil_of_length_eq_zero q) x1
          · exact q
        rcases hcase with ⟨y1, rfl, rfl⟩ | ⟨y1, y2, y3, rfl, rfl⟩ | ⟨y1, y2, y3, y4, rfl, rfl⟩ | ⟨y1, y2, rfl, rfl⟩
        · exact hands H K hn (.inl ⟨rfl, rfl⟩) ⟨_, ⟨k0, b0, I, bd.succ hn8⟩, rfl, rfl⟩
        · exact hands H K hn (.inl ⟨rfl, rfl⟩) ⟨_, ⟨k0, b0, I, bd.succ hn8⟩, rfl, rfl⟩
        · rcases x2 with x2 | x2
          · exact absurd y1 x2
          · omega
        · rcases x2 with x2 | x2
          · exact absurd y1 x2
          · omega
    case rest2 =>
      rintro _ _ ⟨σ', go, rfl, rfl⟩
      have hw : DtD 3 want := by
        rcases hcase with ⟨y1, rfl, rfl⟩ | ⟨y1, y2, y3, rfl, rfl⟩ | ⟨y1, y2, y3, y4, rfl, rfl⟩ | ⟨y1, y2, rfl, rfl⟩
        · exact .str _ _
        · exact .str _ _
        · exact .none _
        · exact .none _
      exact tail H B go hw (by rw [entsD_len]; omega)
end
end

section
open PySem PySem.Calls PySem.W PyProof.Rows PySem.Spec
section
variable {Ω : Wo} {Γ : Ctx} {A : Around}
set_option maxHeartbeats 4000000 in
theorem turn (H : Here Ω) (B : Body Ω lawN [] 8 Γ A) {n : Nat} {σ : Stg} {story : List Item} (go : Go n σ story) (hn8 : n < 8) {sc bg : D} {ns : List Int} (hl : 0 < ns.length) (hl9 : ns.length ≤ 9) (hnn : ∀ v ∈ ns, 0 ≤ v) {a dx l it : Addr} {o : Obj} :
    Ex Ω Γ A (LW (some sc) none (some (.list (intsD ns))) (some bg) none a l (confR σ.cv) (snapR σ.si σ.st σ.sv σ.sb) (hardR σ.ht σ.hv σ.hc) (some (.int (1 + 1 * (n : Int)))) none none none none none none none none none none none none none none none) ((it, .obj o) :: LD a dx σ l story) (execs lawTurn Γ.env) (PostT sc ns bg a dx l n it o) (fun _ _ _ => False) := by
  have K := B.ok
  have hn := B.nms
  have amb := B.amb
  have O : Own Γ := ⟨B.own⟩
  have hW := B.W
  obtain ⟨k0, b0, I, bd⟩ := id go
  have ok := bd.ok
  have b1 := bd.base
  have b3 := bd.len
  have hlast : σ.last = σ.base + σ.es.length := rfl
  refine Ex.perm (π' := [(a, .inst 439 dx σ.f), (l, .list (storyD story)), (it, .obj o)]) (List.perm_middle (l₁ := LD a dx σ l story) (l₂ := [])).symm ?_
  -- the draw
  have hfm := fmod_in (a := 1 + 1 * (n : Int)) (show (0 : Int) < (ns.length : Int) by omega)
  have hix : ((1 + 1 * (n : Int)).fmod ns.length).toNat < ns.length := by omega
  have hv := List.getElem?_eq_getElem hix
  generalize ns[((1 + 1 * (n : Int)).fmod ns.length).toNat] = v at hv
  have hv0 := hnn v (List.mem_of_getElem? hv)
  have fd := fn_draw H (ns := ns) (i := 1 + 1 * (n : Int)) (v := v) hl (by omega) (by omega) (by omega) hv
  have hq : 0 ≤ (1 + 1 * (n : Int)).fdiv ns.length := Int.fdiv_nonneg (by omega) (by omega)
  obtain ⟨xv, hxv⟩ : ∃ xv, v + 7919 * (1 + 1 * (n : Int)).fdiv ns.length = xv := ⟨_, rfl⟩
  rw [hxv] at fd
  have hx0 : 0 ≤ xv := by omega
  refine Ex.cons (Ex.assignP (d := .int xv) K (by fail "m_ev") (.loc (by fail "m_put")) ?_)
  have hwm := fmod_in (a := xv) (show (0 : Int) < 8 by decide)
  obtain ⟨way, hway⟩ : ∃ way, xv.fmod 8 = way := ⟨_, rfl⟩
  rw [hway] at hwm
  obtain ⟨yv, hyv⟩ : ∃ yv, xv.fdiv 8 = yv := ⟨_, rfl⟩
  have hy0 : 0 ≤ yv := by rw [← hyv]; exact Int.fdiv_nonneg hx0 (by decide)
  have q8 : Builtin.divisionGoesByPylong xv 8 = false := PyProof.noPylong_small (by decide)
  have q24 : Builtin.divisionGoesByPylong yv 24 = false := PyProof.noPylong_small (by decide)
  have q7 : Builtin.divisionGoesByPylong yv 7 = false := PyProof.noPylong_small (by decide)
  refine Ex.cons (Ex.assignP (d := .int way) K (EvP.cast (by fail "m_ev") (by rw [hway])) (.loc (by fail "m_put")) ?_)
  refine Ex.cons (Ex.assignP (d := .int yv) K (EvP.cast (by fail "m_ev") (by rw [hyv])) (.loc (by fail "m_put")) ?_)
  -- what stands
  have fS := fn_standing H (π := [(a, .inst 439 dx σ.f), (l, .list (storyD story)), (it, .obj o)]) (d := .raw (.ref l)) (story := story) (b := σ.base) (rs := stR story.reverse none) (fun π' h => .mu (h _ (.tail _ (.head _)))) (by have := bd.slen; omega) (fun x hx => by have := bd.told x hx; omega) I.st1 I.st2
  rw [I.all] at fS
  have hzf : (tupsD (full σ k0 b0)).length = σ.es.length + 1 := by rw [tupsD_len, full_len]
  have hz1 : (tupsD (full σ k0 b0)).length < 2 ^ 63 := by omega
  refine Ex.cons (Ex.unpack2 (f₁ := fun e1 => LW (some sc) (some (.int xv)) (some (.list (intsD ns))) (some bg) none a l (confR σ.cv) (snapR σ.si σ.st σ.sv σ.sb) (hardR σ.ht σ.hv σ.hc) (some (.int (1 + 1 * (n : Int)))) (some (.int way)) (some (.int yv)) (some e1) none none none none none none none none none none none none)
    (f₂ := fun e1 e2 => LW (some sc) (some (.int xv)) (some (.list (intsD ns))) (some bg) none a l (confR σ.cv) (snapR σ.si σ.st σ.sv σ.sb) (hardR σ.ht σ.hv σ.hc) (some (.int (1 + 1 * (n : Int)))) (some (.int way)) (some (.int yv)) (some e1) (some e2) none none none none none none none none none none none)
    K amb.handled (EvP.toEv (Φ := fun d' π' => d' = .tup [.int σ.base, .list (tupsD (full σ k0 b0))] ∧ π' = [(a, .inst 439 dx σ.f), (l, .list (storyD story)), (it, .obj o)]) (EvP.callF fS K amb (by omega) (by fail "m_own") (k_law_standing H) (by fail "m_el")) ⟨rfl, rfl⟩) ?go1)
  rintro _ _ ⟨rfl, rfl⟩
  refine ⟨_, _, rfl, .cel B.cells (by fail "m_put") (B.cell "base" rfl), .loc (by fail "m_put"), ?_⟩
  refine Ex.cons (Ex.assignP (d := .int σ.last) K (EvP.cast (by fail "m_ev") (by rw [hzf, hlast]; congr 1; omega)) (.loc (by fail "m_put")) ?_)
  have h7 := fmod_in (a := yv) (show (0 : Int) < 7 by decide)
  obtain ⟨at', hat'⟩ : ∃ at', σ.base - 1 + yv.fmod 7 = at' := ⟨_, rfl⟩
  refine Ex.cons (Ex.assignP (d := .int at') K (EvP.cast (by fail "m_ev") (by rw [hat'])) (.loc (by fail "m_put")) ?_)
  -- the term
  have ft := fn_terms H
  have h4 := fmod_in (a := yv.fdiv 24) (show (0 : Int) < 4 by decide)
  obtain ⟨tv, htv, htv2⟩ : ∃ tv, [D.int 1, D.int 2, D.int 128, D.int 20000][((yv.fdiv 24).fmod 4).toNat]? = some (.int tv) ∧ 0 ≤ tv ∧ tv ≤ 20000 := by
    have : ((yv.fdiv 24).fmod 4).toNat = 0 ∨ ((yv.fdiv 24).fmod 4).toNat = 1 ∨ ((yv.fdiv 24).fmod 4).toNat = 2 ∨ ((yv.fdiv 24).fmod 4).toNat = 3 := by omega
    rcases this with e | e | e | e <;> rw [e]
    · exact ⟨1, rfl, by decide⟩
    · exact ⟨2, rfl, by decide⟩
    · exact ⟨128, rfl, by decide⟩
    · exact ⟨20000, rfl, by decide⟩
  have h4a : 0 ≤ (yv.fdiv 24).fmod 4 := h4.1
  have h4b : (yv.fdiv 24).fmod 4 < 2 ^ 63 := by omega
  refine Ex.cons (Ex.assignP (d := .int tv) K (by fail "m_ev") (.cel B.cells (by fail "m_put") (B.cell "term" rfl)) ?_)
  -- the data
  have h251 := fmod_in (a := yv) (show (0 : Int) < 251 by decide)
  refine Ex.cons (Ex.assignP (d := .bytes [(yv.fmod 251).toNat.toUInt8].toArray) K (EvP.bytesL (ns := [yv.fmod 251]) (d := .list [.int (yv.fmod 251)]) amb.handled (by fail "m_glob") (by fail "m_ev") (.fro _) (fun m hm => by rw [List.mem_singleton.mp hm]; omega) (by simp)) (.cel B.cells (by fail "m_put") (B.cell "data" rfl)) ?_)
  generalize (yv.fmod 251).toNat.toUInt8 = u
  -- members and hard state
  have h3 := fmod_in (a := yv.fdiv 7) (show (0 : Int) < 3 by decide)
  have fc : NewI Ω 292 [.list [.int 1, .int (2 + (yv.fdiv 7).fmod 3)], .list [], .list [], .list [], .bool false] 3 (confF [1, 2 + (yv.fdiv 7).fmod 3]) := fn_Conf H (vs := [1, 2 + (yv.fdiv 7).fmod 3]) (by simp; omega) (by simp)
  refine Ex.cons (Ex.assignP (d := .inst 292 (confF [1, 2 + (yv.fdiv 7).fmod 3])) K (EvP.new fc K amb (by omega) (by fail "m_own") (k_ConfState H) (by fail "m_el") (by rw [hW]; exact fun a ha => nomatch ha)) (.loc (by fail "m_put")) ?_)
  have hcf : [1, 2 + (yv.fdiv 7).fmod 3].length ≤ 2 := by simp
  generalize [1, 2 + (yv.fdiv 7).fmod 3] = cf at hcf
  refine Ex.cons (Ex.assign K (Ev.newM (fn_Hard H (yv.fmod 5) (yv.fmod 3) (yv.fmod 7)) K amb (by omega) (by fail "m_own") (k_HardState H) (by fail "m_el")) (.loc (by fail "m_put")) ?_)
  rintro _ _ ⟨s, ds, rfl, rfl⟩
  refine Ex.perm (π' := [(a, .inst 439 dx σ.f), (l, .list (storyD story)), (it, .obj o), (s, .inst 257 ds (hardF (yv.fmod 5) (yv.fmod 3) (yv.fmod 7)))]) (List.perm_middle (l₁ := ([(a, .inst 439 dx σ.f), (l, .list (storyD story)), (it, .obj o)] : Led)) (l₂ := [])).symm ?_
  refine Ex.cons (Ex.assign K (Ev.listM (by fail "m_el")) (.loc (by fail "m_put")) ?_)
  rintro _ _ ⟨e, rfl, rfl⟩
  refine Ex.perm (π' := LT a dx σ l story it o s ds (yv.fmod 5) (yv.fmod 3) (yv.fmod 7) e []) (List.perm_middle (l₁ := ([(a, .inst 439 dx σ.f), (l, .list (storyD story)), (it, .obj o), (s, .inst 257 ds (hardF (yv.fmod 5) (yv.fmod 3) (yv.fmod 7)))] : Led)) (l₂ := [])).symm ?_
  refine Ex.cons (Ex.assignP (d := .none) K EvP.cnone (.loc (by fail "m_put")) ?_)
  have hat : σ.base - 1 ≤ at' ∧ at' ≤ σ.base + 5 := by omega
  have hcs : way < 3 ∨ way = 7 ∨ way = 3 ∨ way = 4 ∨ way = 5 ∨ way = 6 := by omega
  rcases hcs with h | h | h | h | h | h
  · exact wayA H B I bd hn8 hcf hat hy0 (by simp [h]) htv2
  · exact wayA H B I bd hn8 hcf hat hy0 (by simp [h]) htv2
  · rw [h]
    exact way3 H B I bd hn8 hcf hat hy0
  · rw [h]
    exact way4 H B I bd hn8 hcf hat hy0
  · rw [h]
    exact way5 H B I bd hn8 hcf hat hy0
  · rw [h]
    exact way6 H B I bd hn8 hcf hat hy0
end
end

section
open PySem PySem.Calls PySem.W PyProof.Rows PySem.Spec
local macro_rules | `(tactic| fail "m_le") => `(tactic| first | exact LocLe.nil | (refine' LocLe.same ?gg; (case gg => fail "m_le")) | (refine' LocLe.skip ?gg; (case gg => fail "m_le")))
theorem mods_is (ns : List Int) : (intsD ns).filterMap (fun d => some (.int ((unint d).fmod 999983))) = intsD (ns.map fun x => x.fmod 999983) := by
  induction ns with
  | nil => rfl
  | cons n ns ih =>
    show List.filterMap _ (D.int n :: intsD ns) = _
    rw [List.filterMap_cons, ih]
    rfl
set_option maxHeartbeats 4000000 in
theorem law_ok : LawOk := by
  intro Ω H Γ A ns hns B
  have K := B.ok
  have hn := B.nms
  have amb := B.amb
  have O : Own Γ := ⟨B.own⟩
  have hW := B.W
  obtain ⟨sc, hsc⟩ : ∃ sc : D, D.list (intsD ns) = sc := ⟨_, rfl⟩
  have hln : (intsD ns).length = ns.length := by rw [intsD, List.length_map]
  show Ex _ _ _ [some (.list (intsD ns)), none, none, none, none, none, none, none, none, none, none, none, none, none, none, none, none, none, none, none, none, none, none, none, none, none, none, none, none, none, none, none, none, none, none, none, none, none, none, none, none, none] [] _ _ _
  have hzn : (intsD ns).length ≤ 1000 := by omega
  refine Ex.cons (Ex.assignComp (ds := cut none (some 9) (intsD ns)) (fun d => some (.int ((unint d).fmod 999983))) K (by fail "m_scope") (SrcP.list (d := .list (cut none (some 9) (intsD ns))) amb.handled (by fail "m_ev") (.fro _)) ?hz lst_ok ?turn (.loc (by fail "m_put")) ?hk (swapsOn K (by fail "m_lk") rfl))
  case hz =>
    rw [cut_upto (by decide), List.length_take]; omega
  case turn =>
    intro Γc Kc hnc hfc d it o D acc hd
    rw [cut_upto (by decide), intsD, ← List.map_take] at hd
    obtain ⟨m, hm, rfl⟩ := List.mem_map.mp hd
    exact ⟨true, TsL.nil, fun _ => ⟨_, rfl, by fail "m_ev"⟩, fun h => by cases h⟩
  case hk =>
    have e1 : (cut none (some 9) (intsD ns)).filterMap (fun d => some (D.int ((unint d).fmod 999983))) = intsD ((ns.take 9).map fun x => x.fmod 999983) := by
      rw [cut_upto (by decide), intsD, ← List.map_take]
      exact mods_is (ns.take 9)
    rw [e1]
    have hm1 : ((ns.take 9).map fun x => x.fmod 999983).length ≤ 9 := by rw [List.length_map, List.length_take]; omega
    have hm2 : ∀ v ∈ ((ns.take 9).map fun x => x.fmod 999983), 0 ≤ v := fun v hv => by
      obtain ⟨x, _, rfl⟩ := List.mem_map.mp hv
      exact (fmod_in (by decide)).1
    generalize ((ns.take 9).map fun x => x.fmod 999983) = ms at hm1 hm2
    rw [hsc]
    have hml : (intsD ms).length = ms.length := by rw [intsD, List.length_map]
    have hmz : (intsD ms).length < 2 ^ 63 := by omega
    refine Ex.seq (fun ρ π' => ∃ ms : List Int, (0 < ms.length ∧ ms.length ≤ 9 ∧ ∀ v ∈ ms, 0 ≤ v) ∧ ρ = [some sc, none, some (.list (intsD ms)), none, none, none, none, none, none, none, none, none, none, none, none, none, none, none, none, none, none, none, none, none, none, none, none, none, none, none, none, none, none, none, none, none, none, none, none, none, none, none] ∧ π' = []) ?ife ?rest
    case ife =>
      refine Ex.ite (c := (((intsD ms).length : Int) == 0)) (by fail "m_ts") (fun h => ?_) (fun h => Ex.nil ⟨ms, ⟨?_, hm1, hm2⟩, rfl, rfl⟩)
      · exact Ex.cons (Ex.assignP (d := .list (intsD [15])) K (EvP.list (ds := [.int 15]) (by fail "m_el")) (.loc (by fail "m_put")) (Ex.nil ⟨[15], ⟨by simp, by simp, by simp⟩, rfl, rfl⟩))
      · rw [hml] at h
        have : (ms.length : Int) ≠ 0 := by simpa using h
        omega
    case rest =>
      clear hm1 hm2 hml hmz e1
      clear ms
      rintro _ _ ⟨ms, ⟨hl, hl9, hnn⟩, rfl, rfl⟩
      have hv := List.getElem?_eq_getElem hl
      generalize ms[0] = v at hv
      have hlz : (0 : Int) < (ms.length : Int) := by omega
      have f0 : (0 : Int).fmod ms.length = 0 := Int.zero_fmod _
      have fd := fn_draw H (ns := ms) (i := 0) (v := v) hl (by omega) (by omega) (by omega) (by rw [f0]; exact hv)
      obtain ⟨xv, hxv⟩ : ∃ xv, v + 7919 * (0 : Int).fdiv ms.length = xv := ⟨_, rfl⟩
      rw [hxv] at fd
      have hbm := fmod_in (a := xv) (show (0 : Int) < 2 by decide)
      obtain ⟨bg, hbg⟩ : ∃ bg, xv.fmod 2 = bg := ⟨_, rfl⟩
      rw [hbg] at hbm
      refine Ex.cons (Ex.assignP (d := .int bg) K (EvP.cast (by fail "m_ev") (by rw [hbg])) (.loc (by fail "m_put")) ?_)
      obtain ⟨vs, hvs⟩ : ∃ vs : List Int, (List.replicate bg.toNat ([1] : List Int)).flatten = vs := ⟨_, rfl⟩
      have hb2 : (bg = 0 ∧ vs = []) ∨ (bg = 1 ∧ vs = [1]) := by
        have : bg = 0 ∨ bg = 1 := by omega
        rcases this with rfl | rfl
        · exact .inl ⟨rfl, hvs.symm⟩
        · exact .inr ⟨rfl, hvs.symm⟩
      have em : (List.replicate bg.toNat (([1] : List Int).map D.int)).flatten = intsD vs := by
        rcases hb2 with ⟨rfl, rfl⟩ | ⟨rfl, rfl⟩ <;> rfl
      have hpw : vs.Pairwise (· < ·) := by
        rcases hb2 with ⟨rfl, rfl⟩ | ⟨rfl, rfl⟩ <;> simp
      have hvl : vs.length ≤ 1 := by
        rcases hb2 with ⟨rfl, rfl⟩ | ⟨rfl, rfl⟩ <;> simp
      have hst : (stInit vs).base = bg ∧ (stInit vs).si = bg ∧ (stInit vs).st = bg ∧ (stInit vs).ht = bg ∧ (stInit vs).hc = bg := by
        rcases hb2 with ⟨rfl, rfl⟩ | ⟨rfl, rfl⟩ <;> exact ⟨rfl, rfl, rfl, rfl, rfl⟩
      clear hvs hb2
      obtain ⟨s1, s2, s3, s4, s5⟩ := hst
      have fc := fn_Conf H hpw (by omega)
      refine Ex.cons (Ex.assignP (d := .inst 292 (confF vs)) K (EvP.new fc K amb (by omega) (by fail "m_own") (k_ConfState H) (ElP.cons (EvP.cast (EvP.mulL (ns := [1]) (d := .list [.int 1]) (by fail "m_ev") (.fro _) (by fail "m_ev") (by simp) (by omega) (by omega)) (by rw [em])) (ElP.cons (by fail "m_ev") (ElP.cons (by fail "m_ev") (ElP.cons (by fail "m_ev") (ElP.cons (by fail "m_ev") ElP.nil))))) (by rw [hW]; exact fun a ha => nomatch ha)) (.loc (by fail "m_put")) ?_)
      refine Ex.cons (Ex.assign K (Ev.newM (fn_Sto H (vs := vs) (by omega)) K amb (by omega) (by fail "m_own") (k_MemoryStorage H) (by fail "m_el")) (.loc (by fail "m_put")) ?_)
      rintro _ _ ⟨a, dx, rfl, rfl⟩
      refine Ex.cons (Ex.assign K (Ev.listM (ds := storyD [⟨0, bg, [⟨bg, bg, 0, []⟩]⟩]) (ElP.cons (EvP.tup (ds := [.int 0, .int bg, .list [.tup [.int bg, .int bg, .int 0, .bytes ([] : List UInt8).toArray]]]) (by fail "m_el")) ElP.nil) (by simp [storyD])) (.loc (by fail "m_put")) ?_)
      rintro _ _ ⟨l, rfl, rfl⟩
      obtain ⟨story, hstory⟩ : ∃ story : List Item, [⟨0, bg, [⟨bg, bg, 0, []⟩]⟩] = story := ⟨_, rfl⟩
      rw [hstory]
      have I : Inv story (stInit vs) 0 [] := hstory ▸ Inv.init vs bg s1
      have bd : Bd 0 (stInit vs) story [] := by
        refine ⟨by omega, by omega, by simp [stInit], ?_, ?_, (fun r hr => nomatch hr), ?_, ?_, by simp, by omega⟩
        · show vs.length ≤ 2; omega
        · show vs.length ≤ 2; omega
        · rw [← hstory]; simp
        · rw [← hstory]; simp
      have ecv : (stInit vs).cv = vs := rfl
      have esv : (stInit vs).sv = vs := rfl
      have esb : (stInit vs).sb = [] := rfl
      have ehv : (stInit vs).hv = 0 := rfl
      obtain ⟨σ, hσ⟩ : ∃ σ, stInit vs = σ := ⟨_, rfl⟩
      rw [hσ] at I s1 s2 s3 s4 s5 ecv esv esb ehv bd ⊢
      have go : Go 0 σ story := ⟨0, [], I, bd⟩
      refine Ex.perm (π' := LD a dx σ l story) (List.Perm.swap ..) ?_
      have fr : FnP Ω (.ref 282) [.inst 292 (confF vs)] (LD a dx σ l story) 1 (confR vs) := fn_Conf_row H (by omega) (.fro _ _)
      refine Ex.cons (Ex.assignP (d := confR σ.cv) K (EvP.cast (by fail "m_ev") (by rw [ecv])) (.loc (by fail "m_put")) ?_)
      refine Ex.cons (Ex.assignP (d := snapR σ.si σ.st σ.sv σ.sb) K (EvP.cast (EvP.tup (ds := [.int bg, .int bg, confR σ.cv, .bytes ([] : List UInt8).toArray]) (by fail "m_el")) (by rw [s2, s3, esv, ecv, esb]; rfl)) (.loc (by fail "m_put")) ?_)
      refine Ex.cons (Ex.assignP (d := hardR σ.ht σ.hv σ.hc) K (EvP.cast (EvP.tup (ds := [.int bg, .int 0, .int bg]) (by fail "m_el")) (by rw [s4, s5, ehv]; rfl)) (.loc (by fail "m_put")) ?_)
      have ft := fn_tells H (a := a) (dx := dx) (l := l) (y := v) bd.ok I (fun r hr => by have := (bd.rows r hr).2; omega) (by have := bd.slen; have := bd.n; omega) (fun x hx => by have := bd.told x hx; omega) (by simp)
      have hg0 : (intsD ms)[(0 : Int).toNat]? = some (.int v) := by rw [intsD, List.getElem?_map]; show Option.map _ ms[0]? = _; rw [hv]; rfl
      refine Ex.cons (Ex.ite (c := false) (TsP.not (c := true) (TsP.boolT (EvP.callF ft K amb (by omega) (by fail "m_own") (k_law_tells H) (by fail "m_el")))) (fun h => by cases h) (fun _ => Ex.nil ?_))
      refine Ex.less (ρ' := LW (some sc) none (some (.list (intsD ms))) (some (.int bg)) none a l (confR σ.cv) (snapR σ.si σ.st σ.sv σ.sb) (hardR σ.ht σ.hv σ.hc) none none none none none none none none none none none none none none none none) (by fail "m_le") ?_
      refine Ex.seq (fun ρ π' => True) (Ex.forIn (JL sc ms (.int bg) a dx l) O K (SrcP.range2 (a := 1) (b := 9) amb.handled (by fail "m_glob") (by fail "m_el") (by decide) (by decide) (by decide) (by decide)) (fun v G G' i ρ' π' it o h g _ => rng_on h g) ?lturn (fun _ _ _ => trivial) ?lstart) ?lend
      case lstart =>
        exact ⟨σ, story, go, rfl, rfl⟩
      case lturn =>
        rintro i d ρ' π' it o hd ⟨σ, story, go, rfl, rfl⟩
        obtain ⟨hi, rfl⟩ := rangeD_get hd
        refine ⟨_, .loc (by fail "m_put"), ?_⟩
        refine (turn H B go (by omega) hl hl9 hnn).mono (fun fl ρ'' π'' hp => ?_) fun _ _ _ h => h.elim
        obtain ⟨π₃, hp, h⟩ := hp
        refine ⟨π₃, hp, ?_⟩
        cases fl with
        | next => exact h
        | brk => exact h.elim
        | cont => exact h.elim
        | ret d => exact h.elim
      case lend =>
        intro _ _ _
        exact Ex.cons (Ex.retP EvP.cbool rfl)
end

section
open PySem PySem.Calls PySem.W PyProof.Rows PySem.Spec
theorem join (law : LawOk) : PySem.Challenge.rw_no0407_01.Holds := Mine.hd (by
  intro w s₀ s₁ mg mb G Y fa o pm cd doc dV kV ho hd hcd hD hmg hg args vals as hpre hlay hrd hwl hlo
  have KX := kIn_of Y
  have X := (Ground.X G).1
  have V := (Ground.X G).2
  refine Ground.open G ?_
  intro T B D TE TW
  clear hmg
  wrow_args hpre hlay hrd hwl hlo
  rename_i ns hs1 hl1 hl2 hl3 hl4 a1 a2 sc vs a3 hL hra hw1 hr0 hI hrA hc1 hc2
  have hns : ns.length ≤ 63 := by omega
  have he := Dflts.none hD rfl
  subst he
  have he := Dflts.noKw hD
  subst he
  let Ω : Wo := ⟨PySem.Challenge.rw_no0407_01.row.prog, w, _, _, _, mg, mb, s₁.heap, KX, topRead_of T⟩
  have H : Here Ω := ⟨⟨w.params, rfl⟩⟩
  have F : Fn Ω (.ref fa) [.list (intsD ns)] [] 9 (fun d π' => d = .bool true) (fun _ _ => False) := by
    refine Fn.of_top (Ω := Ω) (params := lawRec.params) (body := lawRec.body) (scope := lawRec.scope) (name := lawRec.name) (qual := lawRec.name) (doc := doc) (pm := pm) (cdv := cd) (ct := .none) (an := none) (dV := .none) (kV := .none) ["script"] lawN ho (fd_plain hd) hcd (fun vs hvs => ?_) rfl rfl rfl rfl (by decide) rfl rfl rfl fun Γ A BB => ?_
    · match vs, hvs with
      | [v], _ => rfl
    · exact law Ω H Γ A ns hns BB
  refine wpAny_call (codeAny_mono (F callerA [] s₁ s₁.heap.get? [.ref sc] (fun v s' => GoodW PySem.Challenge.rw_no0407_01.row.claim (classAt s₀.heap) (ExcName.means s₀.heap) [ofPy (PyData.list (List.map PyData.int ns))] s₁ (.ok (.ret v)) s') (fun _ _ => False) ⟨rfl, rfl, by decide, by decide⟩ (GLe.refl _) (fun _ _ e => e) trivial (fun a ha => nomatch ha) (fun p hp => nomatch hp) .nil (fun a ha => nomatch ha) (.cons ?rd .nil) ?ret (fun _ _ _ _ _ _ _ _ _ hf => hf.elim)) ?post)
  case rd =>
    obtain ⟨o', h1, h2, n, h3⟩ := hL
    exact .list h1 h2 h3 (ints_rd hI)
  case ret =>
    intro v d π' G' h' tk' hd' aft r
    subst hd'
    cases r
    refine ⟨.inl ⟨.bool true, .bool true, [], rfl, fun _ => rfl, .bool true, ?pst, fun _ => ⟨.nil, fun a ha => nomatch ha⟩⟩, fun b o e => aft.stp.keep b o e (fun q => nomatch q) (fun q => nomatch q), rfl, hg⟩
    refine postW_of (r := PySem.Challenge.rw_no0407_01.row.toRowW) (X := true) ?_ ?_ rfl
    · first | rfl | kernel_rfl | simp [WShape.has, OpenLaw.row]
    · first | rfl | kernel_rfl | (show WTm.value _ (.eq .res (.lit (.bool true))) _ = _; simp [WTm.value])
  case post =>
    intro r s' z
    rcases r with e | (_ | _ | _ | v)
    · exact z.elim
    · exact z.elim
    · exact z.elim
    · exact z.elim
    · exact GoodW.toG z)
end

end
end Mine
theorem PySem.Challenge.cw_no0407_01_holds : PySem.Challenge.rw_no0407_01.Holds :=
  Mine.join Mine.law_ok
