import PyProof.Rows.All
import Wide.All
import OpenK.AllK
import Wide.FinOn
import Lean
import PySem.Challenge.RW_nu0222_01
open PySem PySem.W PyProof.Rows PySem.SeqAt
set_option Elab.async false
set_option maxRecDepth 100000
set_option maxHeartbeats 8000000
set_option linter.all false
namespace Mine
noncomputable def stmtAt (l : List Stmt) (k : Nat) : Stmt := match l.drop k with
  | s :: _ => s
  | [] => .Pass default
noncomputable abbrev topS : List Stmt := PySem.Challenge.pw_nu0222_01.main.body
noncomputable def defS (s : Stmt) : Arguments × List Stmt × Scope := match s with
  | .FunctionDef _ a b _ _ _ sc _ _ _ => (a, b, sc)
  | _ => default
noncomputable def clsS (s : Stmt) : List Stmt := match s with
  | .ClassDef _ _ _ b _ _ _ _ _ _ _ => b
  | _ => []
noncomputable def entK (P : Params) (k : Str) (t : Tok) (v : Value) : DictEntry := ⟨PyData.keyHash P k, .str k t, v⟩
noncomputable def fnObj (n q : Str) (d : Arguments × List Stmt × Scope) (dv m c : Value) : Obj :=
  ⟨.type "function", none, .func { name := n, qualname := q, params := d.1, body := .stmts d.2.1, scope := d.2.2, globals := mainGlobals, closure := [], defaults := dv, kwdefaults := .none, doc := .none, pyModule := m, annotations := none, code := c, closureTuple := .none, builtins := builtinsNs }, #[]⟩

noncomputable def heapK (P : Params) : Frag := [
  (2, ⟨.none, none, .dict #[] 0, #[]⟩),
  (3, ⟨.type "dict", none, .dict #[entK P "__name__" 165 (.str "law_nu0222_01" 491), entK P "__doc__" 166 (.none), entK P "__package__" 167 (.none), entK P "__loader__" 168 (.builtin "__main__.__loader__#opaque"), entK P "__spec__" 169 (.none), entK P "__annotations__" 170 (.ref 6), entK P "__builtins__" 171 (.ref 4), entK P "__file__" 173 (.str "/claim/cut.py" 172), entK P "__cached__" 174 (.none), entK P "_wall" 193 (.ref 21), entK P "Info" 256 (.ref 52), entK P "Buffer" 321 (.ref 103), entK P "buffer_of" 327 (.ref 113), entK P "set_cluster" 335 (.ref 120), entK P "widened" 346 (.ref 127), entK P "merge" 352 (.ref 132), entK P "CONSONANTS" 359 (.ref 135), entK P "VOWELS" 364 (.ref 138), entK P "MATRAS" 371 (.ref 142), entK P "SIGNS" 376 (.ref 145), entK P "VIRAMA" 378 (.int 2381 377), entK P "NUKTA" 380 (.int 2364 379), entK P "MATRA_I" 382 (.int 2367 381), entK P "ZWNJ" 384 (.int 8204 383), entK P "ZWJ" 386 (.int 8205 385), entK P "DOTTED_CIRCLE" 388 (.int 9676 387), entK P "is_within" 398 (.ref 152), entK P "kinds_of" 407 (.ref 159), entK P "kind_at" 415 (.ref 166), entK P "past" 424 (.ref 173), entK P "past_viramas" 433 (.ref 180), entK P "syllable_end" 444 (.ref 187), entK P "syllables" 450 (.ref 192), entK P "is_broken" 458 (.ref 199), entK P "matra_goal" 469 (.ref 206), entK P "move_matras" 475 (.ref 211), entK P "put_circle" 484 (.ref 218), entK P "reorder" 490 (.ref 224), entK P "_law_pot" 498 (.ref 229), entK P "_law_draw" 509 (.ref 236), entK P "_law_code" 517 (.ref 243), entK P "_law_goal" 526 (.ref 250), entK P "_law_merge" 532 (.ref 255), entK P "_law_moved" 538 (.ref 260), entK P "_law_due" 544 (.ref 265), entK P "law" 550 (.ref 270)] 46, #[]⟩),
  (34, ⟨.type "code", none, .fields #[.str "__init__" 208, .str "Info.__init__" 209, .str "/claim/cut.py" 210, .int 7 0, .int 4 0, .int 0 0, .int 0 0, .int 3 0, .ref 29, .bool true, .int 181 0, .ref 30, .none, .ref 31, .ref 32, .ref 33, .int 215 0, .int 7 0, .str "/claim/cut.py" 216], #[]⟩),
  (35, fnObj "__init__" "Info.__init__" (defS (stmtAt (clsS (stmtAt topS 2)) 0)) (.none) (.str "joinedhand.buffer" 194) (.ref 34)),
  (41, ⟨.type "code", none, .fields #[.str "copied" 218, .str "Info.copied" 219, .str "/claim/cut.py" 220, .int 25 0, .int 1 0, .int 0 0, .int 0 0, .int 3 0, .ref 36, .bool true, .int 181 0, .ref 37, .none, .ref 38, .ref 39, .ref 40, .int 223 0, .int 25 0, .str "/claim/cut.py" 224], #[]⟩),
  (42, fnObj "copied" "Info.copied" (defS (stmtAt (clsS (stmtAt topS 2)) 1)) (.none) (.str "joinedhand.buffer" 194) (.ref 41)),
  (51, ⟨.type "dict", none, .dict #[entK P "__module__" 203 (.str "joinedhand.buffer" 194), entK P "__firstlineno__" 207 (.int 5 206), entK P "__init__" 217 (.ref 35), entK P "copied" 225 (.ref 42), entK P "told" 232 (.ref 49), entK P "__static_attributes__" 249 (.ref 50), entK P "__dict__" 251 (.ref 53), entK P "__weakref__" 253 (.ref 54), entK P "__doc__" 254 (.none)] 4, #[]⟩),
  (52, ⟨.type "type", none, .cls ⟨"Info", [.type "object"], [.ref 52, .type "object"], 51, "Info", true, [], [], false, none, false⟩, #[none, none, some (.str "Info" 196), some (.str "Info" 204), some (.builtin "object.__new__"), some (.bool true)]⟩),
  (53, ⟨.type "getset_descriptor", none, .fields #[.str "__dict__" 250, .ref 52, .builtin "function.__dict__", .builtin "function.__dict__#set"], #[]⟩),
  (54, ⟨.type "getset_descriptor", none, .fields #[.str "__weakref__" 252, .ref 52, .builtin "ExceptionGroup.__weakref__", .none], #[]⟩),
  (64, ⟨.type "tuple", none, .seq #[.bool false] 0, #[]⟩),
  (70, ⟨.type "code", none, .fields #[.str "__init__" 269, .str "Buffer.__init__" 270, .str "/claim/cut.py" 271, .int 46 0, .int 3 0, .int 0 0, .int 0 0, .int 3 0, .ref 65, .bool true, .int 181 0, .ref 66, .none, .ref 67, .ref 68, .ref 69, .int 275 0, .int 46 0, .str "/claim/cut.py" 276], #[]⟩),
  (71, fnObj "__init__" "Buffer.__init__" (defS (stmtAt (clsS (stmtAt topS 3)) 0)) (.ref 64) (.str "joinedhand.buffer" 194) (.ref 70)),
  (80, ⟨.type "code", none, .fields #[.str "clusters" 284, .str "Buffer.clusters" 285, .str "/claim/cut.py" 286, .int 55 0, .int 1 0, .int 0 0, .int 0 0, .int 3 0, .ref 77, .bool true, .int 181 0, .ref 78, .none, .none, .none, .ref 79, .int 287 0, .int 55 0, .str "/claim/cut.py" 288], #[]⟩),
  (81, fnObj "clusters" "Buffer.clusters" (defS (stmtAt (clsS (stmtAt topS 3)) 2)) (.none) (.str "joinedhand.buffer" 194) (.ref 80)),
  (102, ⟨.type "dict", none, .dict #[entK P "__module__" 264 (.str "joinedhand.buffer" 194), entK P "__firstlineno__" 268 (.int 44 267), entK P "__init__" 277 (.ref 71), entK P "glyphs" 283 (.ref 76), entK P "clusters" 289 (.ref 81), entK P "told" 295 (.ref 86), entK P "next_lig" 302 (.ref 93), entK P "next_split" 309 (.ref 100), entK P "__static_attributes__" 314 (.ref 101), entK P "__dict__" 316 (.ref 104), entK P "__weakref__" 318 (.ref 105), entK P "__doc__" 319 (.none)] 4, #[]⟩),
  (103, ⟨.type "type", none, .cls ⟨"Buffer", [.type "object"], [.ref 103, .type "object"], 102, "Buffer", true, [], [], false, none, false⟩, #[none, none, some (.str "Buffer" 257), some (.str "Buffer" 265), some (.builtin "object.__new__"), some (.bool true)]⟩),
  (104, ⟨.type "getset_descriptor", none, .fields #[.str "__dict__" 315, .ref 103, .builtin "function.__dict__", .builtin "function.__dict__#set"], #[]⟩),
  (105, ⟨.type "getset_descriptor", none, .fields #[.str "__weakref__" 317, .ref 103, .builtin "ExceptionGroup.__weakref__", .none], #[]⟩),
  (108, ⟨.type "tuple", none, .seq #[.bool false] 0, #[]⟩),
  (112, ⟨.type "code", none, .fields #[.str "buffer_of" 322, .str "buffer_of" 323, .str "/claim/cut.py" 324, .int 66 0, .int 2 0, .int 0 0, .int 0 0, .int 3 0, .ref 109, .bool true, .int 181 0, .ref 110, .none, .none, .none, .ref 111, .int 325 0, .int 66 0, .str "/claim/cut.py" 326], #[]⟩),
  (113, fnObj "buffer_of" "buffer_of" (defS (stmtAt topS 4)) (.ref 108) (.str "joinedhand.buffer" 194) (.ref 112)),
  (119, ⟨.type "code", none, .fields #[.str "set_cluster" 328, .str "set_cluster" 329, .str "/claim/cut.py" 330, .int 68 0, .int 2 0, .int 0 0, .int 0 0, .int 3 0, .ref 114, .bool true, .int 181 0, .ref 115, .none, .ref 116, .ref 117, .ref 118, .int 333 0, .int 68 0, .str "/claim/cut.py" 334], #[]⟩),
  (120, fnObj "set_cluster" "set_cluster" (defS (stmtAt topS 5)) (.none) (.str "joinedhand.buffer" 194) (.ref 119)),
  (126, ⟨.type "code", none, .fields #[.str "widened" 336, .str "widened" 337, .str "/claim/cut.py" 338, .int 72 0, .int 3 0, .int 0 0, .int 0 0, .int 3 0, .ref 121, .bool true, .int 181 0, .ref 122, .none, .ref 123, .ref 124, .ref 125, .int 344 0, .int 72 0, .str "/claim/cut.py" 345], #[]⟩),
  (127, fnObj "widened" "widened" (defS (stmtAt topS 6)) (.none) (.str "joinedhand.buffer" 194) (.ref 126)),
  (131, ⟨.type "code", none, .fields #[.str "merge" 347, .str "merge" 348, .str "/claim/cut.py" 349, .int 80 0, .int 3 0, .int 0 0, .int 0 0, .int 3 0, .ref 128, .bool true, .int 181 0, .ref 129, .none, .none, .none, .ref 130, .int 350 0, .int 80 0, .str "/claim/cut.py" 351], #[]⟩),
  (132, fnObj "merge" "merge" (defS (stmtAt topS 7)) (.none) (.str "joinedhand.buffer" 194) (.ref 131)),
  (133, ⟨.type "tuple", none, .seq #[.int 2325 355, .int 2361 356] 0, #[]⟩),
  (134, ⟨.type "tuple", none, .seq #[.int 2392 357, .int 2399 358] 0, #[]⟩),
  (135, ⟨.type "tuple", none, .seq #[.ref 133, .ref 134] 0, #[]⟩),
  (136, ⟨.type "tuple", none, .seq #[.int 2308 360, .int 2324 361] 0, #[]⟩),
  (137, ⟨.type "tuple", none, .seq #[.int 2400 362, .int 2401 363] 0, #[]⟩),
  (138, ⟨.type "tuple", none, .seq #[.ref 136, .ref 137] 0, #[]⟩),
  (139, ⟨.type "tuple", none, .seq #[.int 2366 365, .int 2366 366] 0, #[]⟩),
  (140, ⟨.type "tuple", none, .seq #[.int 2368 367, .int 2380 368] 0, #[]⟩),
  (141, ⟨.type "tuple", none, .seq #[.int 2402 369, .int 2403 370] 0, #[]⟩),
  (142, ⟨.type "tuple", none, .seq #[.ref 139, .ref 140, .ref 141] 0, #[]⟩),
  (143, ⟨.type "tuple", none, .seq #[.int 2304 372, .int 2307 373] 0, #[]⟩),
  (144, ⟨.type "tuple", none, .seq #[.int 2385 374, .int 2388 375] 0, #[]⟩),
  (145, ⟨.type "tuple", none, .seq #[.ref 143, .ref 144] 0, #[]⟩),
  (151, ⟨.type "code", none, .fields #[.str "is_within" 389, .str "is_within" 390, .str "/claim/cut.py" 391, .int 98 0, .int 2 0, .int 0 0, .int 0 0, .int 3 0, .ref 146, .bool true, .int 181 0, .ref 147, .none, .ref 148, .ref 149, .ref 150, .int 396 0, .int 98 0, .str "/claim/cut.py" 397], #[]⟩),
  (152, fnObj "is_within" "is_within" (defS (stmtAt topS 19)) (.none) (.str "joinedhand.syllables" 353) (.ref 151)),
  (158, ⟨.type "code", none, .fields #[.str "kinds_of" 399, .str "kinds_of" 400, .str "/claim/cut.py" 401, .int 103 0, .int 1 0, .int 0 0, .int 0 0, .int 3 0, .ref 153, .bool true, .int 181 0, .ref 154, .none, .ref 155, .ref 156, .ref 157, .int 405 0, .int 103 0, .str "/claim/cut.py" 406], #[]⟩),
  (159, fnObj "kinds_of" "kinds_of" (defS (stmtAt topS 20)) (.none) (.str "joinedhand.syllables" 353) (.ref 158)),
  (165, ⟨.type "code", none, .fields #[.str "kind_at" 408, .str "kind_at" 409, .str "/claim/cut.py" 410, .int 116 0, .int 2 0, .int 0 0, .int 0 0, .int 3 0, .ref 160, .bool true, .int 181 0, .ref 161, .none, .ref 162, .ref 163, .ref 164, .int 413 0, .int 116 0, .str "/claim/cut.py" 414], #[]⟩),
  (166, fnObj "kind_at" "kind_at" (defS (stmtAt topS 21)) (.none) (.str "joinedhand.syllables" 353) (.ref 165)),
  (172, ⟨.type "code", none, .fields #[.str "past" 416, .str "past" 417, .str "/claim/cut.py" 418, .int 118 0, .int 3 0, .int 0 0, .int 0 0, .int 3 0, .ref 167, .bool true, .int 181 0, .ref 168, .none, .ref 169, .ref 170, .ref 171, .int 422 0, .int 118 0, .str "/claim/cut.py" 423], #[]⟩),
  (173, fnObj "past" "past" (defS (stmtAt topS 22)) (.none) (.str "joinedhand.syllables" 353) (.ref 172)),
  (179, ⟨.type "code", none, .fields #[.str "past_viramas" 425, .str "past_viramas" 426, .str "/claim/cut.py" 427, .int 122 0, .int 2 0, .int 0 0, .int 0 0, .int 3 0, .ref 174, .bool true, .int 181 0, .ref 175, .none, .ref 176, .ref 177, .ref 178, .int 431 0, .int 122 0, .str "/claim/cut.py" 432], #[]⟩),
  (180, fnObj "past_viramas" "past_viramas" (defS (stmtAt topS 23)) (.none) (.str "joinedhand.syllables" 353) (.ref 179)),
  (186, ⟨.type "code", none, .fields #[.str "syllable_end" 434, .str "syllable_end" 435, .str "/claim/cut.py" 436, .int 129 0, .int 2 0, .int 0 0, .int 0 0, .int 3 0, .ref 181, .bool true, .int 181 0, .ref 182, .none, .ref 183, .ref 184, .ref 185, .int 442 0, .int 129 0, .str "/claim/cut.py" 443], #[]⟩),
  (187, fnObj "syllable_end" "syllable_end" (defS (stmtAt topS 24)) (.none) (.str "joinedhand.syllables" 353) (.ref 186)),
  (191, ⟨.type "code", none, .fields #[.str "syllables" 445, .str "syllables" 446, .str "/claim/cut.py" 447, .int 139 0, .int 1 0, .int 0 0, .int 0 0, .int 3 0, .ref 188, .bool true, .int 181 0, .ref 189, .none, .none, .none, .ref 190, .int 448 0, .int 139 0, .str "/claim/cut.py" 449], #[]⟩),
  (192, fnObj "syllables" "syllables" (defS (stmtAt topS 25)) (.none) (.str "joinedhand.syllables" 353) (.ref 191)),
  (198, ⟨.type "code", none, .fields #[.str "is_broken" 451, .str "is_broken" 452, .str "/claim/cut.py" 453, .int 148 0, .int 2 0, .int 0 0, .int 0 0, .int 3 0, .ref 193, .bool true, .int 181 0, .ref 194, .none, .ref 195, .ref 196, .ref 197, .int 456 0, .int 148 0, .str "/claim/cut.py" 457], #[]⟩),
  (199, fnObj "is_broken" "is_broken" (defS (stmtAt topS 26)) (.none) (.str "joinedhand.syllables" 353) (.ref 198)),
  (205, ⟨.type "code", none, .fields #[.str "matra_goal" 459, .str "matra_goal" 460, .str "/claim/cut.py" 461, .int 150 0, .int 3 0, .int 0 0, .int 0 0, .int 3 0, .ref 200, .bool true, .int 181 0, .ref 201, .none, .ref 202, .ref 203, .ref 204, .int 467 0, .int 150 0, .str "/claim/cut.py" 468], #[]⟩),
  (206, fnObj "matra_goal" "matra_goal" (defS (stmtAt topS 27)) (.none) (.str "joinedhand.syllables" 353) (.ref 205)),
  (210, ⟨.type "code", none, .fields #[.str "move_matras" 470, .str "move_matras" 471, .str "/claim/cut.py" 472, .int 156 0, .int 3 0, .int 0 0, .int 0 0, .int 3 0, .ref 207, .bool true, .int 181 0, .ref 208, .none, .none, .none, .ref 209, .int 473 0, .int 156 0, .str "/claim/cut.py" 474], #[]⟩),
  (211, fnObj "move_matras" "move_matras" (defS (stmtAt topS 28)) (.none) (.str "joinedhand.syllables" 353) (.ref 210)),
  (217, ⟨.type "code", none, .fields #[.str "put_circle" 476, .str "put_circle" 477, .str "/claim/cut.py" 478, .int 170 0, .int 2 0, .int 0 0, .int 0 0, .int 3 0, .ref 212, .bool true, .int 181 0, .ref 213, .none, .ref 214, .ref 215, .ref 216, .int 482 0, .int 170 0, .str "/claim/cut.py" 483], #[]⟩),
  (218, fnObj "put_circle" "put_circle" (defS (stmtAt topS 29)) (.none) (.str "joinedhand.syllables" 353) (.ref 217)),
  (219, ⟨.type "tuple", none, .seq #[.bool false] 0, #[]⟩),
  (223, ⟨.type "code", none, .fields #[.str "reorder" 485, .str "reorder" 486, .str "/claim/cut.py" 487, .int 176 0, .int 2 0, .int 0 0, .int 0 0, .int 3 0, .ref 220, .bool true, .int 181 0, .ref 221, .none, .none, .none, .ref 222, .int 488 0, .int 176 0, .str "/claim/cut.py" 489], #[]⟩),
  (224, fnObj "reorder" "reorder" (defS (stmtAt topS 30)) (.ref 219) (.str "joinedhand.syllables" 353) (.ref 223)),
  (228, ⟨.type "code", none, .fields #[.str "_law_pot" 493, .str "_law_pot" 494, .str "/claim/cut.py" 495, .int 184 0, .int 1 0, .int 0 0, .int 0 0, .int 3 0, .ref 225, .bool true, .int 181 0, .ref 226, .none, .none, .none, .ref 227, .int 496 0, .int 184 0, .str "/claim/cut.py" 497], #[]⟩),
  (229, fnObj "_law_pot" "_law_pot" (defS (stmtAt topS 32)) (.none) (.str "law_nu0222_01" 491) (.ref 228)),
  (235, ⟨.type "code", none, .fields #[.str "_law_draw" 499, .str "_law_draw" 500, .str "/claim/cut.py" 501, .int 190 0, .int 2 0, .int 0 0, .int 0 0, .int 3 0, .ref 230, .bool true, .int 181 0, .ref 231, .none, .ref 232, .ref 233, .ref 234, .int 507 0, .int 190 0, .str "/claim/cut.py" 508], #[]⟩),
  (236, fnObj "_law_draw" "_law_draw" (defS (stmtAt topS 33)) (.none) (.str "law_nu0222_01" 491) (.ref 235)),
  (242, ⟨.type "code", none, .fields #[.str "_law_code" 510, .str "_law_code" 511, .str "/claim/cut.py" 512, .int 201 0, .int 1 0, .int 0 0, .int 0 0, .int 3 0, .ref 237, .bool true, .int 181 0, .ref 238, .none, .ref 239, .ref 240, .ref 241, .int 515 0, .int 201 0, .str "/claim/cut.py" 516], #[]⟩),
  (243, fnObj "_law_code" "_law_code" (defS (stmtAt topS 34)) (.none) (.str "law_nu0222_01" 491) (.ref 242)),
  (249, ⟨.type "code", none, .fields #[.str "_law_goal" 518, .str "_law_goal" 519, .str "/claim/cut.py" 520, .int 206 0, .int 1 0, .int 0 0, .int 0 0, .int 3 0, .ref 244, .bool true, .int 181 0, .ref 245, .none, .ref 246, .ref 247, .ref 248, .int 524 0, .int 206 0, .str "/claim/cut.py" 525], #[]⟩),
  (250, fnObj "_law_goal" "_law_goal" (defS (stmtAt topS 35)) (.none) (.str "law_nu0222_01" 491) (.ref 249)),
  (254, ⟨.type "code", none, .fields #[.str "_law_merge" 527, .str "_law_merge" 528, .str "/claim/cut.py" 529, .int 212 0, .int 3 0, .int 0 0, .int 0 0, .int 3 0, .ref 251, .bool true, .int 181 0, .ref 252, .none, .none, .none, .ref 253, .int 530 0, .int 212 0, .str "/claim/cut.py" 531], #[]⟩),
  (255, fnObj "_law_merge" "_law_merge" (defS (stmtAt topS 36)) (.none) (.str "law_nu0222_01" 491) (.ref 254)),
  (259, ⟨.type "code", none, .fields #[.str "_law_moved" 533, .str "_law_moved" 534, .str "/claim/cut.py" 535, .int 220 0, .int 3 0, .int 0 0, .int 0 0, .int 3 0, .ref 256, .bool true, .int 181 0, .ref 257, .none, .none, .none, .ref 258, .int 536 0, .int 220 0, .str "/claim/cut.py" 537], #[]⟩),
  (260, fnObj "_law_moved" "_law_moved" (defS (stmtAt topS 37)) (.none) (.str "law_nu0222_01" 491) (.ref 259)),
  (264, ⟨.type "code", none, .fields #[.str "_law_due" 539, .str "_law_due" 540, .str "/claim/cut.py" 541, .int 233 0, .int 2 0, .int 0 0, .int 0 0, .int 3 0, .ref 261, .bool true, .int 181 0, .ref 262, .none, .none, .none, .ref 263, .int 542 0, .int 233 0, .str "/claim/cut.py" 543], #[]⟩),
  (265, fnObj "_law_due" "_law_due" (defS (stmtAt topS 38)) (.none) (.str "law_nu0222_01" 491) (.ref 264)),
  (269, ⟨.type "code", none, .fields #[.str "law" 545, .str "law" 546, .str "/claim/cut.py" 547, .int 242 0, .int 1 0, .int 0 0, .int 0 0, .int 3 0, .ref 266, .bool true, .int 181 0, .ref 267, .none, .none, .none, .ref 268, .int 548 0, .int 242 0, .str "/claim/cut.py" 549], #[]⟩),
  (270, fnObj "law" "law" (defS (stmtAt topS 39)) (.none) (.str "law_nu0222_01" 491) (.ref 269))]
noncomputable def heapAs : List Addr := [2, 3, 34, 35, 41, 42, 51, 52, 53, 54, 64, 70, 71, 80, 81, 102, 103, 104, 105, 108, 112, 113, 119, 120, 126, 127, 131, 132, 133, 134, 135, 136, 137, 138, 139, 140, 141, 142, 143, 144, 145, 151, 152, 158, 159, 165, 166, 172, 173, 179, 180, 186, 187, 191, 192, 198, 199, 205, 206, 210, 211, 217, 218, 219, 223, 224, 228, 229, 235, 236, 242, 243, 249, 250, 254, 255, 259, 260, 264, 265, 269, 270]
noncomputable def vw : Program := { PySem.Challenge.pw_nu0222_01 with main := { PySem.Challenge.pw_nu0222_01.main with body := topS.drop 39 } }
noncomputable def looseNames : List Str := [("_wall" : Str), ("Info" : Str), ("Buffer" : Str), ("buffer_of" : Str), ("set_cluster" : Str), ("widened" : Str), ("merge" : Str), ("CONSONANTS" : Str), ("VOWELS" : Str), ("MATRAS" : Str), ("SIGNS" : Str), ("VIRAMA" : Str), ("NUKTA" : Str), ("MATRA_I" : Str), ("ZWNJ" : Str), ("ZWJ" : Str), ("DOTTED_CIRCLE" : Str), ("is_within" : Str), ("kinds_of" : Str), ("kind_at" : Str), ("past" : Str), ("past_viramas" : Str), ("syllable_end" : Str), ("syllables" : Str), ("is_broken" : Str), ("matra_goal" : Str), ("move_matras" : Str), ("put_circle" : Str), ("reorder" : Str), ("_law_pot" : Str), ("_law_draw" : Str), ("_law_code" : Str), ("_law_goal" : Str), ("_law_merge" : Str), ("_law_moved" : Str), ("_law_due" : Str)]
noncomputable def hookK : Hook := kHook heapK heapAs (fun _ => by kernel_rfl)

theorem opened {o : Option Shared} {h : Heap} {g : Array GenState} {d : Drawn} {k : Nat} (e : o.map (fun s => (s.heap, s.gens, s.drawn, s.toks)) = some (h, g, d, k)) : ∃ os, o = some ⟨h, g, d, k, os⟩ := by
  cases o with
  | none => cases e
  | some s =>
    cases s
    simp only [Option.map_some, Option.some.injEq, Prod.mk.injEq] at e
    exact ⟨_, by rw [e.1, e.2.1, e.2.2.1, e.2.2.2]⟩

theorem leftK : LeftO PySem.Challenge.pw_nu0222_01 vw looseNames (fun s => xlAt vw [] s && recOk [] s) (Hook.obs hookK) (Hook.val hookK) 3250 := fun w => by
  obtain ⟨os, e⟩ := opened (boot_open (p := PySem.Challenge.pw_nu0222_01) (N := 3250) (by kernel_rfl) (by rfl) (fun s => by kernel_rfl) w)
  unfold openEnds
  rw [e, Option.bind_some]
  unfold topFrom
  rw [PySem.W.Fast.te14082659384304107361, PySem.W.Fast.te14364793385576792824]
  kernel_rfl

noncomputable def nz : Value → Value
  | .int i _ => .int i 0
  | .str x _ => .str x 0
  | v => v

theorem nz_int {v : Value} {i : Int} {k : Tok} (h : nz v = .int i k) : ∃ t, v = .int i t := by
  cases v <;> simp [nz] at h <;> (obtain ⟨rfl, _⟩ := h; exact ⟨_, rfl⟩)
theorem nz_str {v : Value} {i : Str} {k : Tok} (h : nz v = .str i k) : ∃ t, v = .str i t := by
  cases v <;> simp [nz] at h <;> (obtain ⟨rfl, _⟩ := h; exact ⟨_, rfl⟩)
theorem nz_ref {v : Value} {a : Addr} (h : nz v = .ref a) : v = .ref a := by cases v <;> simp [nz] at h; rw [h]
theorem nz_bool {v : Value} {b : Bool} (h : nz v = .bool b) : v = .bool b := by cases v <;> simp [nz] at h; rw [h]
theorem nz_none {v : Value} (h : nz v = .none) : v = .none := by cases v <;> simp [nz] at h; rfl
theorem nz_nz (v : Value) : nz (nz v) = nz v := by cases v <;> rfl

inductive NO where
  | list (xs : List Value)
  | tup (xs : List Value)
  | inst (C d : Addr)
  | dct (m : List (Str × Value))
  | rng (a b c : Int)

noncomputable abbrev NH := Addr → Option NO
noncomputable def NH.set (σ : NH) (a : Addr) (o : NO) : NH := fun b => if b = a then some o else σ b
theorem NH.set_self (σ : NH) (a : Addr) (o : NO) : σ.set a o a = some o := if_pos rfl
theorem NH.set_ne (σ : NH) {a b : Addr} (o : NO) (h : b ≠ a) : σ.set a o b = σ b := if_neg h

noncomputable def DOk : List DictEntry → List (Str × Value) → Prop
  | [], [] => True
  | e :: es, p :: ps => ((∃ t, e.key = .str p.1 t) ∧ nz e.val = p.2) ∧ DOk es ps
  | _, _ => False

noncomputable def RO (ob : Obj) : NO → Prop
  | .list xs => ∃ items n, ob = { cls := .type "list", data := .seq items n } ∧ items.toList.map nz = xs
  | .tup xs => ∃ items n, ob = { cls := .type "tuple", data := .seq items n } ∧ items.toList.map nz = xs
  | .inst C d => ob = instObj C d
  | .dct m => ∃ es n, ob = dictOf es n ∧ DOk es m
  | .rng a b c => ∃ t u v, ob = { cls := .type "range", data := .fields #[.int a t, .int b u, .int c v] }

noncomputable abbrev KK (w : World) : Frag := heapK w.params

structure Base (w : World) (h : Heap) : Prop where
  X : (KK w).In h
  lim : h.NoLimit
  bi : ∃ mb, h.Ns builtinsNs mb ∧ ∀ x, x ≠ ("__name__" : Str) → mb x = bootBuiltins x
  ma : ∃ mg, h.Ns mainGlobals mg

structure Wd where
  w : World
  h0 : Heap
  os0 : OsState
  base : Base w h0

noncomputable abbrev Wd.M (W : Wd) : Model := model Challenge.pw_nu0222_01 W.w

structure Inv (W : Wd) (σ : NH) (s : Shared) : Prop where
  keep : ∀ b o, W.h0.get? b = some o → s.heap.get? b = some o
  rep : ∀ a o, σ a = some o → ∃ ob, s.heap.get? a = some ob ∧ RO ob o
  new : ∀ a o, σ a = some o → W.h0.get? a = none ∨ ∃ xs, o = .tup xs
  gens : s.gens = #[]
  os : s.os = W.os0

structure Stp (W : Wd) (X : Addr → Prop) (σ : NH) (s : Shared) (σ' : NH) (s' : Shared) : Prop where
  kept : ∀ b ob, ¬ X b → s.heap.get? b = some ob → W.h0.get? b = none → σ b = none → s'.heap.get? b = some ob ∧ σ' b = none

noncomputable abbrev noX : Addr → Prop := fun _ => False

theorem Stp.refl {W : Wd} {X : Addr → Prop} {σ : NH} {s : Shared} : Stp W X σ s σ s := ⟨fun _ _ _ h _ n => ⟨h, n⟩⟩
theorem Stp.trans {W : Wd} {X : Addr → Prop} {σ σ₁ σ₂ : NH} {s s₁ s₂ : Shared} (a : Stp W X σ s σ₁ s₁) (b : Stp W X σ₁ s₁ σ₂ s₂) : Stp W X σ s σ₂ s₂ :=
  ⟨fun c ob hx h h0 n => let ⟨x, y⟩ := a.kept c ob hx h h0 n; b.kept c ob hx x h0 y⟩
theorem Stp.weak {W : Wd} {X : Addr → Prop} {σ σ' : NH} {s s' : Shared} (a : Stp W noX σ s σ' s') : Stp W X σ s σ' s' := ⟨fun c ob _ h h0 n => a.kept c ob (fun h => h) h h0 n⟩

noncomputable def WP {α : Type} (W : Wd) (X : Addr → Prop) (A : Around) (t : Sem α) (σ : NH) (s : Shared) (Q : α → NH → Shared → Prop) : Prop :=
  wpAny W.M A t (fun v s' => ∃ σ', Inv W σ' s' ∧ Stp W X σ s σ' s' ∧ Q v σ' s') (fun _ _ => False) s

structure AOK (d : Nat) (A : Around) : Prop where
  hd : A.handled = none
  dep : A.depth + 3 * d ≤ 900
  un : A.units + 9 * d ≤ 9000

noncomputable abbrev Loc := List (Str × Value)

structure LOK (W : Wd) (env : Env) (ρ : Loc) (σ : NH) (s : Shared) : Prop where
  ns : ∃ m, s.heap.Ns env.locals m ∧ ∀ x v, ρ.lookup x = some v → env.kindOf x = some .local → ∃ u, m x = some u ∧ nz u = v
  lf : σ env.locals = none
  l0 : W.h0.get? env.locals = none
  cell : ∀ x, (env.kindOf x = some .cell ∨ env.kindOf x = some .free) → ∃ c cv, env.cells.lookup x = some c ∧ σ c = none ∧ W.h0.get? c = none ∧ s.heap.IsCell c cv ∧
    ∀ v, ρ.lookup x = some v → cv.map nz = some v
  inj : ∀ x y c, env.cells.lookup x = some c → env.cells.lookup y = some c → x = y
  fn : env.scope.kind = .function
  gl : env.globals = mainGlobals
  bn : env.builtins = builtinsNs

noncomputable def Own (env : Env) (b : Addr) : Prop := b = env.locals ∨ ∃ x, (env.kindOf x = some .cell ∨ env.kindOf x = some .free) ∧ env.cells.lookup x = some b

noncomputable def EC {α : Type} (W : Wd) (d : Nat) (env : Env) (t : Sem α) (ρ : Loc) (σ : NH) (Q : α → NH → Prop) : Prop :=
  ∀ A s, AOK d A → Inv W σ s → LOK W env ρ σ s → WP W noX A t σ s (fun v σ' _ => Q v σ')
noncomputable abbrev EV (W : Wd) (d : Nat) (env : Env) (t : Sem Value) (ρ : Loc) (σ : NH) (Q : Value → NH → Prop) : Prop := EC W d env t ρ σ (fun v σ' => Q (nz v) σ')

noncomputable def nzF : Flow → Flow
  | .ret v => .ret (nz v)
  | f => f

noncomputable def SC (W : Wd) (d : Nat) (env : Env) (t : Sem Flow) (ρ : Loc) (σ : NH) (Q : Flow → Loc → NH → Prop) : Prop :=
  ∀ A s, AOK d A → Inv W σ s → LOK W env ρ σ s → WP W (Own env) A t σ s (fun f σ' s' => ∃ ρ', LOK W env ρ' σ' s' ∧ Q (nzF f) ρ' σ')

noncomputable def AC (W : Wd) (d : Nat) (env : Env) (t : Value → Sem Unit) (x : Value) (ρ : Loc) (σ : NH) (Q : Loc → NH → Prop) : Prop :=
  ∀ A s v, AOK d A → Inv W σ s → LOK W env ρ σ s → nz v = x → WP W (Own env) A (t v) σ s (fun _ σ' s' => ∃ ρ', LOK W env ρ' σ' s' ∧ Q ρ' σ')

noncomputable def FC (W : Wd) (d : Nat) (f : Value) (args : List Value) (σ : NH) (Q : Value → NH → Prop) : Prop :=
  ∀ A s vs, AOK d A → Inv W σ s → vs.map nz = args → codeAny W.M A (.call f ⟨vs, []⟩) (fun r s' => ∃ v σ', r = .ok (.ret v) ∧ Inv W σ' s' ∧ Stp W noX σ s σ' s' ∧ Q (nz v) σ') s

noncomputable def OpV (W : Wd) (d : Nat) (f : Value → Value → Sem Value) (x y : Value) (σ : NH) (Q : Value → NH → Prop) : Prop :=
  ∀ A s v u, AOK d A → Inv W σ s → nz v = x → nz u = y → WP W noX A (f v u) σ s (fun r σ' _ => Q (nz r) σ')

noncomputable def TV (W : Wd) (d : Nat) (x : Value) (σ : NH) (Q : Bool → NH → Prop) : Prop :=
  ∀ A s v, AOK d A → Inv W σ s → nz v = x → WP W noX A (truthy v) σ s (fun r σ' _ => Q r σ')

theorem LOK.stpX {W : Wd} {X : Addr → Prop} {env : Env} {ρ : Loc} {σ σ' : NH} {s s' : Shared} (x : LOK W env ρ σ s) (p : Stp W X σ s σ' s') (hX : ∀ b, Own env b → ¬ X b) : LOK W env ρ σ' s' := by
  obtain ⟨⟨m, hn, hm⟩, lf, l0, cell, inj, fn, gl, bn⟩ := x
  obtain ⟨o, es, ep, ho, r⟩ := hn
  obtain ⟨k1, k2⟩ := p.kept _ _ (hX _ (.inl rfl)) ho l0 lf
  refine ⟨⟨m, ⟨o, es, ep, k1, r⟩, hm⟩, k2, l0, fun y hy => ?_, inj, fn, gl, bn⟩
  obtain ⟨c, cv, h1, h2, h3, ⟨oc, hoc, hd⟩, h5⟩ := cell y hy
  obtain ⟨q1, q2⟩ := p.kept _ _ (hX _ (.inr ⟨y, hy, h1⟩)) hoc h3 h2
  exact ⟨c, cv, h1, q2, h3, ⟨oc, q1, hd⟩, h5⟩
theorem LOK.stp {W : Wd} {env : Env} {ρ : Loc} {σ σ' : NH} {s s' : Shared} (x : LOK W env ρ σ s) (p : Stp W noX σ s σ' s') : LOK W env ρ σ' s' := x.stpX p fun _ _ h => h

section
variable {W : Wd} {X : Addr → Prop} {A : Around} {α β : Type} {σ : NH} {s : Shared} {d : Nat} {env : Env} {ρ : Loc}

theorem WP.pure {a : α} {Q : α → NH → Shared → Prop} (i : Inv W σ s) (h : Q a σ s) : WP W X A (Pure.pure a) σ s Q := wpAny_pure ⟨σ, i, .refl, h⟩

theorem WP.mono {t : Sem α} {Q Q' : α → NH → Shared → Prop} (h : WP W X A t σ s Q) (k : ∀ a σ' s', Inv W σ' s' → Stp W X σ s σ' s' → Q a σ' s' → Q' a σ' s') : WP W X A t σ s Q' :=
  wpAny_mono h (fun a s' ⟨σ', i, p, q⟩ => ⟨σ', i, p, k a σ' s' i p q⟩) fun _ _ x => x
theorem WP.weak {t : Sem α} {Q : α → NH → Shared → Prop} (h : WP W noX A t σ s Q) : WP W X A t σ s Q :=
  wpAny_mono h (fun a s' ⟨σ', i, p, q⟩ => ⟨σ', i, p.weak, q⟩) fun _ _ x => x

theorem WP.seq {t : Sem α} {f : α → Sem β} {Q : α → NH → Shared → Prop} {Q' : β → NH → Shared → Prop} (h : WP W X A t σ s Q)
    (k : ∀ a σ' s', Inv W σ' s' → Stp W X σ s σ' s' → Q a σ' s' → WP W X A (f a) σ' s' Q') : WP W X A (t >>= f) σ s Q' :=
  wpAny_bind (wpAny_mono h (fun a s' ⟨σ', i, p, q⟩ => wpAny_mono (k a σ' s' i p q) (fun b s'' ⟨σ'', i', p', q'⟩ => ⟨σ'', i', p.trans p', q'⟩) fun _ _ x => x) fun _ _ x => x)

theorem WP.then {t : Sem α} {Q : α → NH → Shared → Prop} {P : α → Shared → Prop} (h : WP W X A t σ s Q)
    (k : ∀ a σ' s', Inv W σ' s' → Stp W X σ s σ' s' → Q a σ' s' → P a s') : wpAny W.M A t P (fun _ _ => False) s :=
  wpAny_mono h (fun a s' ⟨σ', i, p, q⟩ => k a σ' s' i p q) fun _ _ x => x
theorem WP.after {σ₀ : NH} {s₀ : Shared} {t : Sem α} {Q : α → NH → Shared → Prop} (p₀ : Stp W X σ₀ s₀ σ s) (h : WP W X A t σ s Q) :
    wpAny W.M A t (fun v s' => ∃ σ', Inv W σ' s' ∧ Stp W X σ₀ s₀ σ' s' ∧ Q v σ' s') (fun _ _ => False) s :=
  wpAny_mono h (fun a s' ⟨σ', i, p, q⟩ => ⟨σ', i, p₀.trans p, q⟩) fun _ _ x => x

theorem EC.mono {t : Sem α} {Q Q' : α → NH → Prop} (h : EC W d env t ρ σ Q) (k : ∀ a σ', Q a σ' → Q' a σ') : EC W d env t ρ σ Q' :=
  fun A s a i l => (h A s a i l).mono fun v σ' _ _ _ q => k v σ' q
theorem SC.mono {t : Sem Flow} {Q Q' : Flow → Loc → NH → Prop} (h : SC W d env t ρ σ Q) (k : ∀ a ρ' σ', Q a ρ' σ' → Q' a ρ' σ') : SC W d env t ρ σ Q' :=
  fun A s a i l => (h A s a i l).mono fun v σ' _ _ _ ⟨ρ', l', q⟩ => ⟨ρ', l', k _ _ _ q⟩
theorem FC.mono {f : Value} {args : List Value} {Q Q' : Value → NH → Prop} (h : FC W d f args σ Q) (k : ∀ a σ', Q a σ' → Q' a σ') : FC W d f args σ Q' :=
  fun A s vs a i e => codeAny_mono (h A s vs a i e) fun _ _ ⟨v, σ', e, i, p, q⟩ => ⟨v, σ', e, i, p, k _ _ q⟩

theorem AOK.le {d d' : Nat} {A : Around} (h : AOK d A) (k : d' ≤ d) : AOK d' A := ⟨h.hd, by have := h.dep; omega, by have := h.un; omega⟩

noncomputable def NH.le (σ σ' : NH) : Prop := ∀ a o, σ a = some o → σ' a = some o
theorem NH.le_refl (σ : NH) : σ.le σ := fun _ _ h => h
theorem NH.le_trans {a b c : NH} (h : a.le b) (k : b.le c) : a.le c := fun x o e => k x o (h x o e)
theorem NH.le_set (σ : NH) {a : Addr} (o : NO) (h : σ a = none) : σ.le (σ.set a o) := fun b x e => by
  rw [NH.set_ne _ _ (by rintro rfl; rw [h] at e; cases e)]; exact e
theorem NH.le_none {σ σ' : NH} (h : σ.le σ') {b : Addr} (e : σ' b = none) : σ b = none := by
  cases q : σ b with
  | none => rfl
  | some o => rw [h b o q] at e; cases e
theorem Inv.drop {σ' : NH} (i : Inv W σ' s) (h : σ.le σ') : Inv W σ s := ⟨i.keep, fun a o e => i.rep a o (h a o e), fun a o e => i.new a o (h a o e), i.gens, i.os⟩
theorem Stp.drop {σ' τ : NH} {s' : Shared} (p : Stp W X σ s σ' s') (h : τ.le σ') : Stp W X σ s τ s' := ⟨fun b ob hx e h0 n =>
  let ⟨x, y⟩ := p.kept b ob hx e h0 n; ⟨x, NH.le_none h y⟩⟩
theorem LOK.drop {σ' : NH} (l : LOK W env ρ σ' s) (h : σ.le σ') : LOK W env ρ σ s :=
  ⟨l.ns, NH.le_none h l.lf, l.l0, fun x hx => let ⟨c, cv, h1, h2, h3⟩ := l.cell x hx; ⟨c, cv, h1, NH.le_none h h2, h3⟩, l.inj, l.fn, l.gl, l.bn⟩
theorem EC.forget {t : Sem α} {Q : α → NH → Prop} (h : EC W d env t ρ σ (fun v σ' => ∃ τ : NH, τ.le σ' ∧ Q v τ)) : EC W d env t ρ σ Q :=
  fun A s a i l => wpAny_mono (h A s a i l) (fun v s' ⟨σ', i', p, τ, hle, q⟩ => ⟨τ, i'.drop hle, p.drop hle, q⟩) fun _ _ x => x
theorem FC.forget {f : Value} {args : List Value} {Q : Value → NH → Prop} (h : FC W d f args σ (fun v σ' => ∃ τ : NH, τ.le σ' ∧ Q v τ)) : FC W d f args σ Q :=
  fun A s vs a i e => codeAny_mono (h A s vs a i e) fun _ _ ⟨v, σ', e, i', p, τ, hle, q⟩ => ⟨v, τ, e, i'.drop hle, p.drop hle, q⟩
theorem SC.forget {t : Sem Flow} {Q : Flow → Loc → NH → Prop} (h : SC W d env t ρ σ (fun v ρ' σ' => ∃ τ : NH, τ.le σ' ∧ Q v ρ' τ)) : SC W d env t ρ σ Q :=
  fun A s a i l => wpAny_mono (h A s a i l) (fun v s' ⟨σ', i', p, ρ', l', τ, hle, q⟩ => ⟨τ, i'.drop hle, p.drop hle, ρ', l'.drop hle, q⟩) fun _ _ x => x

noncomputable def Sub (ρ : Loc) (l : Loc) : Prop := ∀ p ∈ l, ρ.lookup p.1 = some p.2
theorem Sub.look {ρ l : Loc} (h : Sub ρ l) : ∀ {x : Str} {v : Value}, l.lookup x = some v → ρ.lookup x = some v := by
  intro x v e
  exact h (x, v) (mem_of_lookup e)
theorem LOK.sub {l : Loc} (x : LOK W env ρ σ s) (h : Sub ρ l) : LOK W env l σ s :=
  ⟨let ⟨m, hn, hm⟩ := x.ns; ⟨m, hn, fun y v e k => hm y v (h.look e) k⟩, x.lf, x.l0, fun y hy => let ⟨c, cv, h1, h2, h3, h4, h5⟩ := x.cell y hy; ⟨c, cv, h1, h2, h3, h4, fun v e => h5 v (h.look e)⟩, x.inj, x.fn, x.gl, x.bn⟩
theorem SC.sub {l : Loc} {t : Sem Flow} {Q : Flow → Loc → NH → Prop} (h : Sub ρ l) (k : SC W d env t l σ Q) : SC W d env t ρ σ Q := fun A s a i x => k A s a i (x.sub h)
theorem Sub.nil {ρ : Loc} : Sub ρ [] := fun _ h => nomatch h
theorem Sub.cons {ρ l : Loc} {x : Str} {v : Value} (h : ρ.lookup x = some v) (k : Sub ρ l) : Sub ρ ((x, v) :: l) := fun p hp => by
  rcases List.mem_cons.mp hp with rfl | hp
  · exact h
  · exact k p hp

theorem Inv.same {h' : Heap} {tk : Nat} (i : Inv W σ s) (k : ∀ b o, s.heap.get? b = some o → (W.h0.get? b ≠ none ∨ σ b ≠ none) → h'.get? b = some o) : Inv W σ { s with heap := h', toks := tk } :=
  ⟨fun b o e => k b o (i.keep b o e) (.inl (by rw [e]; exact Option.some_ne_none _)), fun a o e => by
    obtain ⟨ob, h1, h2⟩ := i.rep a o e
    exact ⟨ob, k a ob h1 (.inr (by rw [e]; exact Option.some_ne_none _)), h2⟩, i.new, i.gens, i.os⟩
theorem Stp.same {h' : Heap} {tk : Nat} (k : ∀ b o, ¬ X b → s.heap.get? b = some o → h'.get? b = some o) : Stp W X σ s σ { s with heap := h', toks := tk } :=
  ⟨fun b ob hx e _ n => ⟨k b ob hx e, n⟩⟩
theorem Inv.fresh (i : Inv W σ s) : σ s.heap.objs.size = none ∧ W.h0.get? s.heap.objs.size = none := by
  constructor
  · cases q : σ s.heap.objs.size with
    | none => rfl
    | some o => obtain ⟨ob, h1, _⟩ := i.rep _ _ q; exact absurd (Heap.lt_size h1) (Nat.lt_irrefl _)
  · cases q : W.h0.get? s.heap.objs.size with
    | none => rfl
    | some o => exact absurd (Heap.lt_size (i.keep _ _ q)) (Nat.lt_irrefl _)
theorem Inv.push {o : NO} {ob : Obj} {tk : Nat} (i : Inv W σ s) (r : RO ob o) (hf : ob.isFreed = false) : Inv W (σ.set s.heap.objs.size o) { s with heap := s.heap.push ob, toks := tk } := by
  refine ⟨fun b o e => Heap.get?_push_of_some _ (i.keep b o e), fun a o' e => ?_, fun a o' e => ?_, i.gens, i.os⟩
  · by_cases h : a = s.heap.objs.size
    · subst h; rw [NH.set_self] at e; cases e; exact ⟨ob, Heap.get?_push_size _ hf, r⟩
    · rw [NH.set_ne _ _ h] at e
      obtain ⟨ob', h1, h2⟩ := i.rep _ _ e
      exact ⟨ob', Heap.get?_push_of_some _ h1, h2⟩
  · by_cases h : a = s.heap.objs.size
    · subst h; exact .inl i.fresh.2
    · rw [NH.set_ne _ _ h] at e; exact i.new _ _ e
theorem Stp.push {o : NO} {ob : Obj} {tk : Nat} : Stp W X σ s (σ.set s.heap.objs.size o) { s with heap := s.heap.push ob, toks := tk } :=
  ⟨fun b ob' _ e _ n => ⟨Heap.get?_push_of_some _ e, by rw [NH.set_ne _ _ (Nat.ne_of_lt (Heap.lt_size e))]; exact n⟩⟩
theorem Inv.upd {a : Addr} {o o' : NO} {ob : Obj} {f : Obj → Obj} {tk : Nat} (i : Inv W σ s) (ha : σ a = some o) (hn : ∀ xs, o ≠ .tup xs) (hob : s.heap.get? a = some ob) (r : RO (f ob) o') (hf : (f ob).isFreed = false) :
    Inv W (σ.set a o') { s with heap := s.heap.update a f, toks := tk } := by
  have h0 : W.h0.get? a = none := by
    rcases i.new a o ha with h | ⟨xs, h⟩
    · exact h
    · exact absurd h (hn xs)
  refine ⟨fun b o e => ?_, fun b o₁ e => ?_, fun b o₁ e => ?_, i.gens, i.os⟩
  · show (s.heap.update a f).get? b = _
    rw [Heap.get?_update_other _ _ (by rintro rfl; rw [h0] at e; cases e)]; exact i.keep b o e
  · by_cases h : b = a
    · subst h; rw [NH.set_self] at e; cases e; exact ⟨f ob, Heap.get?_update_self _ hob hf, r⟩
    · rw [NH.set_ne _ _ h] at e
      obtain ⟨ob', h1, h2⟩ := i.rep _ _ e
      exact ⟨ob', by show (s.heap.update a f).get? b = _; rw [Heap.get?_update_other _ _ (Ne.symm h)]; exact h1, h2⟩
  · by_cases h : b = a
    · subst h; exact .inl h0
    · rw [NH.set_ne _ _ h] at e; exact i.new _ _ e
theorem Stp.upd {a : Addr} {o o' : NO} {f : Obj → Obj} {tk : Nat} (ha : σ a = some o) : Stp W X σ s (σ.set a o') { s with heap := s.heap.update a f, toks := tk } :=
  ⟨fun b ob _ e _ n => by
    have hne : b ≠ a := by rintro rfl; rw [ha] at n; cases n
    exact ⟨by show (s.heap.update a f).get? b = _; rw [Heap.get?_update_other _ _ (Ne.symm hne)]; exact e, by rw [NH.set_ne _ _ hne]; exact n⟩⟩
theorem Stp.tok {tk : Nat} : Stp W X σ s σ { s with toks := tk } := ⟨fun b ob _ e _ n => ⟨e, n⟩⟩
theorem Inv.tok {tk : Nat} (i : Inv W σ s) : Inv W σ { s with toks := tk } := ⟨i.keep, i.rep, i.new, i.gens, i.os⟩
end

set_option autoImplicit false
section
variable {W : Wd} {X : Addr → Prop} {A : Around} {σ : NH} {s : Shared} {d : Nat} {env : Env} {ρ : Loc} {Q : Value → NH → Prop}

theorem EV_local {x : Str} {pos : Pos} {v : Value} (hk : env.kindOf x = some .local) (hv : ρ.lookup x = some v) (h : Q v σ) (hd : (x == ("__debug__" : Str)) = false := by decide) :
    EV W d env (eval (.Name x pos) env) ρ σ Q := by
  intro A s a i l
  obtain ⟨m, hn, hm⟩ := l.ns
  obtain ⟨u, hu, rfl⟩ := hm x v hv hk
  exact wpAny_Name (wpAny_loadName_local l.fn hk hn hu ⟨σ, i, .refl, h⟩) hd
theorem EV_cell {x : Str} {pos : Pos} {v : Value} (hk : env.kindOf x = some .cell) (hv : ρ.lookup x = some v) (h : Q v σ) (hd : (x == ("__debug__" : Str)) = false := by decide) :
    EV W d env (eval (.Name x pos) env) ρ σ Q := by
  intro A s a i l
  obtain ⟨c, cv, h1, h2, h3, h4, h5⟩ := l.cell x (.inl hk)
  have := h5 v hv
  cases cv with
  | none => cases this
  | some u => cases this; exact wpAny_Name (wpAny_loadName_cell l.fn hk h1 h4 ⟨σ, i, .refl, h⟩) hd
theorem EV_free {x : Str} {pos : Pos} {v : Value} (hk : env.kindOf x = some .free) (hv : ρ.lookup x = some v) (h : Q v σ) (hd : (x == ("__debug__" : Str)) = false := by decide) (hn : (x == ("__classdict__" : Str)) = false := by decide) :
    EV W d env (eval (.Name x pos) env) ρ σ Q := by
  intro A s a i l
  obtain ⟨c, cv, h1, h2, h3, h4, h5⟩ := l.cell x (.inr hk)
  have := h5 v hv
  cases cv with
  | none => cases this
  | some u => cases this; exact wpAny_Name (wpAny_loadName_free l.fn hk h1 h4 ⟨σ, i, .refl, h⟩ hn) hd
theorem EV_global {x : Str} {pos : Pos} {v : Value} (hk : env.kindOf x = some .globalImplicit) (hg : nsIn (KK W.w) mainGlobals x = some (some v)) (h : Q (nz v) σ) (hd : (x == ("__debug__" : Str)) = false := by decide) :
    EV W d env (eval (.Name x pos) env) ρ σ Q := by
  intro A s a i l
  obtain ⟨mg, hG⟩ := W.base.ma
  have e := mg_of W.base.X hG hg
  exact Calls.Name_function_global l.fn hk (Calls.loadGlobal_global (l.gl ▸ hG.keeps i.keep) e ⟨σ, i, .refl, h⟩) hd
theorem EV_builtin {x : Str} {pos : Pos} {v : Value} (hk : env.kindOf x = some .globalImplicit) (hg : nsIn (KK W.w) mainGlobals x = some none) (hb : bootBuiltins x = some v) (h : Q (nz v) σ)
    (hn : x ≠ ("__name__" : Str) := by decide) (hd : (x == ("__debug__" : Str)) = false := by decide) : EV W d env (eval (.Name x pos) env) ρ σ Q := by
  intro A s a i l
  obtain ⟨mg, hG⟩ := W.base.ma
  obtain ⟨mb, hB, hbb⟩ := W.base.bi
  have e := mg_none_of W.base.X hG hg
  exact Calls.Name_function_global l.fn hk (Calls.loadGlobal_builtin (l.gl ▸ hG.keeps i.keep) e (l.bn ▸ hB.keeps i.keep) ((hbb x hn).trans hb) ⟨σ, i, .refl, h⟩) hd
theorem EV_int {i : Int} {k : Nat} {pos : Pos} (h : Q (.int i 0) σ) : EV W d env (eval (.Constant (.int i) k pos) env) ρ σ Q := fun A s a i' l => wpAny_Constant_int ⟨σ, i'.tok, .tok, h⟩
theorem EV_str {x : Str} {k : Nat} {pos : Pos} (h : Q (.str x 0) σ) : EV W d env (eval (.Constant (.str x) k pos) env) ρ σ Q := fun A s a i' l => wpAny_Constant_str ⟨σ, i'.tok, .tok, h⟩
theorem EV_bool {b : Bool} {k : Nat} {pos : Pos} (h : Q (.bool b) σ) : EV W d env (eval (.Constant (.bool b) k pos) env) ρ σ Q := fun A s a i' l => wpAny_Constant_bool ⟨σ, i', .refl, h⟩

theorem EV_bin {l r : Expr} {op : Operator} {pos : Pos} (h : EV W d env (eval l env) ρ σ (fun x σ₁ => EV W d env (eval r env) ρ σ₁ (fun y σ₂ => OpV W d (binaryOp op) x y σ₂ Q))) :
    EV W d env (eval (.BinOp l op r pos) env) ρ σ Q := fun A s a i lo =>
  wpAny_BinOp ((h A s a i lo).then fun v σ₁ s₁ i₁ p₁ q₁ => (q₁ A s₁ a i₁ (lo.stp p₁)).then fun u σ₂ s₂ i₂ p₂ q₂ => (q₂ A s₂ v u a i₂ rfl rfl).after (p₁.trans p₂))
theorem EV_cmp {l r : Expr} {op : CmpOp} {pos : Pos} (h : EV W d env (eval l env) ρ σ (fun x σ₁ => EV W d env (eval r env) ρ σ₁ (fun y σ₂ => OpV W d (compareOp op) x y σ₂ Q)))
    (hm : behindInMarks op r = false := by with_unfolding_all rfl) : EV W d env (eval (.Compare l [op] [r] pos) env) ρ σ Q := fun A s a i lo =>
  wpAny_Compare1 ((h A s a i lo).then fun v σ₁ s₁ i₁ p₁ q₁ => (q₁ A s₁ a i₁ (lo.stp p₁)).then fun u σ₂ s₂ i₂ p₂ q₂ => (q₂ A s₂ v u a i₂ rfl rfl).after (p₁.trans p₂)) hm

theorem OpV_ints {f : Value → Value → Sem Value} {i j : Int} (h : ∀ A s t u, AOK d A → Inv W σ s → WP W noX A (f (.int i t) (.int j u)) σ s (fun r σ' _ => Q (nz r) σ')) : OpV W d f (.int i 0) (.int j 0) σ Q := by
  intro A s v u a iv hv hu
  obtain ⟨t, rfl⟩ := nz_int hv
  obtain ⟨t', rfl⟩ := nz_int hu
  exact h A s t t' a iv
theorem op_add {i j : Int} (h : Q (.int (i + j) 0) σ) : OpV W d (binaryOp .Add) (.int i 0) (.int j 0) σ Q := OpV_ints fun A s t u a iv => PyProof.Rows.add_int ⟨σ, iv.tok, .tok, h⟩
theorem op_sub {i j : Int} (h : Q (.int (i - j) 0) σ) : OpV W d (binaryOp .Sub) (.int i 0) (.int j 0) σ Q := OpV_ints fun A s t u a iv => PyProof.Rows.sub_int' ⟨σ, iv.tok, .tok, h⟩
theorem op_mul {i j : Int} (hm : IntMulOk i j) (h : Q (.int (i * j) 0) σ) : OpV W d (binaryOp .Mult) (.int i 0) (.int j 0) σ Q := OpV_ints fun A s t u a iv => PyProof.Rows.mul_int ⟨σ, iv.tok, .tok, h⟩ hm
theorem op_mod {i j : Int} (hj : j ≠ 0) (h : Q (.int (i.fmod j) 0) σ) : OpV W d (binaryOp .Mod) (.int i 0) (.int j 0) σ Q := OpV_ints fun A s t u a iv => PyProof.Rows.mod_int' hj ⟨σ, iv.tok, .tok, h⟩
theorem op_fdiv {i j : Int} (hj : j ≠ 0) (hs : j.natAbs < 1073741824) (h : Q (.int (i.fdiv j) 0) σ) : OpV W d (binaryOp .FloorDiv) (.int i 0) (.int j 0) σ Q :=
  OpV_ints fun A s t u a iv => PyProof.Rows.floordiv_int hj ⟨σ, iv.tok, .tok, h⟩ (.inl (PyProof.noPylong_small hs))
theorem op_pow {i j : Int} (hj : 0 ≤ j) (hs : (Builtin.Int.intBits i : Int) * j ≤ 2 ^ 27) (h : Q (.int (i ^ j.toNat) 0) σ) : OpV W d (binaryOp .Pow) (.int i 0) (.int j 0) σ Q :=
  OpV_ints fun A s t u a iv => PyProof.Rows.pow_int hj hs ⟨σ, iv.tok, .tok, h⟩
theorem op_eq {i j : Int} (h : Q (.bool (i == j)) σ) : OpV W d (compareOp .Eq) (.int i 0) (.int j 0) σ Q := OpV_ints fun A s t u a iv => PyProof.Rows.eq_int ⟨σ, iv, .refl, h⟩
theorem op_ne {i j : Int} (h : Q (.bool (i != j)) σ) : OpV W d (compareOp .NotEq) (.int i 0) (.int j 0) σ Q := OpV_ints fun A s t u a iv => PyProof.Rows.ne_int ⟨σ, iv, .refl, h⟩
theorem op_lt {i j : Int} (h : Q (.bool (decide (i < j))) σ) : OpV W d (compareOp .Lt) (.int i 0) (.int j 0) σ Q := OpV_ints fun A s t u a iv => PyProof.Rows.lt_int ⟨σ, iv, .refl, h⟩
theorem op_le {i j : Int} (h : Q (.bool (decide (i ≤ j))) σ) : OpV W d (compareOp .LtE) (.int i 0) (.int j 0) σ Q := OpV_ints fun A s t u a iv => PyProof.Rows.le_int ⟨σ, iv, .refl, h⟩
theorem op_gt {i j : Int} (h : Q (.bool (decide (j < i))) σ) : OpV W d (compareOp .Gt) (.int i 0) (.int j 0) σ Q := OpV_ints fun A s t u a iv => PyProof.Rows.gt_int ⟨σ, iv, .refl, h⟩
theorem OpV_strs {f : Value → Value → Sem Value} {i j : Str} (h : ∀ A s t u, AOK d A → Inv W σ s → WP W noX A (f (.str i t) (.str j u)) σ s (fun r σ' _ => Q (nz r) σ')) : OpV W d f (.str i 0) (.str j 0) σ Q := by
  intro A s v u a iv hv hu
  obtain ⟨t, rfl⟩ := nz_str hv
  obtain ⟨t', rfl⟩ := nz_str hu
  exact h A s t t' a iv
theorem op_eqs {i j : Str} (h : Q (.bool (i == j)) σ) : OpV W d (compareOp .Eq) (.str i 0) (.str j 0) σ Q := OpV_strs fun A s t u a iv => PyProof.Rows.eq_str ⟨σ, iv, .refl, h⟩
theorem op_nes {i j : Str} (h : Q (.bool (i != j)) σ) : OpV W d (compareOp .NotEq) (.str i 0) (.str j 0) σ Q := OpV_strs fun A s t u a iv => PyProof.Rows.ne_str ⟨σ, iv, .refl, h⟩

noncomputable def simpleEq : Value → Value → Option Bool
  | .int i _, .int j _ => some (i == j)
  | .str i _, .str j _ => some (i == j)
  | _, _ => none
theorem eqAt_simple {y x : Value} {b : Bool} (h : simpleEq (nz y) (nz x) = some b) (A : Around) (s : Shared) : EqAt A s y x b := by
  cases y <;> cases x <;> simp only [nz, simpleEq, reduceCtorEq] at h
  · cases h
    intro prog w E Q hq
    unfold eqBool
    refine wpAny_holding (wpAny_ite_split (fun hab => ?_) (fun _ => ?_))
    · have e := eq_of_beq hab
      cases e
      exact wpAny_bind (wpAny_rule (wpAny_pure (by simpa using hq)))
    · exact wpAny_bind (show wpAny _ A (compareOp .Eq _ _) _ _ _ from PyProof.Rows.eq_int (wpAny_truthy_bool hq))
  · cases h
    intro prog w E Q hq
    unfold eqBool
    refine wpAny_holding (wpAny_ite_split (fun hab => ?_) (fun _ => ?_))
    · have e := eq_of_beq hab
      cases e
      exact wpAny_bind (wpAny_rule (wpAny_pure (by simpa using hq)))
    · exact wpAny_bind (show wpAny _ A (compareOp .Eq _ _) _ _ _ from PyProof.Rows.eq_str (wpAny_truthy_bool hq))

theorem Inv.list {a : Addr} {xs : List Value} (i : Inv W σ s) (h : σ a = some (.list xs)) : ∃ items n, s.heap.get? a = some (listOf items n) ∧ items.toList.map nz = xs := by
  obtain ⟨ob, h1, items, n, rfl, h2⟩ := i.rep a _ h
  exact ⟨items, n, h1, h2⟩
theorem Inv.tuple {a : Addr} {xs : List Value} (i : Inv W σ s) (h : σ a = some (.tup xs)) : ∃ items n, s.heap.get? a = some { cls := .type "tuple", data := .seq items n } ∧ items.toList.map nz = xs := by
  obtain ⟨ob, h1, items, n, rfl, h2⟩ := i.rep a _ h
  exact ⟨items, n, h1, h2⟩
theorem any_nz {items : Array Value} {e : Value → Bool} {xs : List Value} (h : items.toList.map nz = xs) (k : ∀ v, e v = e (nz v)) : items.any e = xs.any e := by
  rw [← Array.any_toList, ← h, List.any_map]
  congr 1
  funext v
  exact k v
noncomputable def eqb (x : Value) (y : Value) : Bool := (simpleEq (nz y) (nz x)).getD false
theorem eqb_nz (x v : Value) : eqb x v = eqb x (nz v) := by unfold eqb; rw [nz_nz]
theorem eqAt_of {A : Around} {s : Shared} {y x : Value} (h : (simpleEq (nz y) (nz x)).isSome = true) : EqAt A s y x (eqb x y) := by
  obtain ⟨b, hb⟩ := Option.isSome_iff_exists.mp h
  have : eqb x y = b := by unfold eqb; rw [hb]; rfl
  rw [this]; exact eqAt_simple hb A s
theorem op_in_tup {x : Value} {a : Addr} {xs : List Value} (ha : σ a = some (.tup xs)) (hs : ∀ y ∈ xs, (simpleEq y x).isSome = true) (hx : nz x = x) (h : Q (.bool (xs.any (eqb x))) σ) : OpV W d (compareOp .In) x (.ref a) σ Q := by
  intro A s v u ao i hv hu
  obtain ⟨items, n, h1, h2⟩ := i.tuple ha
  rw [nz_ref hu]
  refine in_tupleAt (fun y => eqb v y) ⟨_, h1, rfl, n, rfl⟩ (fun y hy => eqAt_of ?_) ⟨σ, i, .refl, ?_⟩
  · rw [hv]; exact hs _ (h2 ▸ List.mem_map_of_mem (Array.mem_toList_iff.mpr hy))
  · rw [any_nz h2 (eqb_nz v)]
    have : eqb v = eqb x := by funext y; unfold eqb; rw [hv, hx]
    rw [this]; exact h
theorem op_in_list {x : Value} {a : Addr} {xs : List Value} (ha : σ a = some (.list xs)) (hs : ∀ y ∈ xs, (simpleEq y x).isSome = true) (hx : nz x = x) (h : Q (.bool (xs.any (eqb x))) σ) : OpV W d (compareOp .In) x (.ref a) σ Q := by
  intro A s v u ao i hv hu
  obtain ⟨items, n, h1, h2⟩ := i.list ha
  rw [nz_ref hu]
  refine in_listAt (fun y => eqb v y) ⟨_, h1, rfl, n, rfl⟩ (fun y hy => eqAt_of ?_) ⟨σ, i, .refl, ?_⟩
  · rw [hv]; exact hs _ (h2 ▸ List.mem_map_of_mem (Array.mem_toList_iff.mpr hy))
  · rw [any_nz h2 (eqb_nz v)]
    have : eqb v = eqb x := by funext y; unfold eqb; rw [hv, hx]
    rw [this]; exact h
theorem op_notin_list {x : Value} {a : Addr} {xs : List Value} (ha : σ a = some (.list xs)) (hs : ∀ y ∈ xs, (simpleEq y x).isSome = true) (hx : nz x = x) (h : Q (.bool (!xs.any (eqb x))) σ) : OpV W d (compareOp .NotIn) x (.ref a) σ Q := by
  intro A s v u ao i hv hu
  obtain ⟨items, n, h1, h2⟩ := i.list ha
  rw [nz_ref hu]
  refine notIn_listAt (fun y => eqb v y) ⟨_, h1, rfl, n, rfl⟩ (fun y hy => eqAt_of ?_) ⟨σ, i, .refl, ?_⟩
  · rw [hv]; exact hs _ (h2 ▸ List.mem_map_of_mem (Array.mem_toList_iff.mpr hy))
  · rw [any_nz h2 (eqb_nz v)]
    have : eqb v = eqb x := by funext y; unfold eqb; rw [hv, hx]
    rw [this]; exact h
end

section
variable {W : Wd} {X : Addr → Prop} {A : Around} {σ : NH} {s : Shared} {d : Nat} {env : Env} {ρ : Loc} {Q : Value → NH → Prop} {P : Bool → NH → Prop}

theorem TV_bool {b : Bool} (h : P b σ) : TV W d (.bool b) σ P := fun A s v a i hv => by
  rw [nz_bool hv]; exact wpAny_truthy_bool ⟨σ, i, .refl, h⟩
theorem TV_int {k : Int} (h : P (k != 0) σ) : TV W d (.int k 0) σ P := fun A s v a i hv => by
  obtain ⟨t, rfl⟩ := nz_int hv
  exact PyProof.Rows.truthy_int ⟨σ, i, .refl, h⟩
theorem TV_list {l : Addr} {xs : List Value} (hl : σ l = some (.list xs)) (hs : xs.length < 1000000) (h : P (!xs.isEmpty) σ) : TV W d (.ref l) σ P := fun A s v a i hv => by
  rw [nz_ref hv]
  obtain ⟨items, n, h1, rfl⟩ := i.list hl
  have e : items.size = (items.toList.map nz).length := by simp
  refine wpAny_truthy_list ⟨_, h1, rfl, n, rfl⟩ (by rw [e]; omega) ⟨σ, i.tok, .tok, ?_⟩
  have e2 : items.isEmpty = (items.toList.map nz).isEmpty := by
    obtain ⟨l⟩ := items
    simp
  rw [e2]; exact h

noncomputable abbrev BC (W : Wd) (d : Nat) (env : Env) (e : Expr) (ρ : Loc) (σ : NH) (P : Bool → NH → Prop) : Prop := EC W d env (isTrue e env (eval e env)) ρ σ P

theorem BC_cmp {l r : Expr} {op : CmpOp} {pos : Pos} (h : EV W d env (eval l env) ρ σ (fun x σ₁ => EV W d env (eval r env) ρ σ₁ (fun y σ₂ => OpV W d (compareOp op) x y σ₂ (fun c σ₃ => TV W d c σ₃ P))))
    (hm : behindInMarks op r = false := by with_unfolding_all rfl) : BC W d env (.Compare l [op] [r] pos) ρ σ P := fun A s a i lo =>
  wpAny_isTrue_Compare1 ((h A s a i lo).then fun v σ₁ s₁ i₁ p₁ q₁ => (q₁ A s₁ a i₁ (lo.stp p₁)).then fun u σ₂ s₂ i₂ p₂ q₂ => (q₂ A s₂ v u a i₂ rfl rfl).then fun c σ₃ s₃ i₃ p₃ q₃ =>
    (q₃ A s₃ c a i₃ rfl).after ((p₁.trans p₂).trans p₃)) hm
theorem BC_chain {l r r' : Expr} {op op' : CmpOp} {pos : Pos} (h : EV W d env (eval l env) ρ σ (fun x σ₁ => EV W d env (eval r env) ρ σ₁ (fun y σ₂ => OpV W d (compareOp op) x y σ₂ (fun c σ₃ => TV W d c σ₃ (fun b σ₄ =>
      if b then EV W d env (eval r' env) ρ σ₄ (fun z σ₅ => OpV W d (compareOp op') y z σ₅ (fun c' σ₆ => TV W d c' σ₆ P)) else P false σ₄)))))
    (hm : lastMarks [op, op'] [r, r'] = false := by with_unfolding_all rfl) : BC W d env (.Compare l [op, op'] [r, r'] pos) ρ σ P := fun A s a i lo => by
  refine isTrue_chain ((h A s a i lo).then fun v σ₁ s₁ i₁ p₁ q₁ => test_link ?_) hm
  refine (q₁ A s₁ a i₁ (lo.stp p₁)).then fun u σ₂ s₂ i₂ p₂ q₂ => (q₂ A s₂ v u a i₂ rfl rfl).then fun c σ₃ s₃ i₃ p₃ q₃ => (q₃ A s₃ c a i₃ rfl).then fun b σ₄ s₄ i₄ p₄ q₄ => ?_
  cases b with
  | false => exact ⟨σ₄, i₄, ((p₁.trans p₂).trans p₃).trans p₄, q₄⟩
  | true =>
    refine test_last ((q₄ A s₄ a i₄ (lo.stp (((p₁.trans p₂).trans p₃).trans p₄))).then fun z σ₅ s₅ i₅ p₅ q₅ => (q₅ A s₅ u z a i₅ rfl rfl).then fun c' σ₆ s₆ i₆ p₆ q₆ => ?_)
    exact (q₆ A s₆ c' a i₆ rfl).after (((((p₁.trans p₂).trans p₃).trans p₄).trans p₅).trans p₆)
theorem BC_not {x : Expr} {pos : Pos} (h : BC W d env x ρ σ (fun b σ₁ => P (!b) σ₁)) : BC W d env (.UnaryOp .Not x pos) ρ σ P := fun A s a i lo => wpAny_isTrue_Not (h A s a i lo)
theorem BC_val {e : Expr} (h : EV W d env (eval e env) ρ σ (fun v σ₁ => TV W d v σ₁ P))
    (he : isTrue e env (eval e env) = (do let v ← (eval e env); standAt e.pos; holding [v] (truthy v)) := by rfl) : BC W d env e ρ σ P := fun A s a i lo =>
  wpAny_isTrue_value ((h A s a i lo).then fun v σ₁ s₁ i₁ p₁ q₁ => (q₁ A s₁ v a i₁ rfl).after p₁) he
theorem BC_and {x y : Expr} {pos : Pos} (h : BC W d env x ρ σ (fun b σ₁ => if b then BC W d env y ρ σ₁ P else P false σ₁)) : BC W d env (.BoolOp .And [x, y] pos) ρ σ P := fun A s a i lo => by
  refine wpAny_isTrue_BoolOp (wpAny_allTrue_And_cons ((h A s a i lo).then fun b σ₁ s₁ i₁ p₁ q₁ => ?_))
  cases b with
  | false => exact ⟨σ₁, i₁, p₁, q₁⟩
  | true =>
    refine wpAny_allTrue_And_cons ((q₁ A s₁ a i₁ (lo.stp p₁)).then fun b σ₂ s₂ i₂ p₂ q₂ => ?_)
    cases b with
    | false => exact ⟨σ₂, i₂, p₁.trans p₂, q₂⟩
    | true => exact wpAny_allTrue_And_nil ⟨σ₂, i₂, p₁.trans p₂, q₂⟩
theorem BC_or {x y : Expr} {pos : Pos} (h : BC W d env x ρ σ (fun b σ₁ => if b then P true σ₁ else BC W d env y ρ σ₁ P)) : BC W d env (.BoolOp .Or [x, y] pos) ρ σ P := fun A s a i lo => by
  refine wpAny_isTrue_BoolOp (wpAny_allTrue_Or_cons ((h A s a i lo).then fun b σ₁ s₁ i₁ p₁ q₁ => ?_))
  cases b with
  | true => exact ⟨σ₁, i₁, p₁, q₁⟩
  | false =>
    refine wpAny_allTrue_Or_cons ((q₁ A s₁ a i₁ (lo.stp p₁)).then fun b σ₂ s₂ i₂ p₂ q₂ => ?_)
    cases b with
    | true => exact ⟨σ₂, i₂, p₁.trans p₂, q₂⟩
    | false => exact wpAny_allTrue_Or_nil ⟨σ₂, i₂, p₁.trans p₂, q₂⟩
theorem EV_if {t x y : Expr} {pos : Pos} (h : BC W d env t ρ σ (fun b σ₁ => if b then EV W d env (eval x env) ρ σ₁ Q else EV W d env (eval y env) ρ σ₁ Q)) : EV W d env (eval (.IfExp t x y pos) env) ρ σ Q := fun A s a i lo => by
  refine wpAny_IfExp ((h A s a i lo).then fun b σ₁ s₁ i₁ p₁ q₁ => ?_)
  cases b with
  | true => exact (q₁ A s₁ a i₁ (lo.stp p₁)).after p₁
  | false => exact (q₁ A s₁ a i₁ (lo.stp p₁)).after p₁
theorem EV_and {x y : Expr} {pos : Pos} (h : EV W d env (eval x env) ρ σ (fun v σ₁ => TV W d v σ₁ (fun b σ₂ => if b then EV W d env (eval y env) ρ σ₂ Q else Q v σ₂))) :
    EV W d env (eval (.BoolOp .And [x, y] pos) env) ρ σ Q := fun A s a i lo => by
  refine wpAny_And2 ((h A s a i lo).then fun v σ₁ s₁ i₁ p₁ q₁ => (q₁ A s₁ v a i₁ rfl).then fun b σ₂ s₂ i₂ p₂ q₂ => ?_)
  cases b with
  | true => exact (q₂ A s₂ a i₂ (lo.stp (p₁.trans p₂))).after (p₁.trans p₂)
  | false => exact ⟨σ₂, i₂, p₁.trans p₂, q₂⟩
theorem EV_neg {i : Int} {k : Nat} {pos pos' : Pos} (h : Q (.int (-i) 0) σ) : EV W d env (eval (.UnaryOp .USub (.Constant (.int i) k pos) pos') env) ρ σ Q := fun A s a iv lo =>
  wpAny_UnaryOp (wpAny_Constant_int (PyProof.Rows.neg_int ⟨σ, iv.tok, .tok, h⟩))

theorem Inv.pushL {items : Array Value} {xs : List Value} {n tk : Nat} (i : Inv W σ s) (e : items.toList.map nz = xs) : Inv W (σ.set s.heap.objs.size (.list xs)) { s with heap := s.heap.push { cls := .type "list", data := .seq items n }, toks := tk } :=
  i.push (o := .list xs) ⟨_, _, rfl, e⟩ rfl
theorem Inv.pushT {items : Array Value} {xs : List Value} {n tk : Nat} (i : Inv W σ s) (e : items.toList.map nz = xs) : Inv W (σ.set s.heap.objs.size (.tup xs)) { s with heap := s.heap.push { cls := .type "tuple", data := .seq items n }, toks := tk } :=
  i.push (o := .tup xs) ⟨_, _, rfl, e⟩ rfl

theorem EV_item {value slice : Expr} {pos : Pos} (h : EV W d env (eval value env) ρ σ (fun x σ₁ => EV W d env (eval slice env) ρ σ₁ (fun y σ₂ => ∃ a xs k u, x = .ref a ∧ σ₂ a = some (.list xs) ∧ y = .int k 0 ∧ 0 ≤ k ∧ k < 1000000 ∧ xs[k.toNat]? = some u ∧ Q u σ₂)))
    (hs : ∀ o i, subscripted slice false o i = operate [o, i] (getItem o i) := by intro _ _; with_unfolding_all rfl) : EV W d env (eval (.Subscript value slice pos) env) ρ σ Q := fun A s a i lo => by
  refine Subscript_ ((h A s a i lo).then fun v σ₁ s₁ i₁ p₁ q₁ => (q₁ A s₁ a i₁ (lo.stp p₁)).then fun u σ₂ s₂ i₂ p₂ q₂ => ?_)
  obtain ⟨l, xs, k, x, e1, e2, e3, h0, h1, hx, q⟩ := q₂
  obtain ⟨t, rfl⟩ := nz_int e3
  rw [nz_ref e1]
  obtain ⟨items, n, ho, rfl⟩ := i₂.list e2
  rw [List.getElem?_map] at hx
  obtain ⟨y, hy, rfl⟩ := Option.map_eq_some_iff.mp hx
  refine tail_any ⟨_, ho, rfl⟩ slot_list_getitem.lookup (wpAny_getItem_list ⟨_, ho, rfl, n, rfl⟩ h0 (by omega) (x := y) (by simpa using hy) ⟨σ₂, i₂, p₁.trans p₂, q⟩) (hs _ _)
theorem EV_itemneg {value slice : Expr} {pos : Pos} (h : EV W d env (eval value env) ρ σ (fun x σ₁ => EV W d env (eval slice env) ρ σ₁ (fun y σ₂ => ∃ a xs k u, x = .ref a ∧ σ₂ a = some (.list xs) ∧ y = .int k 0 ∧ k < 0 ∧ -1000000 < k ∧ -(xs.length : Int) ≤ k ∧ xs[(k + xs.length).toNat]? = some u ∧ Q u σ₂)))
    (hs : ∀ o i, subscripted slice false o i = operate [o, i] (getItem o i) := by intro _ _; with_unfolding_all rfl) : EV W d env (eval (.Subscript value slice pos) env) ρ σ Q := fun A s a i lo => by
  refine Subscript_ ((h A s a i lo).then fun v σ₁ s₁ i₁ p₁ q₁ => (q₁ A s₁ a i₁ (lo.stp p₁)).then fun u σ₂ s₂ i₂ p₂ q₂ => ?_)
  obtain ⟨l, xs, k, x, e1, e2, e3, h0, h1, h2, hx, q⟩ := q₂
  obtain ⟨t, rfl⟩ := nz_int e3
  rw [nz_ref e1]
  obtain ⟨items, n, ho, rfl⟩ := i₂.list e2
  rw [List.getElem?_map] at hx
  obtain ⟨y, hy, rfl⟩ := Option.map_eq_some_iff.mp hx
  simp only [List.length_map, Array.length_toList] at h2 hy
  refine tail_any ⟨_, ho, rfl⟩ slot_list_getitem.lookup (wpAny_getItem_list_neg ⟨_, ho, rfl, n, rfl⟩ h0 h2 (by omega) (x := y) (by simpa using hy) ⟨σ₂, i₂, p₁.trans p₂, q⟩) (hs _ _)

noncomputable def EO (W : Wd) (d : Nat) (env : Env) (e : Option Expr) (ρ : Loc) (σ : NH) (K : Option Nat → NH → Prop) : Prop :=
  EV W d env (evalPart e env) ρ σ (fun v σ' => ∃ k : Option Nat, v = (match k with | none => .none | some i => .int i 0) ∧ K k σ')
theorem EO_none {K : Option Nat → NH → Prop} (h : K none σ) : EO W d env none ρ σ K := fun A s a i lo => wpAny_pure ⟨σ, i, .refl, none, rfl, h⟩
theorem EO_some {e : Expr} {K : Option Nat → NH → Prop} (h : EV W d env (eval e env) ρ σ (fun v σ' => ∃ k : Nat, v = .int k 0 ∧ K (some k) σ')) : EO W d env (some e) ρ σ K :=
  EC.mono (t := eval e env) h fun v σ' ⟨k, e, q⟩ => ⟨some k, e, q⟩
noncomputable def sliceL (xs : List Value) (lo hi : Option Nat) : List Value := (match hi with | none => xs | some h => xs.take h).drop (lo.getD 0)
theorem slicePick_nat (items : Array Value) (lo hi : Option Nat) : (slicePick items (lo.map Int.ofNat) (hi.map Int.ofNat) none).toList.map nz = sliceL (items.toList.map nz) lo hi := by
  have e := slicePick_plain items (lo.map Int.ofNat) (hi.map Int.ofNat)
  rw [e]
  have c : ∀ a : Nat, clipAt items.size (Int.ofNat a) = min a items.size := fun a => clipAt_nat items.size a
  unfold sliceL
  cases lo <;> cases hi <;> simp only [Option.map_some, Option.map_none, Option.elim, c, Option.getD, List.drop_zero]
  · rw [List.take_of_length_le (by simp)]
  · rename_i h
    show List.map nz (List.take (min h items.size - 0) items.toList) = _
    rw [Nat.sub_zero, ← List.map_take]
    congr 1
    rcases Nat.le_total h items.size with k | k
    · rw [Nat.min_eq_left k]
    · rw [Nat.min_eq_right k, List.take_of_length_le (by simp), List.take_of_length_le (by simpa using k)]
  · rename_i a
    show List.map nz (List.take (items.size - min a items.size) (List.drop (min a items.size) items.toList)) = _
    rw [← List.map_drop]
    congr 1
    rcases Nat.le_total a items.size with k | k
    · rw [Nat.min_eq_left k, List.take_of_length_le (by simp)]
    · rw [Nat.min_eq_right k, List.drop_of_length_le (by simp), List.drop_of_length_le (by simpa using k)]; simp
  · rename_i a h
    show List.map nz (List.take (min h items.size - min a items.size) (List.drop (min a items.size) items.toList)) = _
    rw [← List.map_take, ← List.map_drop]
    congr 1
    rw [List.drop_take]
    rcases Nat.le_total h items.size with k | k
    · rw [Nat.min_eq_left k]
      rcases Nat.le_total a items.size with k' | k'
      · rw [Nat.min_eq_left k']
      · rw [Nat.min_eq_right k', List.drop_of_length_le (by simp), List.drop_of_length_le (by simpa using k')]; simp
    · rw [Nat.min_eq_right k]
      rcases Nat.le_total a items.size with k' | k'
      · rw [Nat.min_eq_left k', List.take_of_length_le (by simp), List.take_of_length_le (by simp; omega)]
      · rw [Nat.min_eq_right k', List.drop_of_length_le (by simp), List.drop_of_length_le (by simpa using k')]; simp
theorem isPart_of {v : Value} {k : Option Nat} (h : nz v = (match k with | none => .none | some i => .int i 0)) : IsPart v (k.map Int.ofNat) := by
  cases k with
  | none => rw [nz_none h]; exact .none
  | some i => obtain ⟨t, rfl⟩ := nz_int h; exact .int _ _
theorem EV_slice {value : Expr} {lo hi : Option Expr} {p pos : Pos} (h : EV W d env (eval value env) ρ σ (fun x σ₁ => EO W d env lo ρ σ₁ (fun k₁ σ₂ => EO W d env hi ρ σ₂ (fun k₂ σ₃ =>
      ∃ a xs, x = .ref a ∧ σ₃ a = some (.list xs) ∧ xs.length < 1000000 ∧ ∀ l, σ₃ l = none → Q (.ref l) (σ₃.set l (.list (sliceL xs k₁ k₂))))))) :
    EV W d env (eval (.Subscript value (.Slice lo hi none p) pos) env) ρ σ Q := fun A s a i lo' => by
  refine Subscript_ ((h A s a i lo').then fun v σ₁ s₁ i₁ p₁ q₁ => wpAny_Slice ((q₁ A s₁ a i₁ (lo'.stp p₁)).then fun l σ₂ s₂ i₂ p₂ q₂ => ?_))
  obtain ⟨k₁, e1, q₂⟩ := q₂
  refine (q₂ A s₂ a i₂ (lo'.stp (p₁.trans p₂))).then fun u σ₃ s₃ i₃ p₃ q₃ => ?_
  obtain ⟨k₂, e2, q₃⟩ := q₃
  obtain ⟨b, xs, eb, hb, hlen, q⟩ := q₃
  rw [nz_ref eb]
  refine wpAny_pure ?_
  obtain ⟨items, n, ho, rfl⟩ := i₃.list hb
  have ho' : (s₃.heap.push { cls := .type "slice", data := .fields #[l, u, .none] }).get? b = some (listOf items n) := Heap.get?_push_of_some _ ho
  have i₄ : Inv W σ₃ { s₃ with heap := s₃.heap.push { cls := .type "slice", data := .fields #[l, u, .none] } } := i₃.same (tk := s₃.toks) fun b o e _ => Heap.get?_push_of_some _ e
  have p₄ : Stp W noX σ₃ s₃ σ₃ { s₃ with heap := s₃.heap.push { cls := .type "slice", data := .fields #[l, u, .none] } } := Stp.same (tk := s₃.toks) fun b o _ e => Heap.get?_push_of_some _ e
  have hl : items.size < 1000000 := by simpa using hlen
  refine tail_any ⟨_, ho', rfl⟩ slot_list_getitem.lookup (wpAny_getItem_list_slice ⟨_, ho', rfl, n, rfl⟩ (Heap.IsSliceOf.new ..) (isPart_of e1) (isPart_of e2) .none (by intro h; cases h) ?_ (by rw [sizeLine_eq]; omega)) (by with_unfolding_all rfl)
  have fr : σ₃ s₃.heap.objs.size.succ = none := by have := i₄.fresh.1; rwa [show (s₃.heap.push { cls := .type "slice", data := .fields #[l, u, .none] }).objs.size = s₃.heap.objs.size + 1 from Heap.size_push ..] at this
  exact ⟨_, i₄.pushL (slicePick_nat items k₁ k₂), (((p₁.trans p₂).trans p₃).trans p₄).trans .push, q _ i₄.fresh.1⟩
end

section
variable {W : Wd} {X : Addr → Prop} {A : Around} {σ : NH} {s : Shared} {d : Nat} {env : Env} {ρ : Loc} {Q : Value → NH → Prop} {P : Bool → NH → Prop}

noncomputable def LC (W : Wd) (d : Nat) (env : Env) (es : List Expr) (pos : Pos) (ρ : Loc) (σ : NH) (K : List Value → NH → Prop) : Prop :=
  EC W d env (spliced (backTo pos (starEach es env))) ρ σ (fun vs σ' => K (vs.map nz) σ')
theorem LC_nil {pos : Pos} {K : List Value → NH → Prop} (h : K [] σ) : LC W d env [] pos ρ σ K := fun A s a i lo => wpAny_pure ⟨σ, i, .refl, h⟩
theorem LC_cons {e : Expr} {es : List Expr} {pos : Pos} {K : List Value → NH → Prop} (h : EV W d env (eval e env) ρ σ (fun v σ₁ => LC W d env es pos ρ σ₁ (fun vs σ₂ => K (v :: vs) σ₂)))
    (he : starEach (e :: es) env = (false, eval e env) :: starEach es env := by rfl) : LC W d env (e :: es) pos ρ σ K := fun A s a i lo => by
  have e1 : backTo pos (starEach (e :: es) env) = (false, eval e env) :: backTo pos (starEach es env) := by rw [he]; rfl
  rw [e1]
  exact Calls.spliced_cons ((h A s a i lo).then fun v σ₁ s₁ i₁ p₁ q₁ => (q₁ A s₁ a i₁ (lo.stp p₁)).then fun vs σ₂ s₂ i₂ p₂ q₂ => ⟨σ₂, i₂, p₁.trans p₂, q₂⟩)
theorem EV_list {es : List Expr} {pos : Pos} (h : LC W d env es pos ρ σ (fun vs σ₁ => vs.length < 1000000 ∧ ∀ l, σ₁ l = none → Q (.ref l) (σ₁.set l (.list vs)))) : EV W d env (eval (.List es pos) env) ρ σ Q := fun A s a i lo => by
  refine wpAny_List_spliced ((h A s a i lo).then fun vs σ₁ s₁ i₁ p₁ q₁ => ⟨?_, _, i₁.pushL (tk := s₁.toks) (by simp), p₁.trans .push, q₁.2 _ i₁.fresh.1⟩)
  have := q₁.1
  rw [List.length_map] at this
  rw [sizeLine_eq]; omega
theorem EV_tuple {es : List Expr} {k : Nat} {pos : Pos} (h : LC W d env es pos ρ σ (fun vs σ₁ => vs.length < 1000000 ∧ ∀ l, σ₁ l = none → Q (.ref l) (σ₁.set l (.tup vs)))) : EV W d env (eval (.Tuple es k pos) env) ρ σ Q := fun A s a i lo => by
  refine wpAny_Tuple_spliced ((h A s a i lo).then fun vs σ₁ s₁ i₁ p₁ q₁ => ⟨?_, _, i₁.pushT (tk := s₁.toks) (by simp), p₁.trans .push, q₁.2 _ i₁.fresh.1⟩)
  have := q₁.1
  rw [List.length_map] at this
  rw [sizeLine_eq]; omega

structure AttrOK (W : Wd) (C : Addr) (name : Str) : Prop where
  get : plainGet (KK W.w) C name = true
  dict : hasDictIn (KK W.w) C = true
  none : findIn (KK W.w) (.ref C) name = some none
  set : findIn (KK W.w) (.ref C) "__setattr__" = some (some (.builtin "object.__setattr__"))
  over : plainOver (KK W.w) C = true

theorem Inv.KI (i : Inv W σ s) : (KK W.w).In s.heap := W.base.X.keeps i.keep
theorem Inv.inst {x C dd : Addr} {m : List (Str × Value)} (i : Inv W σ s) (hx : σ x = some (.inst C dd)) (hd : σ dd = some (.dct m)) :
    ∃ es n, InstAt s.heap x (instObj C dd) C (some (dictOf es n)) ∧ s.heap.get? dd = some (dictOf es n) ∧ DOk es m := by
  obtain ⟨ox, h1, rfl⟩ := i.rep x _ hx
  obtain ⟨od, h2, es, n, rfl, h3⟩ := i.rep dd _ hd
  exact ⟨es, n, ⟨h1, rfl, rfl, h2⟩, h2, h3⟩
theorem DOk.get : ∀ {es : List DictEntry} {m : List (Str × Value)} {x : Str} {u : Value}, DOk es m → m.lookup x = some u → ∃ v, getL x es = some (some v) ∧ nz v = u
  | [], [], _, _, _, h => by cases h
  | e :: es, (y, w) :: m, x, u, ⟨⟨⟨t, hk⟩, hv⟩, hr⟩, h => by
    unfold getL
    rw [List.find?_cons, hk]
    rw [List.lookup_cons] at h
    have e1 : (Value.str y t).isStr x = (x == y) := by show (y == x) = (x == y); exact BEq.comm
    rw [e1]
    cases hb : x == y with
    | true => rw [hb] at h; cases h; exact ⟨e.val, rfl, hv⟩
    | false =>
      rw [hb] at h
      obtain ⟨v, g1, g2⟩ := DOk.get hr h
      refine ⟨v, ?_, g2⟩
      unfold getL at g1
      dsimp only
      cases hf : es.find? (·.key.isStr x) with
      | some e' => rw [hf] at g1; exact g1
      | none => rw [hf] at g1; dsimp only at g1; split at g1 <;> cases g1
theorem DOk.miss : ∀ {es : List DictEntry} {m : List (Str × Value)} {x : Str}, DOk es m → m.lookup x = none → getL x es = some none ∧ es.any (·.refKey) = false
  | [], [], _, _, h => ⟨rfl, rfl⟩
  | e :: es, (y, w) :: m, x, ⟨⟨⟨t, hk⟩, hv⟩, hr⟩, h => by
    rw [List.lookup_cons] at h
    have e1 : (Value.str y t).isStr x = (x == y) := by show (y == x) = (x == y); exact BEq.comm
    cases hb : x == y with
    | true => rw [hb] at h; cases h
    | false =>
      rw [hb] at h
      obtain ⟨g1, g2⟩ := DOk.miss hr h
      have r : e.refKey = false := by unfold DictEntry.refKey; rw [hk]
      have r2 : (e :: es).any (·.refKey) = false := by rw [List.any_cons, g2, r]; rfl
      refine ⟨?_, r2⟩
      unfold getL
      rw [List.find?_cons, hk, e1, hb]
      dsimp only
      unfold getL at g1
      cases hf : es.find? (·.key.isStr x) with
      | some e' => rw [hf] at g1; cases g1
      | none => dsimp only; rw [if_neg (by rw [r2]; decide)]
noncomputable def putA (x : Str) (v : Value) : List (Str × Value) → List (Str × Value)
  | [] => [(x, v)]
  | (y, w) :: r => if x == y then (y, v) :: r else (y, w) :: putA x v r
theorem DOk.put {x : Str} {h : Int} {t : Tok} {v : Value} : ∀ {es : List DictEntry} {m : List (Str × Value)}, DOk es m → DOk (putL x h (.str x t) v es) (putA x (nz v) m)
  | [], [], _ => ⟨⟨⟨t, rfl⟩, rfl⟩, trivial⟩
  | e :: es, (y, w) :: m, ⟨⟨⟨t', hk⟩, hv⟩, hr⟩ => by
    unfold putL putA
    have e1 : e.key.isStr x = (x == y) := by rw [hk]; show (y == x) = (x == y); exact BEq.comm
    rw [e1]
    cases hb : x == y with
    | true => exact ⟨⟨⟨t', hk⟩, rfl⟩, hr⟩
    | false => exact ⟨⟨⟨t', hk⟩, hv⟩, DOk.put hr⟩
theorem DOk.length : ∀ {es : List DictEntry} {m : List (Str × Value)}, DOk es m → es.length = m.length
  | [], [], _ => rfl
  | _ :: _, _ :: _, ⟨_, h⟩ => by rw [List.length_cons, List.length_cons, h.length]
theorem putL_length (x : Str) (h : Int) (k v : Value) : ∀ es : List DictEntry, (putL x h k v es).length ≤ es.length + 1
  | [] => Nat.le_refl _
  | e :: r => by
    unfold putL
    split
    · simp
    · have := putL_length x h k v r; simp only [List.length_cons]; omega

theorem WP_getAttr {x C dd : Addr} {m : List (Str × Value)} {name : Str} {u : Value} {expr : Bool} (i : Inv W σ s) (hx : σ x = some (.inst C dd)) (hd : σ dd = some (.dct m)) (ok : AttrOK W C name)
    (hm : m.lookup name = some u) (hh : handedIn u = true) (h : Q u σ) : WP W noX A (getAttr (.ref x) name expr) σ s (fun v σ' _ => Q (nz v) σ') := by
  obtain ⟨es, n, I, hdd, hk⟩ := i.inst hx hd
  obtain ⟨v, g1, g2⟩ := hk.get hm
  subst g2
  exact get_value i.KI I (plainGet_of ok.get).1 (findObj_own ok.dict ok.none (by rfl) g1) (by cases v <;> first | rfl | exact hh) ⟨σ, i.tok, .tok, h⟩
theorem EV_attr {e : Expr} {name : Str} {pos : Pos} (h : EV W d env (eval e env) ρ σ (fun v σ₁ => ∃ x C dd m u, v = .ref x ∧ σ₁ x = some (.inst C dd) ∧ σ₁ dd = some (.dct m) ∧ AttrOK W C name ∧ m.lookup name = some u ∧ handedIn u = true ∧ Q u σ₁))
    (hb : attributeBase e name env (eval e env) = eval e env := by rfl) : EV W d env (eval (.Attribute e name pos) env) ρ σ Q := fun A s a i lo => by
  rw [arm_eval_Attribute, hb]
  refine wpAny_bind ((h A s a i lo).then fun v σ₁ s₁ i₁ p₁ q₁ => wpAny_bind (wpAny_standAt (wpAny_bind (wpAny_holding ?_))))
  obtain ⟨x, C, dd, m, u, ev, h1, h2, ok, h3, h4, q⟩ := q₁
  rw [nz_ref ev]
  exact (WP_getAttr i₁ h1 h2 ok h3 h4 q).then fun r σ₂ s₂ i₂ p₂ q₂ => wpAny_bind (wpAny_letTemporaryGo (wpAny_pure ⟨σ₂, i₂, p₁.trans p₂, q₂⟩))

theorem getL_clean {name : Str} {es : List DictEntry} (hl : (getL name es).isSome = true) : (!es.any (·.key.isStr name) && es.any (·.refKey)) = false := by
  cases hs : es.any (·.key.isStr name) with
  | true => rfl
  | false =>
    cases hr : es.any (·.refKey) with
    | false => rfl
    | true =>
      have hn : es.find? (·.key.isStr name) = none := List.find?_eq_none.mpr (List.any_eq_false.mp hs)
      unfold getL at hl
      rw [hn, hr] at hl
      cases hl
theorem WP_setAttr {x C dd : Addr} {m : List (Str × Value)} {name : Str} {v : Value} {K : NH → Prop} (i : Inv W σ s) (hx : σ x = some (.inst C dd)) (hd : σ dd = some (.dct m)) (ok : AttrOK W C name) (hlen : m.length ≤ 900)
    (h : K (σ.set dd (.dct (putA name (nz v) m)))) : WP W X A (setAttr (.ref x) name v) σ s (fun _ σ' _ => K σ') := by
  obtain ⟨es, n, I, hdd, hk⟩ := i.inst hx hd
  have ht : takerIn (KK W.w) C name = some none := by unfold takerIn; rw [ok.none]; rfl
  have hl : (getL name es).isSome = true := by
    cases q : m.lookup name with
    | some u => obtain ⟨w, g1, _⟩ := hk.get q; rw [g1]; rfl
    | none => rw [(hk.miss q).1]; rfl
  have hlen' := hk.length
  have hpl : ∀ t, (putL name (PyData.keyHash W.w.params name) (.str name t) v es).length ≤ 1000 := fun t => by have := putL_length name (PyData.keyHash W.w.params name) (.str name t) v es; omega
  have X := i.KI
  obtain ⟨cd, hc, hd'⟩ := any_some ok.dict
  have c : (!es.toArray.any (·.key.isStr name) && es.toArray.any (·.refKey)) = false := by
    have := getL_clean hl
    simpa only [List.any_toArray] using this
  refine set_plain X I ok.set (osa_open (s := { s with toks := s.toks + 1 }) X I ok.over ht fun b => ?_)
  refine wpAny_bind (wpAny_pure (wpAny_bind (wpAny_bind (wpAny_loadPart I.at_ (wpAny_bind (looks_clsIn X hc _ _ _ _ (fun _ _ e => e) ?_))))))
  rw [hd']
  refine wpAny_pure (a := some dd) (wpAny_bind (wpAny_pure (wpAny_bind ?_)))
  unfold nsSet
  refine wpAny_bind (wpAny_bind (wpAny_askSetting (wpAny_pure (wpAny_bind (wpAny_mkText (wpAny_bind (wpAny_loadPart hdd ?_)))))))
  dsimp only
  rw [aRefKeyMayBeTheName_at, c]
  have e : Obj.putName name (PyData.keyHash W.w.params name) (.str name (s.toks + 1)) v (dictOf es n) = dictOf (putL name (PyData.keyHash W.w.params name) (.str name (s.toks + 1)) v es) (putN name es n) := putName_dict ..
  refine wpAny_updatePart hdd ?_
  have hu : (s.heap.update dd (Obj.putName name (PyData.keyHash W.w.params name) (.str name (s.toks + 1)) v)).get? dd = some (dictOf (putL name (PyData.keyHash W.w.params name) (.str name (s.toks + 1)) v es) (putN name es n)) := by
    rw [← e]; exact Heap.get?_update_self _ hdd (by rw [e]; rfl)
  refine wpAny_bind (wpAny_lookBehind hu (pastItsLine_dict (by rw [List.size_toArray, sizeLine_eq]; have := hpl (s.toks + 1); omega)) ?_)
  exact wpAny_pure ⟨_, i.upd hd (fun _ h => by cases h) hdd (o' := .dct (putA name (nz v) m)) (by rw [putName_dict]; exact ⟨_, _, rfl, hk.put⟩) (by rw [putName_dict]; rfl), .upd hd, h⟩
end

section
variable {W : Wd} {X : Addr → Prop} {A : Around} {σ : NH} {s : Shared} {d : Nat} {env : Env} {ρ : Loc} {Q : Value → NH → Prop} {P : Bool → NH → Prop}

noncomputable def CB (W : Wd) (d : Nat) (f : Value) (vs : List Value) (σ : NH) (Q : Value → NH → Prop) : Prop :=
  ∀ A s us, AOK d A → Inv W σ s → us.map nz = vs → WP W noX A (PySem.call f us) σ s (fun r σ' _ => Q (nz r) σ')
theorem CB_FC {f : Value} {vs : List Value} (h : FC W d f vs σ Q) : CB W d f vs σ Q := fun A s us a i e =>
  wpAny_call (codeAny_mono (h A s us a i e) fun r s' ⟨v, σ', e, i', p, q⟩ => by subst e; exact ⟨σ', i', p, q⟩)

theorem EA {f : Value} {es : List Expr} {pos : Pos} {K : List Value → NH → Prop} (h : LC W d env es pos ρ σ K) (hne : es = [] ∨ ∃ x rest, backTo pos (starEach es env) = (false, x) :: rest) :
    EC W d env (evalArgs f true (backTo pos (starEach es env)) []) ρ σ (fun a σ' => a.kw = [] ∧ K (a.pos.map nz) σ') := fun A s a i lo => by
  rcases hne with rfl | ⟨x, rest, e⟩
  · have h1 := h A s a i lo
    unfold evalArgs
    show wpAny W.M A (spliced [] >>= _) _ _ s
    refine wpAny_bind (h1.then fun vs σ₁ s₁ i₁ p₁ q₁ => wpAny_bind (wpAny_pure ?_))
    refine wpAny_holding ?_
    exact wpAny_bind (wpAny_pure (wpAny_bind (wpAny_pure (wpAny_pure ⟨σ₁, i₁, p₁, rfl, q₁⟩))))
  · have h1 := h A s a i lo
    rw [e] at h1 ⊢
    exact Calls.evalArgs_plain (h1.then fun vs σ₁ s₁ i₁ p₁ q₁ => ⟨σ₁, i₁, p₁, rfl, q₁⟩)

theorem CW {f : Value} {first : List Value} {es : List Expr} {pos : Pos} {vs₀ : List Value} (hf : first.map nz = vs₀)
    (hk : keepIn (KK W.w) f = true ∨ (∀ h : Heap, Looks W.M h (keeperOf f) .machine))
    (h : LC W d env es pos ρ σ (fun vs σ₁ => CB W d f (vs₀ ++ vs) σ₁ Q)) (hne : es = [] ∨ ∃ x rest, backTo pos (starEach es env) = (false, x) :: rest) (hpl : (backTo pos (starEach es env)).any (·.1) = false) :
    EV W d env (callWith pos f first (backTo pos (starEach es env)) []) ρ σ Q := fun A s a i lo => by
  refine callWith_of (P := fun h => ∃ k, (k = Keeper.frame ∨ k = Keeper.machine ∨ k = Keeper.boundFrame) ∧ Looks W.M h (keeperOf f) k) (by rw [hpl]; rfl) (fun _ h => h) ?_
  refine (EA h hne A s a i lo).then fun x σ₁ s₁ i₁ p₁ ⟨q₀, q₁⟩ => ⟨?_, ?_⟩
  · rcases hk with hk | hk
    · exact keeps_K hk _ i₁.KI
    · exact ⟨.machine, .inr (.inl rfl), hk _⟩
  · rw [q₀]
    exact (q₁ A s₁ _ a i₁ (by rw [List.map_append, hf])).after p₁

theorem EV_call {f : Str} {p pos : Pos} {es : List Expr} {fv : Value} (hk : env.kindOf f = some .globalImplicit) (hg : nsIn (KK W.w) mainGlobals f = some (some fv)) (hkeep : keepIn (KK W.w) fv = true)
    (h : LC W d env es pos ρ σ (fun vs σ₁ => FC W d fv vs σ₁ Q)) (hd : (f == ("__debug__" : Str)) = false := by decide)
    (hne : es = [] ∨ ∃ x rest, backTo pos (starEach es env) = (false, x) :: rest := by first | exact .inl rfl | exact .inr ⟨_, _, rfl⟩) (hpl : (backTo pos (starEach es env)).any (·.1) = false := by rfl) :
    EV W d env (eval (.Call (.Name f p) es [] pos) env) ρ σ Q := fun A s a i lo => by
  obtain ⟨mg, hG⟩ := W.base.ma
  have e := mg_of W.base.X hG hg
  rw [arm_eval_Call_Name']
  refine wpAny_bind (Calls.Name_function_global lo.fn hk (Calls.loadGlobal_global (lo.gl ▸ hG.keeps i.keep) e ?_) hd)
  exact CW (first := []) (vs₀ := []) rfl (.inl hkeep) (EC.mono h fun vs σ₁ q => CB_FC q) hne hpl A s a i lo
theorem EV_callB {f : Str} {p pos : Pos} {es : List Expr} {fv : Value} (hk : env.kindOf f = some .globalImplicit) (hg : nsIn (KK W.w) mainGlobals f = some none) (hb : bootBuiltins f = some fv)
    (hkeep : keeperOf fv = pure .machine) (h : LC W d env es pos ρ σ (fun vs σ₁ => CB W d fv vs σ₁ Q)) (hn : f ≠ ("__name__" : Str) := by decide) (hd : (f == ("__debug__" : Str)) = false := by decide)
    (hne : es = [] ∨ ∃ x rest, backTo pos (starEach es env) = (false, x) :: rest := by first | exact .inl rfl | exact .inr ⟨_, _, rfl⟩) (hpl : (backTo pos (starEach es env)).any (·.1) = false := by rfl) :
    EV W d env (eval (.Call (.Name f p) es [] pos) env) ρ σ Q := fun A s a i lo => by
  obtain ⟨mg, hG⟩ := W.base.ma
  obtain ⟨mb, hB, hbb⟩ := W.base.bi
  have e := mg_none_of W.base.X hG hg
  rw [arm_eval_Call_Name']
  refine wpAny_bind (Calls.Name_function_global lo.fn hk (Calls.loadGlobal_builtin (lo.gl ▸ hG.keeps i.keep) e (lo.bn ▸ hB.keeps i.keep) ((hbb f hn).trans hb) ?_) hd)
  exact CW (first := []) (vs₀ := []) rfl (.inr fun h => Looks.of_pure hkeep) h hne hpl A s a i lo

theorem bindL_not (k : Str → Option NameKind) : ∀ (binds : List (Str × Value)) (m : Str → Option Value) (x : Str), x ∉ binds.map (·.1) → bindL k binds m x = m x
  | [], _, _, _ => rfl
  | (n, v) :: r, m, x, h => by
    have h1 : x ≠ n := fun e => h (by rw [e]; exact List.mem_cons_self)
    have h2 : x ∉ r.map (·.1) := fun e => h (List.mem_cons_of_mem _ e)
    unfold bindL
    rw [bindL_not k r _ x h2]
    split
    · exact if_neg h1
    · rfl
theorem bindC_not (k : Str → Option NameKind) : ∀ (binds : List (Str × Value)) (m : Str → Option Value) (x : Str), x ∉ binds.map (·.1) → bindC k binds m x = m x
  | [], _, _, _ => rfl
  | (n, v) :: r, m, x, h => by
    have h1 : x ≠ n := fun e => h (by rw [e]; exact List.mem_cons_self)
    have h2 : x ∉ r.map (·.1) := fun e => h (List.mem_cons_of_mem _ e)
    unfold bindC
    rw [bindC_not k r _ x h2]
    split
    · rfl
    · exact if_neg h1
theorem bindL_in (k : Str → Option NameKind) {x : Str} {v : Value} (hk : k x = some .local) : ∀ (binds : List (Str × Value)) (m : Str → Option Value), (binds.map (·.1)).Nodup → (x, v) ∈ binds → bindL k binds m x = some v
  | (n, u) :: r, m, hn, h => by
    have hn' := List.nodup_cons.mp hn
    unfold bindL
    rcases List.mem_cons.mp h with e | h
    · cases e
      rw [bindL_not k r _ x hn'.1, if_pos hk, if_pos rfl]
    · exact bindL_in k hk r _ hn'.2 h
theorem bindC_in (k : Str → Option NameKind) {x : Str} {v : Value} (hk : ¬ k x = some .local) : ∀ (binds : List (Str × Value)) (m : Str → Option Value), (binds.map (·.1)).Nodup → (x, v) ∈ binds → bindC k binds m x = some v
  | (n, u) :: r, m, hn, h => by
    have hn' := List.nodup_cons.mp hn
    unfold bindC
    rcases List.mem_cons.mp h with e | h
    · cases e
      rw [bindC_not k r _ x hn'.1, if_neg hk, if_pos rfl]
    · exact bindC_in k hk r _ hn'.2 h
theorem lookup_nz : ∀ {binds : List (Str × Value)} {x : Str} {v : Value}, (binds.map fun p => (p.1, nz p.2)).lookup x = some v → ∃ u, (x, u) ∈ binds ∧ nz u = v
  | (n, u) :: r, x, v, h => by
    rw [List.map_cons, List.lookup_cons] at h
    cases hb : x == n with
    | true => rw [hb] at h; cases h; exact ⟨u, by rw [beq_iff_eq.mp hb]; exact List.mem_cons_self, rfl⟩
    | false => rw [hb] at h; obtain ⟨u', h1, h2⟩ := lookup_nz h; exact ⟨u', List.mem_cons_of_mem _ h1, h2⟩
theorem cellsFrom_some : ∀ (names : List (Str × NameKind)) (n : Nat) (acc : List (Str × Addr)) (x : Str), ((x, NameKind.cell) ∈ names ∨ (acc.lookup x).isSome = true) → ((cellsFrom n names acc).lookup x).isSome = true
  | [], _, _, _, h => by
    rcases h with h | h
    · cases h
    · exact h
  | (y, k) :: r, n, acc, x, h => by
    unfold cellsFrom
    split
    · refine cellsFrom_some r _ _ x ?_
      rw [List.lookup_cons]
      cases hb : x == y with
      | true => exact .inr rfl
      | false =>
        rcases h with h | h
        · rcases List.mem_cons.mp h with e | h
          · cases e; rw [beq_self_eq_true] at hb; cases hb
          · exact .inl h
        · exact .inr h
    · rename_i hk
      refine cellsFrom_some r _ _ x ?_
      rcases h with h | h
      · rcases List.mem_cons.mp h with e | h
        · cases e; exact absurd rfl hk
        · exact .inl h
      · exact .inr h

theorem LOK.of_call {fd : FuncData} {f : Addr} {binds : List (Str × Value)} {s₁ : Shared} (i : Inv W σ s) (hgl : fd.globals = mainGlobals) (hbn : fd.builtins = builtinsNs) (hfn : fd.scope.kind = .function)
    (hnd : (binds.map (·.1)).Nodup) (hfree : ∀ x ∈ fd.scope.names, x.2 ≠ .free)
    (x : InCallC s (callEnvC fd s.heap.objs.size f).locals (bindL (callEnvC fd s.heap.objs.size f).kindOf binds fun _ => none) (callEnvC fd s.heap.objs.size f).cells (bindC (callEnvC fd s.heap.objs.size f).kindOf binds fun _ => none) s₁) :
    LOK W (callEnvC fd s.heap.objs.size f) (binds.map fun p => (p.1, nz p.2)) σ s₁ := by
  have fr : ∀ b, s.heap.objs.size ≤ b → σ b = none ∧ W.h0.get? b = none := fun b hb => by
    constructor
    · cases q : σ b with
      | none => rfl
      | some o => obtain ⟨ob, h1, _⟩ := i.rep _ _ q; exact absurd (Heap.lt_size h1) (Nat.not_lt.mpr hb)
    · cases q : W.h0.get? b with
      | none => rfl
      | some o => exact absurd (Heap.lt_size (i.keep _ _ q)) (Nat.not_lt.mpr hb)
  refine ⟨⟨_, x.toInCall.ns, fun y v h hk => ?_⟩, (fr _ (Nat.le_refl _)).1, (fr _ (Nat.le_refl _)).2, fun y hy => ?_, fun y z c hy hz => name_of_addr x.apart (mem_of_lookup hy) (mem_of_lookup hz), hfn, hgl, hbn⟩
  · obtain ⟨u, h1, h2⟩ := lookup_nz h
    exact ⟨u, bindL_in _ hk _ _ hnd h1, h2⟩
  · have hc : (callEnvC fd s.heap.objs.size f).kindOf y = some .cell := by
      rcases hy with h | h
      · exact h
      · exact absurd rfl (hfree _ (mem_of_lookup (show fd.scope.names.lookup y = some .free from h)))
    have hsome : ((callEnvC fd s.heap.objs.size f).cells.lookup y).isSome = true := cellsFrom_some _ _ _ y (.inl (mem_of_lookup (show fd.scope.names.lookup y = some .cell from hc)))
    obtain ⟨c, hc'⟩ := Option.isSome_iff_exists.mp hsome
    have hlt := x.above y c (mem_of_lookup hc')
    have hle : s.heap.objs.size ≤ c := Nat.le_of_lt hlt
    refine ⟨c, _, hc', (fr _ hle).1, (fr _ hle).2, x.cell y c hc', fun v h => ?_⟩
    obtain ⟨u, h1, h2⟩ := lookup_nz h
    rw [bindC_in _ (by rw [hc]; decide) _ _ hnd h1, ← h2]; rfl

theorem FC_def {f : Addr} {oc : Value} {od : Option Addr} {osl : Array (Option Value)} {fd : FuncData} {body : List Stmt} {args : List Value} {nb : Loc}
    (ho : (KK W.w).lookup f = some ⟨oc, od, .func fd, osl⟩) (hbody : fd.body = .stmts body) (hcd : codeIn (KK W.w) fd.code fd.qualname = true) (hclo : fd.closure = []) (hgl : fd.globals = mainGlobals) (hbn : fd.builtins = builtinsNs)
    (hb : ∀ vs s, vs.map nz = args → Inv W σ s → ∃ binds, BindsTo s fd ⟨vs, []⟩ binds ∧ (binds.map fun p => (p.1, nz p.2)) = nb)
    (hnd : (nb.map (·.1)).Nodup) (hloc : ∀ p ∈ nb, fd.scope.names.lookup p.1 = some .local ∨ fd.scope.names.lookup p.1 = some .cell) (hfree : ∀ x ∈ fd.scope.names, x.2 ≠ .free)
    (h : ∀ L, SC W d (callEnvC fd L f) (execs body (callEnvC fd L f)) nb σ (fun fl _ σ' => Q (match fl with | .ret v => v | _ => .none) σ'))
    (hco : fd.scope.isCoroutine = false := by rfl) (hgen : fd.scope.isGenerator = false := by rfl) (hk : fd.scope.kind = .function := by rfl) : FC W (d + 1) (.ref f) args σ Q := by
  intro A s vs a i e
  obtain ⟨binds, hbt, hbm⟩ := hb vs s e i
  have hn1 : nb.map (·.1) = binds.map (·.1) := by rw [← hbm, List.map_map]; rfl
  have hdep : A.depth < recursionLimit := by have := a.dep; show A.depth < 1000; omega
  refine codeAny_call_function hdep (i.KI _ _ ho) rfl hco hgen hbody (codeRec_of i.KI hcd) (hbt _ _ _ _ ?_)
  rw [hclo]
  refine wpAny_newFunctionEnv_cells hk (fun y hy => ?_) fun env he s₁ x => ?_
  · have hmem : (y.1, nz y.2) ∈ nb := by rw [← hbm]; exact List.mem_map_of_mem (f := fun p : Str × Value => (p.1, nz p.2)) hy
    rcases hloc _ hmem with h1 | h1
    · exact .inl h1
    · exact .inr ⟨h1, cellsFrom_some _ _ _ _ (.inl (mem_of_lookup h1))⟩
  · have he' : env = callEnvC fd s.heap.objs.size f := he
    subst he'
    clear he
    refine ⟨(W.base.lim.keeps i.keep).keeps x.toInCall.keep, codeAny_func ?_⟩
    have lo := LOK.of_call i hgl hbn hk (hn1 ▸ hnd) hfree x
    rw [hbm] at lo
    obtain ⟨h₁, tk, e₁⟩ := x.toInCall.same
    have kp := x.toInCall.keep
    subst e₁
    have i₁ : Inv W σ { s with heap := h₁, toks := tk } := i.same fun b o e _ => kp b o e
    have p₁ : Stp W noX σ s σ { s with heap := h₁, toks := tk } := Stp.same fun b o _ e => kp b o e
    refine wpAny_mono (h _ (A.deeper (callEnvC fd s.heap.objs.size f)) _ ⟨a.hd, ?_, ?_⟩ i₁ lo) (fun fl s' ⟨σ', i', p', ρ', l', q⟩ => ?_) fun _ _ x => x.elim
    · have := a.dep; show A.depth + 1 + 3 * d ≤ 900; omega
    · have := a.un; show A.units + 3 + 9 * d ≤ 9000; omega
    · refine ⟨_, σ', rfl, i', ⟨fun b ob _ hb h0 n => ?_⟩, by cases fl <;> exact q⟩
      have hlt : b < s.heap.objs.size := Heap.lt_size hb
      have nX : ¬ Own (callEnvC fd s.heap.objs.size f) b := fun ho => by
        rcases ho with rfl | ⟨y, _, hy⟩
        · exact Nat.lt_irrefl _ hlt
        · exact Nat.lt_asymm hlt (x.above y b (mem_of_lookup hy))
      exact p'.kept b ob nX (kp b ob hb) h0 n

theorem FC_new {C fI : Addr} {args : List Value} (hm : makesIn (KK W.w) C = true) (hi : findIn (KK W.w) (.ref C) "__init__" = some (some (.ref fI))) (hf : typeIn (KK W.w) (.ref fI) = some (.type "function"))
    (h : ∀ x dd, σ x = none → σ dd = none → x ≠ dd → FC W d (.ref fI) (.ref x :: args) ((σ.set dd (.dct [])).set x (.inst C dd)) (fun v σ' => v = .none ∧ Q (.ref x) σ')) : FC W (d + 1) (.ref C) args σ Q := by
  intro A s vs a i e
  obtain ⟨hh, g, dr, t, os⟩ := s
  have hne : hh.objs.size + 1 ≠ hh.objs.size := Nat.succ_ne_self _
  have f1 := i.fresh
  have i1 : Inv W (σ.set hh.objs.size (.dct [])) ⟨hh.push emptyDict, g, dr, t, os⟩ := i.push (o := .dct []) (tk := t) ⟨[], 0, rfl, trivial⟩ rfl
  have f2 := i1.fresh
  have es : (hh.push emptyDict).objs.size = hh.objs.size + 1 := Heap.size_push ..
  rw [show (⟨hh.push emptyDict, g, dr, t, os⟩ : Shared).heap.objs.size = hh.objs.size + 1 from es] at f2
  have i2 : Inv W ((σ.set hh.objs.size (.dct [])).set (hh.objs.size + 1) (.inst C hh.objs.size)) ⟨(hh.push emptyDict).push (instObj C hh.objs.size), g, dr, t, os⟩ := by
    have := i1.push (o := .inst C hh.objs.size) (tk := t) (ob := instObj C hh.objs.size) rfl rfl
    rwa [show (⟨hh.push emptyDict, g, dr, t, os⟩ : Shared).heap.objs.size = hh.objs.size + 1 from es] at this
  have p2 : Stp W noX σ ⟨hh, g, dr, t, os⟩ ((σ.set hh.objs.size (.dct [])).set (hh.objs.size + 1) (.inst C hh.objs.size)) ⟨(hh.push emptyDict).push (instObj C hh.objs.size), g, dr, t, os⟩ := by
    have b := Stp.push (W := W) (X := noX) (σ := σ.set hh.objs.size (.dct [])) (s := ⟨hh.push emptyDict, g, dr, t, os⟩) (o := .inst C hh.objs.size) (ob := instObj C hh.objs.size) (tk := t)
    rw [show (⟨hh.push emptyDict, g, dr, t, os⟩ : Shared).heap.objs.size = hh.objs.size + 1 from es] at b
    exact (Stp.push (W := W) (X := noX) (σ := σ) (s := ⟨hh, g, dr, t, os⟩) (o := .dct []) (ob := emptyDict) (tk := t)).trans b
  have sx : σ (hh.objs.size + 1) = none := by have := f2.1; rwa [NH.set_ne _ _ hne] at this
  refine make_core (makes_of i.KI hm) (looks_findIn i.KI hi) (fun self => bind_fn i.KI self hf) (.inl rfl) ?_
  refine codeAny_mono (h _ _ sx f1.1 hne _ _ (.ref (hh.objs.size + 1) :: vs) ⟨a.hd, ?_, ?_⟩ i2 (by rw [List.map_cons, e]; rfl)) fun r s' ⟨v, σ', e', i', p', ev, q⟩ => ?_
  · have := a.dep
    have hw : (Code.builtin "type.__call__" ⟨.ref C :: vs, []⟩).weight = 1 := by kernel_rfl
    show A.depth + (Code.builtin "type.__call__" ⟨.ref C :: vs, []⟩).weight + 3 * d ≤ 900; omega
  · have := a.un
    have hw : (Code.builtin "type.__call__" ⟨.ref C :: vs, []⟩).cUnits = 1 := by kernel_rfl
    show A.units + (Code.builtin "type.__call__" ⟨.ref C :: vs, []⟩).cUnits + 9 * d ≤ 9000; omega
  · subst e'
    have : v = .none := nz_none ev
    subst this
    exact ⟨rfl, _, σ', rfl, i', p2.trans p', q⟩
end

section
variable {W : Wd} {X : Addr → Prop} {A : Around} {σ : NH} {s : Shared} {d : Nat} {env : Env} {ρ : Loc} {Q : Value → NH → Prop} {P : Bool → NH → Prop} {K : Flow → Loc → NH → Prop}

noncomputable abbrev SE (W : Wd) (d : Nat) (env : Env) (ss : List Stmt) (ρ : Loc) (σ : NH) (K : Flow → Loc → NH → Prop) : Prop := SC W d env (execs ss env) ρ σ K

noncomputable def Kont (W : Wd) (d : Nat) (env : Env) (rest : List Stmt) (K : Flow → Loc → NH → Prop) (f : Flow) (ρ : Loc) (σ : NH) : Prop :=
  match f with
  | .next => SE W d env rest ρ σ K
  | f => K f ρ σ

theorem nzF_next {f : Flow} (h : nzF f = .next) : f = .next := by cases f <;> simp [nzF] at h; rfl
theorem S_cons {st : Stmt} {rest : List Stmt} (h : SC W d env (exec st env) ρ σ (Kont W d env rest K)) : SE W d env (st :: rest) ρ σ K := fun A s a i lo => by
  refine wpAny_execs_cons (WP.then (h A s a i lo) fun f σ₁ s₁ i₁ p₁ ⟨ρ₁, l₁, q₁⟩ => ?_)
  cases f with
  | next => exact WP.after p₁ (q₁ A s₁ a i₁ l₁)
  | brk => exact ⟨σ₁, i₁, p₁, ρ₁, l₁, q₁⟩
  | cont => exact ⟨σ₁, i₁, p₁, ρ₁, l₁, q₁⟩
  | ret v => exact ⟨σ₁, i₁, p₁, ρ₁, l₁, q₁⟩
theorem S_nil (h : K .next ρ σ) : SE W d env [] ρ σ K := fun A s a i lo => wpAny_execs_nil ⟨σ, i, .refl, ρ, lo, h⟩
theorem S_ret {e : Expr} {pos : Pos} {rest : List Stmt} (h : EV W d env (eval e env) ρ σ (fun v σ₁ => K (.ret v) ρ σ₁)) : SE W d env (.Return (some e) pos :: rest) ρ σ K :=
  S_cons fun A s a i lo => wpAny_Return_some (WP.then (h A s a i lo) fun v σ₁ s₁ i₁ p₁ q₁ => ⟨σ₁, i₁, p₁.weak, ρ, lo.stp p₁, q₁⟩)
theorem S_ret0 {pos : Pos} {rest : List Stmt} (h : K (.ret .none) ρ σ) : SE W d env (.Return none pos :: rest) ρ σ K := S_cons fun A s a i lo => wpAny_Return_none ⟨σ, i, .refl, ρ, lo, h⟩
theorem S_expr {e : Expr} {pos : Pos} {rest : List Stmt} (h : EV W d env (eval e env) ρ σ (fun v σ₁ => v = .none ∧ SE W d env rest ρ σ₁ K)) (hi : interactive env = false := by rfl) (hs : swapsWith e none pos.line env = pure false := by rfl) :
    SE W d env (.Expr e pos :: rest) ρ σ K :=
  S_cons fun A s a i lo => wpAny_Expr (WP.then (h A s a i lo) fun v σ₁ s₁ i₁ p₁ ⟨q₀, q₁⟩ => by rw [nz_none q₀]; exact ⟨σ₁, i₁, p₁.weak, ρ, lo.stp p₁, q₁⟩) hi hs
theorem S_if {t : Expr} {b o : List Stmt} {pos : Pos} {rest : List Stmt} (h : BC W d env t ρ σ (fun c σ₁ => if c then SE W d env b ρ σ₁ (Kont W d env rest K) else SE W d env o ρ σ₁ (Kont W d env rest K))) :
    SE W d env (.If t b o pos :: rest) ρ σ K :=
  S_cons fun A s a i lo => by
    refine wpAny_If (WP.then (h A s a i lo) fun c σ₁ s₁ i₁ p₁ q₁ => ?_)
    cases c with
    | true => exact WP.after p₁.weak (q₁ A s₁ a i₁ (lo.stp p₁))
    | false => exact WP.after p₁.weak (q₁ A s₁ a i₁ (lo.stp p₁))

theorem S_assign {t e : Expr} {pos : Pos} {rest : List Stmt} (h : EV W d env (eval e env) ρ σ (fun v σ₁ => AC W d env (assign t env) v ρ σ₁ (fun ρ₂ σ₂ => SE W d env rest ρ₂ σ₂ K)))
    (ht : (assignEach [t] env).map (·.2) = [assign t env] := by rfl) (hs : swapsWithSole [t] e pos.line env = pure false := by rfl) (hw : swappedStores [t] e env = pure none := by rfl) :
    SE W d env (.Assign [t] e pos :: rest) ρ σ K :=
  S_cons fun A s a i lo => by
    refine wpAny_Assign_stores (WP.then (h A s a i lo) fun v σ₁ s₁ i₁ p₁ q₁ => ?_) hs hw
    rw [ht]
    exact WP.then (q₁ A s₁ v a i₁ (lo.stp p₁) rfl) fun _ σ₂ s₂ i₂ p₂ ⟨ρ₂, l₂, q₂⟩ => ⟨σ₂, i₂, p₁.weak.trans p₂, ρ₂, l₂, q₂⟩

theorem LOK.setLocal {x : Str} {v : Value} {m : Str → Option Value} {h' : Heap} {tk : Nat} (l : LOK W env ρ σ s) (hk : env.kindOf x = some .local) (hn : s.heap.Ns env.locals m)
    (hm : ∀ x v, ρ.lookup x = some v → env.kindOf x = some .local → ∃ u, m x = some u ∧ nz u = v)
    (hn' : h'.Ns env.locals (fun y => if y = x then some v else m y)) (hs : Heap.SameBut env.locals s.heap h') : LOK W env ((x, nz v) :: ρ) σ { s with heap := h', toks := tk } := by
  refine ⟨⟨_, hn', fun y u h k => ?_⟩, l.lf, l.l0, fun y hy => ?_, l.inj, l.fn, l.gl, l.bn⟩
  · rw [List.lookup_cons] at h
    cases hb : y == x with
    | true => rw [hb] at h; cases h; exact ⟨v, if_pos (beq_iff_eq.mp hb), rfl⟩
    | false =>
      rw [hb] at h
      obtain ⟨u', h1, h2⟩ := hm y u h k
      exact ⟨u', by show (if y = x then _ else _) = _; rw [if_neg (fun e => by rw [e, beq_self_eq_true] at hb; cases hb)]; exact h1, h2⟩
  · obtain ⟨c, cv, h1, h2, h3, h4, h5⟩ := l.cell y hy
    have hne : c ≠ env.locals := by
      rintro rfl
      obtain ⟨o, ho, hd⟩ := h4
      obtain ⟨o', es, ep, ho', hd', _⟩ := hn
      rw [ho] at ho'; cases ho'; rw [hd] at hd'; cases hd'
    refine ⟨c, cv, h1, h2, h3, h4.sameBut hs hne, fun u h => h5 u ?_⟩
    rw [List.lookup_cons] at h
    cases hb : y == x with
    | true => rw [beq_iff_eq.mp hb, hk] at hy; rcases hy with h | h <;> cases h
    | false => rw [hb] at h; exact h

theorem AC_local {x : Str} {pos : Pos} {v : Value} {L : Loc → NH → Prop} (hk : env.kindOf x = some .local) (h : L ((x, v) :: ρ) σ) : AC W d env (assign (.Name x pos) env) v ρ σ L := fun A s u a i lo e => by
  subst e
  obtain ⟨m, hn, hm⟩ := lo.ns
  have hp : (env.scope.kind == .class || (env.scope.kind == .module && env.locals != env.globals)) = false := by rw [lo.fn]; rfl
  refine wpAny_assign_Name (wpAny_storeName_local hk hn (fun h' hn' hs => ?_) hp)
  refine ⟨σ, i.same fun b o e hb => (hs.2 b ?_).trans e, Stp.same fun b o hb e => (hs.2 b ?_).trans e, _, lo.setLocal hk hn hm hn' hs, h⟩
  · rintro rfl
    rcases hb with hb | hb
    · exact hb lo.l0
    · exact hb lo.lf
  · rintro rfl; exact hb (.inl rfl)

theorem AC_cell {x : Str} {pos : Pos} {v : Value} {L : Loc → NH → Prop} (hk : env.kindOf x = some .cell) (h : L ((x, v) :: ρ) σ) : AC W d env (assign (.Name x pos) env) v ρ σ L := fun A s u a i lo e => by
  subst e
  obtain ⟨m, hn, hm⟩ := lo.ns
  obtain ⟨c, cv, h1, h2, h3, h4, h5⟩ := lo.cell x (.inl hk)
  refine wpAny_assign_Name (wpAny_storeName_cell lo.fn hk h1 h4 fun h' hc' hs => ?_)
  have hne : c ≠ env.locals := by
    rintro rfl
    obtain ⟨o, ho, hd⟩ := h4
    obtain ⟨o', es, ep, ho', hd', _⟩ := hn
    rw [ho] at ho'; cases ho'; rw [hd] at hd'; cases hd'
  refine ⟨σ, i.same (tk := s.toks) fun b o e hb => (hs.2 b ?_).trans e, Stp.same (tk := s.toks) fun b o hb e => (hs.2 b ?_).trans e, (x, nz u) :: ρ, ?_, h⟩
  · rintro rfl
    rcases hb with hb | hb
    · exact hb h3
    · exact hb h2
  · rintro rfl; exact hb (.inr ⟨x, .inl hk, h1⟩)
  · refine ⟨⟨m, hn.sameBut hs (Ne.symm hne), fun y w hy k => hm y w ?_ k⟩, lo.lf, lo.l0, fun y hy => ?_, lo.inj, lo.fn, lo.gl, lo.bn⟩
    · rw [List.lookup_cons] at hy
      cases hb : y == x with
      | true => rw [beq_iff_eq.mp hb, hk] at k; cases k
      | false => rw [hb] at hy; exact hy
    · obtain ⟨c', cv', g1, g2, g3, g4, g5⟩ := lo.cell y hy
      by_cases he : c' = c
      · subst he
        have := lo.inj y x c' g1 h1
        subst this
        exact ⟨c', _, g1, g2, g3, hc', fun w hw => by rw [List.lookup_cons, beq_self_eq_true] at hw; cases hw; rfl⟩
      · refine ⟨c', cv', g1, g2, g3, g4.sameBut hs he, fun w hw => g5 w ?_⟩
        rw [List.lookup_cons] at hw
        cases hb : y == x with
        | true =>
          rw [beq_iff_eq.mp hb] at g1
          rw [h1] at g1; cases g1; exact absurd rfl he
        | false => rw [hb] at hw; exact hw

theorem AC_seq {t₁ t₂ : Value → Sem Unit} {x y : Value} {L : Loc → NH → Prop} {u w : Value} (hx : nz u = x) (hy : nz w = y) (h : AC W d env t₁ x ρ σ (fun ρ₁ σ₁ => AC W d env t₂ y ρ₁ σ₁ L)) (a : AOK d A) (i : Inv W σ s) (lo : LOK W env ρ σ s) :
    WP W (Own env) A (assignInOrder [t₁, t₂] [u, w]) σ s (fun _ σ' s' => ∃ ρ', LOK W env ρ' σ' s' ∧ L ρ' σ') := by
  refine wpAny_bind (wpAny_holding (WP.then (h A s u a i lo hx) fun _ σ₁ s₁ i₁ p₁ ⟨ρ₁, l₁, q₁⟩ => ?_))
  refine wpAny_bind (wpAny_holding (WP.then (q₁ A s₁ w a i₁ l₁ hy) fun _ σ₂ s₂ i₂ p₂ ⟨ρ₂, l₂, q₂⟩ => ?_))
  exact wpAny_pure ⟨σ₂, i₂, p₁.trans p₂, ρ₂, l₂, q₂⟩

theorem AC_tuple {e₁ e₂ : Expr} {k : Nat} {pos : Pos} {t : Addr} {x y : Value} {L : Loc → NH → Prop} (ht : σ t = some (.tup [x, y])) (h : AC W d env (assign e₁ env) x ρ σ (fun ρ₁ σ₁ => AC W d env (assign e₂ env) y ρ₁ σ₁ L))
    (hs : assignEach [e₁, e₂] env = [(false, assign e₁ env), (false, assign e₂ env)] := by rfl) : AC W d env (assign (.Tuple [e₁, e₂] k pos) env) (.ref t) ρ σ L := fun A s v a i lo e => by
  rw [nz_ref e]
  obtain ⟨items, n, ho, hm⟩ := i.tuple ht
  obtain ⟨l⟩ := items
  match l, hm with
  | [u, w], hm =>
    simp only [List.map_cons, List.map_nil, List.cons.injEq, and_true] at hm
    refine wpAny_assign_Tuple a.hd ⟨_, ho, rfl, n, rfl⟩ (by rw [hs]; rfl) (by rw [hs]; rfl) fun h' hx => ?_
    have k1 : ∀ b o, s.heap.get? b = some o → h'.get? b = some o := fun b o e => hx b o (Nat.ne_of_lt (Heap.lt_size e)) e
    have i₁ : Inv W σ { s with heap := h' } := i.same (tk := s.toks) fun b o e _ => k1 b o e
    have p₁ : Stp W noX σ s σ { s with heap := h' } := Stp.same (tk := s.toks) fun b o _ e => k1 b o e
    rw [hs]
    exact WP.after p₁.weak (AC_seq hm.1 hm.2 h a i₁ (lo.stp p₁))

theorem AC_attr {o : Expr} {name : Str} {pos : Pos} {v : Value} {L : Loc → NH → Prop} (h : EV W d env (eval o env) ρ σ (fun y σ₁ => ∃ x C dd m, y = .ref x ∧ σ₁ x = some (.inst C dd) ∧ σ₁ dd = some (.dct m) ∧ AttrOK W C name ∧ m.length ≤ 900 ∧ L ρ (σ₁.set dd (.dct (putA name v m))))) :
    AC W d env (assign (.Attribute o name pos) env) v ρ σ L := fun A s u a i lo e => by
  subst e
  show wpAny W.M A (do
    let ov ← holding [u] (eval o env)
    standAt pos.atName
    holding [u, ov] (setAttr ov name u)
    release [u, ov] []) _ _ s
  refine wpAny_bind (wpAny_holding (WP.then (h A s a i lo) fun y σ₁ s₁ i₁ p₁ q₁ => ?_))
  obtain ⟨x, C, dd, m, ey, h1, h2, ok, h3, q⟩ := q₁
  rw [nz_ref ey]
  refine wpAny_bind (wpAny_standAt (wpAny_bind (wpAny_holding (WP.then (WP_setAttr (X := noX) (K := fun σ' => L ρ σ') i₁ h1 h2 ok h3 q) fun _ σ₂ s₂ i₂ p₂ q₂ => ?_))))
  exact wpAny_release' ⟨σ₂, i₂, (p₁.trans p₂).weak, ρ, lo.stp (p₁.trans p₂), q₂⟩

theorem AC_item {o ie : Expr} {pos : Pos} {v : Value} {L : Loc → NH → Prop} (h : EV W d env (eval o env) ρ σ (fun x σ₁ => EV W d env (eval ie env) ρ σ₁ (fun y σ₂ => ∃ l xs k, x = .ref l ∧ σ₂ l = some (.list xs) ∧ y = .int k 0 ∧ 0 ≤ k ∧ k < 1000000 ∧ k.toNat < xs.length ∧ L ρ (σ₂.set l (.list (xs.set k.toNat v)))))) :
    AC W d env (assign (.Subscript o ie pos) env) v ρ σ L := fun A s u a i lo e => by
  subst e
  unfold WP
  rw [arm_assign_Subscript]
  refine wpAny_bind (wpAny_holding (WP.then (h A s a i lo) fun x σ₁ s₁ i₁ p₁ q₁ => wpAny_bind (wpAny_holding (WP.then (q₁ A s₁ a i₁ (lo.stp p₁)) fun y σ₂ s₂ i₂ p₂ q₂ => ?_))))
  obtain ⟨l, xs, k, ex, h1, ey, h0, hk, hlt, q⟩ := q₂
  rw [nz_ref ex]
  obtain ⟨t, rfl⟩ := nz_int ey
  obtain ⟨items, n, ho, rfl⟩ := i₂.list h1
  have hlt' : k.toNat < items.size := by simpa using hlt
  refine wpAny_bind (wpAny_standAt (wpAny_bind (wpAny_holding (ki_setAt ho h0 (by omega) (by omega) ?_))))
  have e : Obj.mapSeq (·.setIfInBounds k.toNat u) (listOf items n) = { cls := .type "list", data := .seq (items.setIfInBounds k.toNat u) n } := by simp [Obj.mapSeq]
  have i₃ : Inv W (σ₂.set l (.list ((items.toList.map nz).set k.toNat (nz u)))) { s₂ with heap := s₂.heap.update l (Obj.mapSeq (·.setIfInBounds k.toNat u)) } :=
    i₂.upd (tk := s₂.toks) h1 (fun _ h => by cases h) ho (by rw [e]; exact ⟨_, _, rfl, by simp [List.map_set]⟩) (by rw [e]; rfl)
  have p₃ : Stp W noX σ₂ s₂ (σ₂.set l (.list ((items.toList.map nz).set k.toNat (nz u)))) { s₂ with heap := s₂.heap.update l (Obj.mapSeq (·.setIfInBounds k.toNat u)) } := .upd (tk := s₂.toks) h1
  exact wpAny_release' ⟨_, i₃, ((p₁.trans p₂).trans p₃).weak, ρ, lo.stp ((p₁.trans p₂).trans p₃), q⟩

theorem S_while {t : Expr} {b : List Stmt} {pos : Pos} {rest : List Stmt} (I : Nat → Loc → NH → Prop) (n : Nat) (h0 : I n ρ σ)
    (step : ∀ n ρ' σ', I n ρ' σ' → BC W d env t ρ' σ' (fun c σ₁ => if c then SE W d env b ρ' σ₁ (fun f ρ₂ σ₂ => match f with
      | .next | .cont => ∃ m, m < n ∧ I m ρ₂ σ₂
      | .brk => SE W d env rest ρ₂ σ₂ K
      | .ret v => K (.ret v) ρ₂ σ₂) else SE W d env rest ρ' σ₁ K)) : SE W d env (.While t b [] pos :: rest) ρ σ K :=
  S_cons fun A s a i lo => by
    refine wpAny_While ?_
    have ha : A.mark none = A := by cases A; rfl
    refine codeAny_mono (R := fun r s' => ∃ f σ' ρ', r = .ok f ∧ Inv W σ' s' ∧ Stp W (Own env) σ s σ' s' ∧ LOK W env ρ' σ' s' ∧ Kont W d env rest K (nzF f) ρ' σ') ?_ fun r s' ⟨f, σ', ρ', e, i', p', l', q⟩ => by
      subst e; exact ⟨σ', i', p', ρ', l', q⟩
    refine codeAny_whileLoop (fun n s' => ∃ σ' ρ', Inv W σ' s' ∧ Stp W (Own env) σ s σ' s' ∧ LOK W env ρ' σ' s' ∧ I n ρ' σ') (fun n s' ⟨σ', ρ', i', p', l', q⟩ => ?_) n ⟨σ, ρ, i, .refl, lo, h0⟩
    refine wpAny_mono (step n ρ' σ' q A s' a i' l') (fun c s₁ ⟨σ₁, i₁, p₁, q₁⟩ => ?_) fun _ _ x => x.elim
    cases c with
    | false =>
      exact wpAny_execs_nil ⟨.next, σ₁, ρ', rfl, i₁, p'.trans p₁.weak, l'.stp p₁, q₁⟩
    | true =>
      refine wpAny_mono (q₁ A s₁ a i₁ (l'.stp p₁)) (fun f s₂ ⟨σ₂, i₂, p₂, ρ₂, l₂, q₂⟩ => ?_) fun _ _ x => x.elim
      have P := (p'.trans p₁.weak).trans p₂
      cases f with
      | next => obtain ⟨m, hm, hi⟩ := q₂; exact ⟨m, hm, σ₂, ρ₂, i₂, P, l₂, hi⟩
      | cont => obtain ⟨m, hm, hi⟩ := q₂; exact ⟨m, hm, σ₂, ρ₂, i₂, P, l₂, hi⟩
      | brk => exact ⟨.next, σ₂, ρ₂, rfl, i₂, P, l₂, q₂⟩
      | ret v => exact ⟨.ret v, σ₂, ρ₂, rfl, i₂, P, l₂, q₂⟩
end

structure Itr (W : Wd) (it : Value) (xs : List Value) (src : NH → Prop) (J : Nat → Heap → Prop) (fp : List Addr) : Prop where
  next : ∀ (A : Around) (σ : NH) (s : Shared) (i : Nat) (x : Value), A.handled = none → Inv W σ s → src σ → (∀ a ∈ fp, σ a = none ∧ W.h0.get? a = none) → J i s.heap → xs[i]? = some x →
    wpAny W.M A (pyNext it) (fun r s' => ∃ v, r = some v ∧ nz v = x ∧ Inv W σ s' ∧ Stp W (· ∈ fp) σ s σ s' ∧ J (i + 1) s'.heap ∧ ∀ a ∈ fp, ∃ o, s'.heap.get? a = some o) (fun _ _ => False) s
  done : ∀ (A : Around) (σ : NH) (s : Shared), A.handled = none → Inv W σ s → src σ → (∀ a ∈ fp, σ a = none ∧ W.h0.get? a = none) → J xs.length s.heap →
    wpAny W.M A (pyNext it) (fun r s' => r = none ∧ Inv W σ s' ∧ Stp W (· ∈ fp) σ s σ s') (fun _ _ => False) s
  stable : ∀ i h h', J i h → (∀ a ∈ fp, ∀ o, h.get? a = some o → h'.get? a = some o) → J i h'
  self : ∀ (A : Around) (s : Shared) (i : Nat) (Q : Value → Shared → Prop) (E : Value → Shared → Prop), J i s.heap → Q it s → wpAny W.M A (pyIter it) Q E s
  go : ∀ (A : Around) (s : Shared) (i : Nat) (v : Value) (target : Expr) (Q : Unit → Shared → Prop) (E : Value → Shared → Prop), J i s.heap → Q () s → wpAny W.M A (letOwnedTupleGo target it v) Q E s

theorem go_plain {M : Model} {A : Around} {s : Shared} {E : Value → Shared → Prop} {I : Addr} {o : Obj} {n : String} {vs : Array Value} {target : Expr} {v : Value} {Q : Unit → Shared → Prop} (ho : s.heap.get? I = some o) (hc : o.cls = .type n) (hd : o.data = .fields vs)
    (hn : n = "list_iterator" ∨ n = "tuple_iterator" ∨ n = "range_iterator" ∨ n = "list_reverseiterator") (h : Q () s) : wpAny M A (letOwnedTupleGo target (.ref I) v) Q E s := by
  unfold letOwnedTupleGo
  cases target
  case Tuple | List =>
    cases v
    case ref a =>
      refine wpAny_bind (wpAny_load ho ?_)
      rw [hc, hd]
      rcases hn with rfl | rfl | rfl | rfl <;> exact wpAny_pure h
    all_goals exact wpAny_pure h
  all_goals exact wpAny_pure h

section
variable {W : Wd} {X : Addr → Prop} {A : Around} {σ : NH} {s : Shared} {d : Nat} {env : Env} {ρ : Loc} {Q : Value → NH → Prop} {K : Flow → Loc → NH → Prop}

theorem Inv.sameBut {I : Addr} {h' : Heap} {tk : Nat} (i : Inv W σ s) (h1 : σ I = none) (h2 : W.h0.get? I = none) (hs : Heap.ExtBut I s.heap h') : Inv W σ { s with heap := h', toks := tk } :=
  i.same fun b o e hb => hs b o (by rintro rfl; rcases hb with hb | hb; exact hb h2; exact hb h1) e
theorem Stp.sameBut {I : Addr} {h' : Heap} {tk : Nat} (hX : X I) (hs : Heap.ExtBut I s.heap h') : Stp W X σ s σ { s with heap := h', toks := tk } :=
  Stp.same fun b o hb e => hs b o (by rintro rfl; exact hb hX) e

theorem Itr.list (I a : Addr) (xs : List Value) : Itr W (.ref I) xs (fun σ => σ a = some (.list xs)) (fun i h => h.IsListIter I a i) [I] where
  next := fun A σ s i x hh iv hs hf hJ hx => by
    obtain ⟨items, n, ho, rfl⟩ := iv.list hs
    rw [List.getElem?_map] at hx
    obtain ⟨y, hy, rfl⟩ := Option.map_eq_some_iff.mp hx
    obtain ⟨f1, f2⟩ := hf I (by simp)
    refine wpAny_pyNext_list_item hJ ⟨_, ho, rfl, n, rfl⟩ (x := y) (by simpa using hy) fun h' hit hs' => ?_
    exact ⟨y, rfl, rfl, iv.sameBut (tk := s.toks) f1 f2 hs'.extBut, Stp.sameBut (tk := s.toks) (by simp) hs'.extBut, hit, fun b hb => by
      obtain rfl : b = I := by simpa using hb
      obtain ⟨o, ho, _⟩ := hit; exact ⟨o, ho⟩⟩
  done := fun A σ s hh iv hs hf hJ => by
    obtain ⟨items, n, ho, rfl⟩ := iv.list hs
    obtain ⟨f1, f2⟩ := hf I (by simp)
    exact wpAny_pyNext_list_end hh hJ ⟨_, ho, rfl, n, rfl⟩ (by simp) fun h' he => ⟨rfl, iv.sameBut (tk := s.toks) f1 f2 he, Stp.sameBut (tk := s.toks) (by simp) he⟩
  stable := fun i h h' ⟨o, ho, r⟩ k => ⟨o, k I (by simp) o ho, r⟩
  self := fun A s i Q E hJ hq => wpAny_pyIter_listiter hJ hq
  go := fun A s i v target Q E ⟨o, ho, hc, hd⟩ hq => go_plain ho hc hd (by decide) hq

theorem Itr.tup (I a : Addr) (xs : List Value) : Itr W (.ref I) xs (fun σ => σ a = some (.tup xs)) (fun i h => h.IsTupleIter I a i) [I] where
  next := fun A σ s i x hh iv hs hf hJ hx => by
    obtain ⟨items, n, ho, rfl⟩ := iv.tuple hs
    rw [List.getElem?_map] at hx
    obtain ⟨y, hy, rfl⟩ := Option.map_eq_some_iff.mp hx
    obtain ⟨f1, f2⟩ := hf I (by simp)
    refine wpAny_pyNext_tuple_item hJ ⟨_, ho, rfl, n, rfl⟩ (x := y) (by simpa using hy) fun h' hit hs' => ?_
    exact ⟨y, rfl, rfl, iv.sameBut (tk := s.toks) f1 f2 hs'.extBut, Stp.sameBut (tk := s.toks) (by simp) hs'.extBut, hit, fun b hb => by
      obtain rfl : b = I := by simpa using hb
      obtain ⟨o, ho, _⟩ := hit; exact ⟨o, ho⟩⟩
  done := fun A σ s hh iv hs hf hJ => by
    obtain ⟨items, n, ho, rfl⟩ := iv.tuple hs
    obtain ⟨f1, f2⟩ := hf I (by simp)
    exact wpAny_pyNext_tuple_end hh hJ ⟨_, ho, rfl, n, rfl⟩ (by simp) fun h' he => ⟨rfl, iv.sameBut (tk := s.toks) f1 f2 he, Stp.sameBut (tk := s.toks) (by simp) he⟩
  stable := fun i h h' ⟨o, ho, r⟩ k => ⟨o, k I (by simp) o ho, r⟩
  self := fun A s i Q E hJ hq => wpAny_pyIter_tupleiter hJ hq
  go := fun A s i v target Q E ⟨o, ho, hc, hd⟩ hq => go_plain ho hc hd (by decide) hq

noncomputable def rangeL (a : Int) (n : Nat) : List Value := (List.range n).map fun (k : Nat) => .int (a + k) 0
theorem rangeL_len (a : Int) (n : Nat) : (rangeL a n).length = n := by simp [rangeL]
theorem rangeL_get {a : Int} {n i : Nat} {x : Value} (h : (rangeL a n)[i]? = some x) : i < n ∧ x = .int (a + i) 0 := by
  unfold rangeL at h
  rw [List.getElem?_map] at h
  obtain ⟨k, hk, rfl⟩ := Option.map_eq_some_iff.mp h
  have hi : i < n := by
    rcases Nat.lt_or_ge i n with h | h
    · exact h
    · rw [List.getElem?_eq_none (by simpa using h)] at hk; cases hk
  rw [List.getElem?_range hi] at hk
  cases hk
  exact ⟨hi, rfl⟩

theorem Itr.range (I : Addr) (a : Int) (n : Nat) : Itr W (.ref I) (rangeL a n) (fun _ => True) (fun i h => IsRangeIter h I (a + i) ((n : Int) - (i : Nat)) 1) [I] where
  next := fun A σ s i x hh iv hs hf hJ hx => by
    obtain ⟨hi, rfl⟩ := rangeL_get hx
    obtain ⟨f1, f2⟩ := hf I (by simp)
    refine wpAny_pyNext_range_item hJ (by omega) fun h' hit hs' => ?_
    refine ⟨_, rfl, rfl, iv.sameBut f1 f2 hs'.extBut, Stp.sameBut (by simp) hs'.extBut, ?_, fun b hb => ?_⟩
    · have e1 : a + ((i + 1 : Nat) : Int) = a + (i : Int) + 1 := by push_cast; omega
      have e2 : (n : Int) - ((i + 1 : Nat) : Int) = (n : Int) - (i : Int) - 1 := by push_cast; omega
      rw [e1, e2]; exact hit
    · obtain rfl : b = I := by simpa using hb
      exact ⟨_, hit⟩
  done := fun A σ s hh iv hs hf hJ => by
    obtain ⟨f1, f2⟩ := hf I (by simp)
    rw [rangeL_len] at hJ
    exact wpAny_pyNext_range_end hh hJ (by omega) fun h' he => ⟨rfl, iv.sameBut (tk := s.toks) f1 f2 he, Stp.sameBut (tk := s.toks) (by simp) he⟩
  stable := fun i h h' hJ k => k I (by simp) _ hJ
  self := fun A s i Q E hJ hq => wpAny_pyIter_rangeiter hJ hq
  go := fun A s i v target Q E hJ hq => go_plain hJ rfl rfl (by decide) hq

theorem Itr.rev (I a : Addr) (xs : List Value) : Itr W (.ref I) xs.reverse (fun σ => σ a = some (.list xs)) (fun i h => i ≤ xs.length ∧ h.IsRevIter I a ((xs.length : Int) - 1 - (i : Int))) [I] where
  next := fun A σ s i x hh iv hs hf hJ hx => by
    obtain ⟨items, n, ho, rfl⟩ := iv.list hs
    obtain ⟨hle, hJ⟩ := hJ
    have hlt : i < (items.toList.map nz).reverse.length := by
      rcases Nat.lt_or_ge i (items.toList.map nz).reverse.length with h | h
      · exact h
      · rw [List.getElem?_eq_none h] at hx; cases hx
    have hlt' : i < items.size := by simpa using hlt
    rw [List.getElem?_reverse (by simpa using hlt)] at hx
    simp only [List.length_map, Array.length_toList, List.getElem?_map] at hx hJ hle
    obtain ⟨y, hy, rfl⟩ := Option.map_eq_some_iff.mp hx
    obtain ⟨f1, f2⟩ := hf I (by simp)
    have e : (items.size : Int) - 1 - (i : Int) = ((items.size - 1 - i : Nat) : Int) := by omega
    rw [e] at hJ
    refine wpAny_pyNext_rev_item hJ ⟨_, ho, rfl, n, rfl⟩ (x := y) (by simpa using hy) fun h' hit hs' => ?_
    refine ⟨y, rfl, rfl, iv.sameBut (tk := s.toks) f1 f2 hs'.extBut, Stp.sameBut (tk := s.toks) (by simp) hs'.extBut, ⟨by simp only [List.length_map, Array.length_toList]; omega, ?_⟩, fun b hb => ?_⟩
    · have e2 : ((items.size - 1 - i : Nat) : Int) - 1 = (((items.toList.map nz).length : Nat) : Int) - 1 - ((i + 1 : Nat) : Int) := by simp only [List.length_map, Array.length_toList]; omega
      rw [e2] at hit; exact hit
    · obtain rfl : b = I := by simpa using hb
      obtain ⟨o, ho, _⟩ := hit; exact ⟨o, ho⟩
  done := fun A σ s hh iv hs hf hJ => by
    obtain ⟨f1, f2⟩ := hf I (by simp)
    obtain ⟨_, hJ⟩ := hJ
    rw [List.length_reverse, show (xs.length : Int) - 1 - (xs.length : Int) = -1 by omega] at hJ
    exact wpAny_pyNext_rev_end hh hJ fun h' he => ⟨rfl, iv.sameBut (tk := s.toks) f1 f2 he, Stp.sameBut (tk := s.toks) (by simp) he⟩
  stable := fun i h h' hJ k => ⟨hJ.1, let ⟨o, ho, r⟩ := hJ.2; ⟨o, k I (by simp) o ho, r⟩⟩
  self := fun A s i Q E hJ hq => wpAny_pyIter_revIter hJ.2 hq
  go := fun A s i v target Q E hJ hq => let ⟨o, ho, hc, hd⟩ := hJ.2; go_plain ho hc hd (by decide) hq

noncomputable def IV (W : Wd) (d : Nat) (env : Env) (iter : Expr) (ρ : Loc) (σ : NH) (Kk : List Value → (NH → Prop) → NH → Prop) : Prop :=
  ∀ A s, AOK d A → Inv W σ s → LOK W env ρ σ s → wpAny W.M A (eval iter env) (fun x s₁ => wpAny W.M A (pyIter x) (fun it s₂ => ∃ xs src J fp σ₂, Itr W it xs src J fp ∧ Inv W σ₂ s₂ ∧ Stp W noX σ s σ₂ s₂ ∧ J 0 s₂.heap ∧
    (∀ a ∈ fp, σ₂ a = none ∧ W.h0.get? a = none ∧ (σ a = none → s.heap.get? a = none) ∧ ∃ o, s₂.heap.get? a = some o) ∧ Kk xs src σ₂) (fun _ _ => False) s₁) (fun _ _ => False) s

theorem gone {σ' : NH} {s' : Shared} {a : Addr} (p : Stp W noX σ s σ' s') (h0 : W.h0.get? a = none) (h : s'.heap.get? a = none) (hs : σ a = none) : s.heap.get? a = none := by
  cases q : s.heap.get? a with
  | none => rfl
  | some o => obtain ⟨x, _⟩ := p.kept a o (fun h => h) q h0 hs; rw [h] at x; cases x
theorem none_at_size (h : Heap) : h.get? h.objs.size = none := by
  cases q : h.get? h.objs.size with
  | none => rfl
  | some o => exact absurd (Heap.lt_size q) (Nat.lt_irrefl _)

noncomputable def SrcV (W : Wd) (σ : NH) (x : Value) (xs : List Value) (src : NH → Prop) : Prop :=
  (∃ a, x = .ref a ∧ σ a = some (.list xs) ∧ src = fun σ => σ a = some (.list xs)) ∨ (∃ a, x = .ref a ∧ σ a = some (.tup xs) ∧ src = fun σ => σ a = some (.tup xs)) ∨
  (∃ r a b, x = .ref r ∧ σ r = some (.rng a b 1) ∧ -1000000 < a ∧ a < 1000000 ∧ -1000000 < b ∧ b < 1000000 ∧ xs = rangeL a (b - a).toNat ∧ src = fun _ => True)
theorem SrcV.list {a : Addr} {xs : List Value} (h : σ a = some (.list xs)) : SrcV W σ (.ref a) xs (fun σ => σ a = some (.list xs)) := .inl ⟨a, rfl, h, rfl⟩
theorem SrcV.tup {a : Addr} {xs : List Value} (h : σ a = some (.tup xs)) : SrcV W σ (.ref a) xs (fun σ => σ a = some (.tup xs)) := .inr (.inl ⟨a, rfl, h, rfl⟩)
theorem SrcV.rng {r : Addr} {a b : Int} (h : σ r = some (.rng a b 1)) (h1 : -1000000 < a) (h2 : a < 1000000) (h3 : -1000000 < b) (h4 : b < 1000000) : SrcV W σ (.ref r) (rangeL a (b - a).toNat) (fun _ => True) :=
  .inr (.inr ⟨r, a, b, rfl, h, h1, h2, h3, h4, rfl, rfl⟩)

theorem IV_src {iter : Expr} {Kk : List Value → (NH → Prop) → NH → Prop} (h : EV W d env (eval iter env) ρ σ (fun x σ₁ => ∃ xs src, SrcV W σ₁ x xs src ∧ Kk xs src σ₁)) : IV W d env iter ρ σ Kk := fun A s a i lo => by
  refine WP.then (h A s a i lo) fun x σ₁ s₁ i₁ p₁ ⟨xs, src, hv, q⟩ => ?_
  have push : ∀ ob : Obj, ob.isFreed = false → Inv W σ₁ { s₁ with heap := s₁.heap.push ob } ∧ Stp W noX σ₁ s₁ σ₁ { s₁ with heap := s₁.heap.push ob } := fun ob _ =>
    ⟨i₁.same (tk := s₁.toks) fun b o e _ => Heap.get?_push_of_some _ e, Stp.same (tk := s₁.toks) fun b o _ e => Heap.get?_push_of_some _ e⟩
  have fp : ∀ ob : Obj, ob.isFreed = false → ∀ a ∈ [s₁.heap.objs.size], σ₁ a = none ∧ W.h0.get? a = none ∧ (σ a = none → s.heap.get? a = none) ∧ ∃ o, (s₁.heap.push ob).get? a = some o := fun ob hf b hb => by
    obtain rfl : b = s₁.heap.objs.size := by simpa using hb
    exact ⟨i₁.fresh.1, i₁.fresh.2, gone p₁ i₁.fresh.2 (none_at_size _), ob, Heap.get?_push_size _ hf⟩
  rcases hv with ⟨b, e, hb, rfl⟩ | ⟨b, e, hb, rfl⟩ | ⟨r, b, c, e, hr, h1, h2, h3, h4, rfl, rfl⟩
  · rw [nz_ref e]
    obtain ⟨items, n, ho, hm⟩ := i₁.list hb
    refine wpAny_pyIter_list ⟨_, ho, rfl, n, rfl⟩ ⟨xs, _, _, _, σ₁, Itr.list s₁.heap.objs.size b xs, (push _ rfl).1, p₁.trans (push _ rfl).2, ⟨_, Heap.get?_push_size _ rfl, rfl, rfl⟩, fp _ rfl, q⟩
  · rw [nz_ref e]
    obtain ⟨items, n, ho, hm⟩ := i₁.tuple hb
    refine wpAny_pyIter_tuple ⟨_, ho, rfl, n, rfl⟩ ⟨xs, _, _, _, σ₁, Itr.tup s₁.heap.objs.size b xs, (push _ rfl).1, p₁.trans (push _ rfl).2, ⟨_, Heap.get?_push_size _ rfl, rfl, rfl⟩, fp _ rfl, q⟩
  · rw [nz_ref e]
    obtain ⟨ob, ho, t, u, v, rfl⟩ := i₁.rep r _ hr
    have hsz : Builtin.Range.rangeSize b c 1 = ((c - b).toNat : Int) := by rw [rangeSize_one]; split <;> omega
    refine wpAny_pyIter_range ho (small_one (by omega) (by omega) (by omega) (by omega)) ⟨_, _, _, _, σ₁, Itr.range s₁.heap.objs.size b (c - b).toNat, (push _ rfl).1, p₁.trans (push _ rfl).2, ?_, fp _ rfl, q⟩
    show Heap.get? (s₁.heap.push _) s₁.heap.objs.size = _
    rw [Heap.get?_push_size _ rfl, hsz]
    simp [rawInt]

theorem IV_rev {e : Expr} {p pos : Pos} {Kk : List Value → (NH → Prop) → NH → Prop} (hk : env.kindOf "reversed" = some .globalImplicit) (hg : nsIn (KK W.w) mainGlobals "reversed" = some none) (hb : bootBuiltins "reversed" = some (.type "reversed"))
    (h : EV W d env (eval e env) ρ σ (fun x σ₁ => ∃ a xs, x = .ref a ∧ σ₁ a = some (.list xs) ∧ Kk xs.reverse (fun σ => σ a = some (.list xs)) σ₁))
    (hs : starEach [e] env = [(false, eval e env)] := by rfl) : IV W d env (.Call (.Name "reversed" p) [e] [] pos) ρ σ Kk := fun A s a i lo => by
  obtain ⟨mg, hG⟩ := W.base.ma
  obtain ⟨mb, hB, hbb⟩ := W.base.bi
  have e0 := mg_none_of W.base.X hG hg
  rw [arm_eval_Call_Name']
  refine wpAny_bind (Calls.Name_function_global lo.fn hk (Calls.loadGlobal_builtin (lo.gl ▸ hG.keeps i.keep) e0 (lo.bn ▸ hB.keeps i.keep) ((hbb _ (by decide)).trans hb) ?_) (by decide))
  have e1 : backTo pos (starEach [e] env) = [(false, eval e env)] := by rw [hs]; rfl
  rw [e1]
  refine callWith_of (P := fun _ => True) rfl (fun _ _ => ⟨.machine, .inr (.inl rfl), Looks.of_pure rfl⟩) (Calls.evalArgs_plain (Calls.spliced_cons (WP.then (h A s a i lo) fun x σ₁ s₁ i₁ p₁ ⟨b, xs, ex, hb', q⟩ => Calls.spliced_nil ⟨trivial, ?_⟩)))
  rw [nz_ref ex]
  obtain ⟨items, n, ho, hm⟩ := i₁.list hb'
  refine call_reversed_list ⟨_, ho, rfl, n, rfl⟩ ?_
  have hI : (s₁.heap.push (revObj b ((items.size : Int) - 1))).IsRevIter s₁.heap.objs.size b ((items.size : Int) - 1) := ⟨_, Heap.get?_push_size _ rfl, rfl, rfl⟩
  refine wpAny_pyIter_revIter hI ⟨_, _, _, _, σ₁, Itr.rev s₁.heap.objs.size b xs, i₁.same (tk := s₁.toks) fun b o e _ => Heap.get?_push_of_some _ e, p₁.trans (Stp.same (tk := s₁.toks) fun b o _ e => Heap.get?_push_of_some _ e), ⟨Nat.zero_le _, ?_⟩, fun c hc => ?_, q⟩
  · rw [← hm]; simpa using hI
  · obtain rfl : c = s₁.heap.objs.size := by simpa using hc
    exact ⟨i₁.fresh.1, i₁.fresh.2, gone p₁ i₁.fresh.2 (none_at_size _), _, Heap.get?_push_size _ rfl⟩

theorem my_forLoop {R : Result → Shared → Prop} {target : Expr} {it : Value} {body : List Stmt} (I : Nat → Shared → Prop)
    (turn : ∀ n s, I n s → wpAny W.M A (pyNext it) (fun r s₁ => match r with
      | none => R (.ok .next) s₁
      | some v => wpAny W.M A (letOwnedTupleGo target it v) (fun _ s₁' => wpAny W.M A (assign target env v) (fun _ s₂ => wpAny W.M A (execs body env) (fun f s₃ => match f with
          | .next | .cont => ∃ m, m < n ∧ I m s₃
          | .brk => R (.ok .next) s₃
          | .ret v => R (.ok (.ret v)) s₃) (fun _ _ => False) s₂) (fun _ _ => False) s₁') (fun _ _ => False) s₁) (fun _ _ => False) s)
    (n : Nat) (h : I n s) : codeAny W.M A (.forLoop target it body [] env) R s :=
  codeAny_forLoop_any I (fun n s hI => wpAny_mono (turn n s hI) (fun r s₁ h₁ => by
    cases r with
    | none => exact wpAny_execs_nil h₁
    | some v => exact wpAny_mono h₁ (fun _ _ g => wpAny_mono g (fun _ _ g => wpAny_mono g (fun _ _ g => g) fun _ _ x => x.elim) fun _ _ x => x.elim) fun _ _ x => x.elim) fun _ _ x => x.elim) n h

theorem S_for {target iter : Expr} {body : List Stmt} {pos : Pos} {rest : List Stmt}
    (h : IV W d env iter ρ σ (fun xs src σ₁ => ∃ I : Nat → Loc → NH → Prop, I 0 ρ σ₁ ∧ (∀ i ρ' σ', I i ρ' σ' → src σ') ∧
      (∀ i v ρ' σ', xs[i]? = some v → I i ρ' σ' → AC W d env (assign target env) v ρ' σ' (fun ρ₂ σ₂ => SE W d env body ρ₂ σ₂ (fun f ρ₃ σ₃ => match f with
        | .next | .cont => I (i + 1) ρ₃ σ₃
        | .brk => SE W d env rest ρ₃ σ₃ K
        | .ret v => K (.ret v) ρ₃ σ₃))) ∧ (∀ ρ' σ', I xs.length ρ' σ' → SE W d env rest ρ' σ' K)))
    (hs : ∀ x, foldedSetIterable iter env x = pure x := by intro _; rfl) : SE W d env (.For target iter body [] pos :: rest) ρ σ K :=
  S_cons fun A s a i lo => by
    refine wpAny_For (wpAny_mono (h A s a i lo) (fun x s₁ h₁ => wpAny_mono h₁ (fun it s₂ h₂ => ?_) fun _ _ x => x.elim) fun _ _ x => x.elim) hs
    obtain ⟨xs, src, J, fp, σ₂, T, i₂, p₂, hJ, hfp, I, h0, hsrc, step, exit⟩ := h₂
    have l₂ := lo.stp p₂
    have nOwn : ∀ a ∈ fp, ¬ Own env a := fun b hb ho => by
      obtain ⟨f1, f2, f3, f4⟩ := hfp b hb
      rcases ho with rfl | ⟨y, hy⟩
      · obtain ⟨m, ⟨o, es, ep, ho, _⟩, _⟩ := lo.ns
        have := f3 lo.lf
        rw [this] at ho; cases ho
      · obtain ⟨c, cv, g1, g2, g3, ⟨o, g4, _⟩, _⟩ := lo.cell y hy.1
        rw [hy.2] at g1; cases g1
        have := f3 g2
        rw [this] at g4; cases g4
    have nOwn' : ∀ b, Own env b → ¬ b ∈ fp := fun b ho hb => nOwn b hb ho
    refine codeAny_mono (R := fun r s' => ∃ f σ' ρ', r = .ok f ∧ Inv W σ' s' ∧ Stp W (fun b => Own env b ∨ b ∈ fp) σ₂ s₂ σ' s' ∧ LOK W env ρ' σ' s' ∧ Kont W d env rest K (nzF f) ρ' σ') ?_ fun r s' ⟨f, σ', ρ', e, i', p', l', q⟩ => by
      subst e
      refine ⟨σ', i', ⟨fun b ob hx hb h0 n => ?_⟩, ρ', l', q⟩
      obtain ⟨x1, x2⟩ := p₂.kept b ob (fun h => h) hb h0 n
      exact p'.kept b ob (fun h => h.elim hx fun hf => by have := (hfp b hf).2.2.1 n; rw [hb] at this; cases this) x1 h0 x2
    refine my_forLoop (fun n s' => ∃ i σ' ρ', n = xs.length + 1 - i ∧ i ≤ xs.length ∧ Inv W σ' s' ∧ Stp W (fun b => Own env b ∨ b ∈ fp) σ₂ s₂ σ' s' ∧ LOK W env ρ' σ' s' ∧ I i ρ' σ' ∧ J i s'.heap ∧ ∀ a ∈ fp, σ' a = none ∧ W.h0.get? a = none)
      (fun n s' hI => ?_) (xs.length + 1) ⟨0, σ₂, ρ, rfl, Nat.zero_le _, i₂, .refl, l₂, h0, hJ, fun b hb => ⟨(hfp b hb).1, (hfp b hb).2.1⟩⟩
    obtain ⟨i, σ', ρ', rfl, hle, i', p', l', hI, hJ', hf'⟩ := hI
    rcases Nat.lt_or_eq_of_le hle with hlt | heq
    · have hx : xs[i]? = some (xs[i]'hlt) := List.getElem?_eq_getElem hlt
      refine wpAny_mono (T.next A σ' s' i _ a.hd i' (hsrc _ _ _ hI) hf' hJ' hx) (fun r s₃ ⟨v, e, hv, i₃, p₃, hJ₃, alive⟩ => ?_) fun _ _ x => x.elim
      subst e
      have l₃ := l'.stpX p₃ nOwn'
      refine T.go A s₃ (i + 1) v target _ _ hJ₃ ?_
      refine WP.then (step i _ ρ' σ' hx hI A s₃ v a i₃ l₃ hv) fun _ σ₄ s₄ i₄ p₄ ⟨ρ₄, l₄, q₄⟩ => ?_
      refine WP.then (q₄ A s₄ a i₄ l₄) fun f σ₅ s₅ i₅ p₅ ⟨ρ₅, l₅, q₅⟩ => ?_
      have p45 := p₄.trans p₅
      have hJ₅ : J (i + 1) s₅.heap := T.stable _ _ _ hJ₃ fun b hb o ho => (p45.kept b o (nOwn b hb) ho (hf' b hb).2 (hf' b hb).1).1
      have hf₅ : ∀ a ∈ fp, σ₅ a = none ∧ W.h0.get? a = none := fun b hb => by
        obtain ⟨o, ho⟩ := alive b hb
        exact ⟨(p45.kept b o (nOwn b hb) ho (hf' b hb).2 (hf' b hb).1).2, (hf' b hb).2⟩
      have P : Stp W (fun b => Own env b ∨ b ∈ fp) σ₂ s₂ σ₅ s₅ := by
        refine (p'.trans ⟨fun b ob hx => p₃.kept b ob fun h => hx (.inr h)⟩).trans ⟨fun b ob hx => p45.kept b ob fun h => hx (.inl h)⟩
      cases f with
      | next => exact ⟨xs.length + 1 - (i + 1), by omega, i + 1, σ₅, ρ₅, rfl, hlt, i₅, P, l₅, q₅, hJ₅, hf₅⟩
      | cont => exact ⟨xs.length + 1 - (i + 1), by omega, i + 1, σ₅, ρ₅, rfl, hlt, i₅, P, l₅, q₅, hJ₅, hf₅⟩
      | brk => exact ⟨.next, σ₅, ρ₅, rfl, i₅, P, l₅, q₅⟩
      | ret v => exact ⟨.ret v, σ₅, ρ₅, rfl, i₅, P, l₅, q₅⟩
    · subst heq
      refine wpAny_mono (T.done A σ' s' a.hd i' (hsrc _ _ _ hI) hf' hJ') (fun r s₃ ⟨e, i₃, p₃⟩ => ?_) fun _ _ x => x.elim
      subst e
      exact ⟨.next, σ', ρ', rfl, i₃, p'.trans ⟨fun b ob hx => p₃.kept b ob fun h => hx (.inr h)⟩, l'.stpX p₃ nOwn', exit _ _ hI⟩
end

noncomputable abbrev compT (ifs : List Expr) (env : Env) : Sem Bool := forIn ifs true fun c r => if r = true then do let ok ← isTrue c env (eval c env); pure (ForInStep.yield ok) else pure (ForInStep.yield r)

noncomputable def fx (x : Str) (ρ : Loc) : Loc := ρ.filter fun p => !(p.1 == x)
theorem fx_look (x : Str) : ∀ (ρ : Loc) (y : Str), (fx x ρ).lookup y = if y = x then none else ρ.lookup y
  | [], y => by simp [fx]
  | (n, v) :: r, y => by
    have ih := fx_look x r y
    unfold fx at ih ⊢
    rw [List.filter_cons]
    cases hn : n == x with
    | true =>
      have hn' := beq_iff_eq.mp hn
      simp only [hn, Bool.not_true, Bool.false_eq_true, if_false]
      rw [ih, List.lookup_cons]
      by_cases hy : y = x
      · rw [if_pos hy, if_pos hy]
      · rw [if_neg hy, if_neg hy]
        cases hb : y == n with
        | true => exact absurd ((beq_iff_eq.mp hb).trans hn') hy
        | false => rfl
    | false =>
      simp only [hn, Bool.not_false, if_true]
      rw [List.lookup_cons, List.lookup_cons, ih]
      cases hb : y == n with
      | true =>
        have := beq_iff_eq.mp hb
        subst this
        have hne : ¬ y = x := fun e => by rw [e, beq_self_eq_true] at hn; cases hn
        simp [hne]
      | false => rfl

noncomputable def clOf (names : List (Str × NameKind)) (env : Env) : List (Str × Addr) := (names.filterMap fun p => if p.2 = .free then (env.cells.lookup p.1).map (p.1, ·) else none).reverse

section
variable {W : Wd} {X : Addr → Prop} {A : Around} {σ : NH} {s : Shared} {d : Nat} {env : Env} {ρ : Loc} {Q : Value → NH → Prop} {P : Bool → NH → Prop} {K : Flow → Loc → NH → Prop}

theorem CT_nil (h : P true σ) : EC W d env (compT [] env) ρ σ P := fun A s a i lo => wpAny_tests_nil ⟨σ, i, .refl, h⟩
theorem CT_one {c : Expr} (h : BC W d env c ρ σ P) : EC W d env (compT [c] env) ρ σ P := fun A s a i lo => wpAny_tests_one (h A s a i lo)

theorem LOK.look {l : Loc} (x : LOK W env ρ σ s) (h : ∀ y v, l.lookup y = some v → ρ.lookup y = some v) : LOK W env l σ s :=
  ⟨let ⟨m, hn, hm⟩ := x.ns; ⟨m, hn, fun y v e k => hm y v (h y v e) k⟩, x.lf, x.l0, fun y hy => let ⟨c, cv, h1, h2, h3, h4, h5⟩ := x.cell y hy; ⟨c, cv, h1, h2, h3, h4, fun v e => h5 v (h y v e)⟩, x.inj, x.fn, x.gl, x.bn⟩

theorem closure_go (env : Env) : ∀ (names : List (Str × NameKind)) (cs : List (Str × Addr)), (∀ p ∈ names, p.2 = .free → (env.cells.lookup p.1).isSome = true) →
    (forIn names cs fun (x : Str × NameKind) (r : List (Str × Addr)) => if (x.2 == NameKind.free) = true then do let c ← cellOf env x.1; pure (ForInStep.yield ((x.1, c) :: r)) else pure (ForInStep.yield r) : Sem (List (Str × Addr))) = pure (clOf names env ++ cs)
  | [], cs, _ => by simp [clOf]
  | (n, k) :: r, cs, h => by
    rw [List.forIn_cons]
    have hr : ∀ p ∈ r, p.2 = NameKind.free → (env.cells.lookup p.1).isSome = true := fun p hp => h p (List.mem_cons_of_mem _ hp)
    by_cases hk : k = .free
    · subst hk
      obtain ⟨c, hc⟩ := Option.isSome_iff_exists.mp (h _ List.mem_cons_self rfl)
      have hc : env.cells.lookup n = some c := hc
      have e : cellOf env n = pure c := by unfold cellOf; rw [hc]
      simp only [beq_self_eq_true, if_true, e, pure_bind]
      rw [closure_go env r _ hr]
      simp [clOf, hc]
    · have hk' : (k == NameKind.free) = false := by simpa using hk
      simp only [hk', Bool.false_eq_true, if_false, pure_bind]
      rw [closure_go env r _ hr]
      simp [clOf, hk]
theorem closure_eq {scope : Scope} {env : Env} (h : ∀ p ∈ scope.names, p.2 = .free → (env.cells.lookup p.1).isSome = true) : closureFor scope env = pure (clOf scope.names env) := by
  have := closure_go env scope.names [] h
  rw [List.append_nil] at this
  rw [← this]
  unfold closureFor
  refine Eq.trans (bind_congr (g := pure) fun _ => rfl) (Eq.trans (bind_pure _) ?_)
  congr 1
theorem clOf_mem {names : List (Str × NameKind)} {env : Env} {n : Str} {c : Addr} (h : (n, c) ∈ clOf names env) : env.cells.lookup n = some c ∧ (n, .free) ∈ names := by
  unfold clOf at h
  rw [List.mem_reverse, List.mem_filterMap] at h
  obtain ⟨⟨m, k⟩, hm, hp⟩ := h
  dsimp only at hp
  split at hp
  · rename_i hk
    obtain ⟨c', hc, e⟩ := Option.map_eq_some_iff.mp hp
    cases e
    subst hk
    exact ⟨hc, hm⟩
  · cases hp
theorem clOf_some {names : List (Str × NameKind)} {env : Env} {n : Str} (h : (n, NameKind.free) ∈ names) (hc : (env.cells.lookup n).isSome = true) : ∃ c, (clOf names env).lookup n = some c := by
  obtain ⟨c, hc⟩ := Option.isSome_iff_exists.mp hc
  have hm : (n, c) ∈ clOf names env := by
    unfold clOf
    rw [List.mem_reverse, List.mem_filterMap]
    exact ⟨(n, .free), h, by simp [hc]⟩
  revert hm
  generalize clOf names env = l
  intro hm
  induction l with
  | nil => cases hm
  | cons p r ih =>
    obtain ⟨m, c'⟩ := p
    rw [List.lookup_cons]
    cases hb : n == m with
    | true => exact ⟨c', rfl⟩
    | false =>
      rcases List.mem_cons.mp hm with e | hm
      · cases e; rw [beq_self_eq_true] at hb; cases hb
      · exact ih hm

theorem Inv.adopt {a : Addr} {ob : Obj} {o : NO} (i : Inv W σ s) (hob : s.heap.get? a = some ob) (r : RO ob o) (h0 : W.h0.get? a = none) : Inv W (σ.set a o) s :=
  ⟨i.keep, fun b o' e => by
    by_cases h : b = a
    · subst h; rw [NH.set_self] at e; cases e; exact ⟨ob, hob, r⟩
    · rw [NH.set_ne _ _ h] at e; exact i.rep b o' e, fun b o' e => by
    by_cases h : b = a
    · subst h; exact .inl h0
    · rw [NH.set_ne _ _ h] at e; exact i.new b o' e, i.gens, i.os⟩

theorem comp_core {it : Value} {xs : List Value} {src : NH → Prop} {J : Nat → Heap → Prop} {fp : List Addr} (T : Itr W it xs src J fp) {elt iter : Expr} {x : Str} {px : Pos} {ifs : List Expr} {scope : Scope} {pos : Pos} {cenv : Env} {D : Addr}
    {I : Nat → List Value → NH → Prop} {R : Result → Shared → Prop} (a : AOK d A) (hx : cenv.kindOf x = some .local) (hlen : xs.length < 1000000) (hsrc : ∀ i ys σ', I i ys σ' → src σ')
    (step : ∀ i v ys σ', xs[i]? = some v → I i ys σ' → EC W d cenv (compT ifs cenv) ((x, v) :: ρ) σ' (fun ok σ₁ => if ok = true then EV W d cenv (eval elt cenv) ((x, v) :: ρ) σ₁ (fun y σ₂ => I (i + 1) (ys ++ [y]) σ₂) else I (i + 1) ys σ₁))
    (i₀ : Inv W σ s) (l₀ : LOK W cenv (fx x ρ) σ s) (h0 : I 0 [] σ) (hJ : J 0 s.heap) (hfp : ∀ b ∈ fp, (σ b = none ∧ W.h0.get? b = none) ∧ ¬ Own cenv b ∧ b ≠ D) (hD : s.heap.get? D = some (listOf #[] 0)) (hDσ : σ D = none ∧ W.h0.get? D = none) (hDC : ¬ Own cenv D)
    (hR : ∀ σ' s' ys items n m', Inv W σ' s' → Stp W (fun b => b = cenv.locals ∨ b ∈ fp ∨ b = D) σ s σ' s' → I xs.length ys σ' → σ' D = none → s'.heap.get? D = some (listOf items n) → items.toList.map nz = ys → s'.heap.Ns cenv.locals m' → σ' cenv.locals = none → R (.ok .next) s') :
    codeAny W.M A (.compLoop (.ListComp elt [⟨.Name x px, iter, ifs, 0⟩] scope pos) 0 it (.ref D) cenv) R s := by
  have hp : (cenv.scope.kind == .class || (cenv.scope.kind == .module && cenv.locals != cenv.globals)) = false := by rw [l₀.fn]; rfl
  have nC : ∀ b, Own cenv b → ¬ b ∈ fp := fun b ho hb => (hfp b hb).2.1 ho
  have hDfp : ¬ D ∈ fp := fun h => (hfp D h).2.2 rfl
  refine codeAny_compLoop_tests (fun n s' => ∃ i σ' ys items k, n = xs.length + 1 - i ∧ i ≤ xs.length ∧ Inv W σ' s' ∧ Stp W (fun b => b = cenv.locals ∨ b ∈ fp ∨ b = D) σ s σ' s' ∧ LOK W cenv (fx x ρ) σ' s' ∧ I i ys σ' ∧ J i s'.heap ∧
      (∀ a ∈ fp, σ' a = none ∧ W.h0.get? a = none) ∧ s'.heap.get? D = some (listOf items k) ∧ items.toList.map nz = ys ∧ items.size ≤ i ∧ σ' D = none)
    (fun n s' hI => ?_) (xs.length + 1) ⟨0, σ, [], #[], 0, rfl, Nat.zero_le _, i₀, .refl, l₀, h0, hJ, fun b hb => (hfp b hb).1, hD, rfl, Nat.le_refl _, hDσ.1⟩
  obtain ⟨i, σ', ys, items, k, rfl, hle, i', p', l', hI, hJ', hf', hD', hm, hsz, hDn⟩ := hI
  rcases Nat.lt_or_eq_of_le hle with hlt | heq
  · have hxi : xs[i]? = some (xs[i]'hlt) := List.getElem?_eq_getElem hlt
    refine wpAny_mono (T.next A σ' s' i _ a.hd i' (hsrc _ _ _ hI) hf' hJ' hxi) (fun r s₁ ⟨v, e, hv, i₁, p₁, hJ₁, alive⟩ => ?_) fun _ _ x => x.elim
    subst e
    have l₁ := l'.stpX p₁ nC
    have hD₁ : s₁.heap.get? D = some (listOf items k) := (p₁.kept D _ hDfp hD' hDσ.2 hDn).1
    obtain ⟨m, hn, hmm⟩ := l₁.ns
    refine wpAny_assign_Name (wpAny_storeName_local hx hn (fun h₂ hn₂ hs₂ => ?_) hp)
    have i₂ : Inv W σ' { s₁ with heap := h₂, toks := s₁.toks + 1 } := i₁.sameBut l₁.lf l₁.l0 hs₂.extBut
    have p₂ : Stp W (fun b => b = cenv.locals) σ' s₁ σ' { s₁ with heap := h₂, toks := s₁.toks + 1 } := Stp.sameBut rfl hs₂.extBut
    have l₂ : LOK W cenv ((x, nz v) :: ρ) σ' { s₁ with heap := h₂, toks := s₁.toks + 1 } := by
      refine (l₁.setLocal hx hn hmm hn₂ hs₂).look fun y u hy => ?_
      rw [List.lookup_cons] at hy ⊢
      cases hb : y == x with
      | true => rw [hb] at hy; exact hy
      | false =>
        rw [hb] at hy
        show (fx x ρ).lookup y = some u
        rw [fx_look, if_neg (fun e => by rw [e, beq_self_eq_true] at hb; cases hb)]; exact hy
    have hD₂ : h₂.get? D = some (listOf items k) := (hs₂.2 D fun e => hDC (.inl e)).trans hD₁
    rw [hv] at l₂
    refine WP.then (step i _ ys σ' hxi hI A _ a i₂ l₂) (fun ok σ₃ s₃ i₃ p₃ q₃ => ?_) |> fun z => wpAny_mono z (fun _ _ q => q) fun _ _ x => x.elim
    have l₃ := l₂.stp p₃
    have back : ∀ {σ₄ s₄}, LOK W cenv ((x, xs[i]'hlt) :: ρ) σ₄ s₄ → LOK W cenv (fx x ρ) σ₄ s₄ := fun l => l.look fun y u hy => by
      rw [fx_look] at hy
      split at hy
      · cases hy
      · rename_i hne
        rw [List.lookup_cons]
        have : (y == x) = false := by simpa using hne
        rw [this]; exact hy
    have tot : ∀ {σ₄ s₄}, Stp W noX σ₃ s₃ σ₄ s₄ → Stp W (fun b => b = cenv.locals ∨ b ∈ fp ∨ b = D) σ s σ₄ s₄ := fun {σ₄ s₄} p₄ =>
      (((p'.trans ⟨fun b ob hx => p₁.kept b ob fun h => hx (.inr (.inl h))⟩).trans ⟨fun b ob hx => p₂.kept b ob fun h => hx (.inl h)⟩).trans p₃.weak).trans p₄.weak
    have fpn : ∀ {σ₄ s₄}, Stp W noX σ₃ s₃ σ₄ s₄ → J (i + 1) s₄.heap ∧ ∀ a ∈ fp, σ₄ a = none ∧ W.h0.get? a = none := fun {σ₄ s₄} p₄ => by
      have live : ∀ b ∈ fp, ∀ o, s₁.heap.get? b = some o → s₄.heap.get? b = some o ∧ σ₄ b = none := fun b hb o ho => by
        have hbC : b ≠ cenv.locals := fun e => (hfp b hb).2.1 (.inl e)
        have ho₂ : h₂.get? b = some o := (hs₂.2 b hbC).trans ho
        obtain ⟨x1, x2⟩ := p₃.kept b o (fun h => h) ho₂ (hf' b hb).2 (hf' b hb).1
        exact p₄.kept b o (fun h => h) x1 (hf' b hb).2 x2
      exact ⟨T.stable _ _ _ hJ₁ fun b hb o ho => (live b hb o ho).1, fun b hb => by
        obtain ⟨o, ho⟩ := alive b hb
        exact ⟨(live b hb o ho).2, (hf' b hb).2⟩⟩
    obtain ⟨hD₃, hDn₃⟩ := p₃.kept D _ (fun h => h) hD₂ hDσ.2 hDn
    cases ok with
    | false =>
      simp only [Bool.false_eq_true, if_false] at q₃ ⊢
      obtain ⟨f1, f2⟩ := fpn (Stp.refl)
      exact ⟨xs.length + 1 - (i + 1), by omega, i + 1, σ₃, ys, items, k, rfl, hlt, i₃, tot .refl, back l₃, q₃, f1, f2, hD₃, hm, Nat.le_succ_of_le hsz, hDn₃⟩
    | true =>
      simp only [if_true] at q₃ ⊢
      refine WP.then (q₃ A s₃ a i₃ l₃) (fun y σ₄ s₄ i₄ p₄ q₄ => ?_) |> fun z => wpAny_mono z (fun _ _ q => q) fun _ _ x => x.elim
      obtain ⟨hD₄, hDn₄⟩ := p₄.kept D _ (fun h => h) hD₃ hDσ.2 hDn₃
      have hsl : items.size ≤ sizeLine := by rw [sizeLine_eq]; omega
      refine call_meets slot_list_append ⟨_, hD₄, rfl⟩ entry_list_append (args_list_append _ _) (AutoListH.list_append_list_val_0 D items k y hsl) ⟨hD₄, ?_⟩
      have e : Obj.mapSeq (fun z => z.push y) (PySem.W.listOf items k) = PySem.W.listOf (items.push y) (k + 1) := by simp [Obj.mapSeq]
      have hs₅ : Heap.SameBut D s₄.heap (s₄.heap.update D (Obj.mapSeq fun z => z.push y)) := Heap.SameBut.update ..
      have i₅ : Inv W σ₄ { s₄ with heap := s₄.heap.update D (Obj.mapSeq fun z => z.push y), toks := s₄.toks } := i₄.sameBut hDn₄ hDσ.2 hs₅.extBut
      have p₅ : Stp W (fun b => b = D) σ₄ s₄ σ₄ { s₄ with heap := s₄.heap.update D (Obj.mapSeq fun z => z.push y), toks := s₄.toks } := Stp.sameBut rfl hs₅.extBut
      obtain ⟨f1, f2⟩ := fpn p₄
      refine ⟨xs.length + 1 - (i + 1), by omega, i + 1, σ₄, ys ++ [nz y], items.push y, k + 1, rfl, hlt, i₅, (tot p₄).trans ⟨fun b ob hx => p₅.kept b ob fun h => hx (.inr (.inr h))⟩,
        (back (l₃.stp p₄)).stpX p₅ fun b ho e => hDC (e ▸ ho), q₄, T.stable _ _ _ f1 fun b hb o ho => ?_, f2, ?_, ?_, ?_, hDn₄⟩
      · exact (hs₅.2 b fun e => hDfp (e ▸ hb)).trans ho
      · rw [← e]; exact Heap.get?_update_self _ hD₄ (by rw [e]; rfl)
      · simp [hm]
      · rw [Array.size_push]; omega
  · subst heq
    refine wpAny_mono (T.done A σ' s' a.hd i' (hsrc _ _ _ hI) hf' hJ') (fun r s₁ ⟨e, i₁, p₁⟩ => ?_) fun _ _ x => x.elim
    subst e
    have l₁ := l'.stpX p₁ nC
    obtain ⟨m, hn, _⟩ := l₁.ns
    exact hR σ' s₁ ys items k m i₁ (p'.trans ⟨fun b ob hx => p₁.kept b ob fun h => hx (.inr (.inl h))⟩) hI hDn (p₁.kept D _ hDfp hD' hDσ.2 hDn).1 hm hn l₁.lf
end

noncomputable abbrev cEnv (scope : Scope) (C : Addr) (env : Env) : Env := compEnvC scope (clOf scope.names env) C env

structure CompOK (scope : Scope) (x : Str) (env : Env) (ρ : Loc) : Prop where
  cell : ∀ y ∈ scope.names, y.2 ≠ .cell
  kind : scope.kind = .function
  names : ∀ y ∈ scope.names, y.2 = .local → scope.names.lookup y.1 = some .local
  only : ∀ y ∈ scope.names, y.2 = .local → y.1 = x ∨ y.1 = (".0" : Str)
  x : scope.names.lookup x = some .local
  free : ∀ y ∈ scope.names, y.2 = .free → env.kindOf y.1 = some .cell ∨ env.kindOf y.1 = some .free
  zero : ρ.lookup (".0" : Str) = none

section
variable {W : Wd} {X : Addr → Prop} {A : Around} {σ : NH} {s : Shared} {d : Nat} {env : Env} {ρ : Loc} {Q : Value → NH → Prop} {P : Bool → NH → Prop} {K : Flow → Loc → NH → Prop}

theorem relabel_lookup {scope : Scope} {y : Str} {k : NameKind} (h : (relabel scope env).names.lookup y = some k) : ∃ k', (y, k') ∈ scope.names ∧ (k' = k ∨ (k' = .free ∧ k = .cell)) := by
  have hm := mem_of_lookup h
  unfold relabel at hm
  obtain ⟨⟨n, kk⟩, h1, h2⟩ := List.mem_map.mp hm
  dsimp only at h2
  split at h2
  · rename_i hc
    cases h2
    simp only [Bool.and_eq_true, beq_iff_eq] at hc
    exact ⟨_, h1, .inr ⟨hc.1.1, rfl⟩⟩
  · cases h2; exact ⟨_, h1, .inl rfl⟩

theorem LOK.comp {scope : Scope} {x : Str} {C : Addr} {h' : Heap} {tk : Nat} (ok : CompOK scope x env ρ) (l : LOK W env ρ σ s) (hC : σ C = none ∧ W.h0.get? C = none) (hn : h'.Ns C (fun _ => none)) (k : ∀ b o, s.heap.get? b = some o → h'.get? b = some o) :
    LOK W (cEnv scope C env) (fx x ρ) σ { s with heap := h', toks := tk } := by
  have known : ∀ y, ((cEnv scope C env).kindOf y = some .cell ∨ (cEnv scope C env).kindOf y = some .free) → (y, NameKind.free) ∈ scope.names := fun y hy => by
    rcases hy with hy | hy
    · obtain ⟨k', h1, h2⟩ := relabel_lookup (show (relabel scope env).names.lookup y = some .cell from hy)
      rcases h2 with rfl | ⟨rfl, _⟩
      · exact absurd rfl (ok.cell _ h1)
      · exact h1
    · obtain ⟨k', h1, h2⟩ := relabel_lookup (show (relabel scope env).names.lookup y = some .free from hy)
      rcases h2 with rfl | ⟨rfl, _⟩
      · exact h1
      · exact h1
  refine ⟨⟨_, hn, fun y v hy hk => ?_⟩, hC.1, hC.2, fun y hy => ?_, fun y z c hy hz => ?_, ok.kind, l.gl, l.bn⟩
  · exfalso
    obtain ⟨k', h1, h2⟩ := relabel_lookup (show (relabel scope env).names.lookup y = some .local from hk)
    have h3 : k' = .local := by rcases h2 with h | ⟨_, h⟩; exact h; cases h
    subst h3
    rw [fx_look] at hy
    split at hy
    · cases hy
    · rename_i hne
      rcases ok.only _ h1 rfl with e | e
      · exact hne e
      · have e' : y = (".0" : Str) := e
        rw [e', ok.zero] at hy; cases hy
  · have hf := known y hy
    obtain ⟨c, cv, h1, h2, h3, h4, h5⟩ := l.cell y (ok.free _ hf rfl)
    obtain ⟨c', hc'⟩ := clOf_some (env := env) hf (by rw [h1]; rfl)
    have h6 := (clOf_mem (mem_of_lookup hc')).1
    rw [h1] at h6; cases h6
    refine ⟨c, cv, hc', h2, h3, h4.keeps k, fun v hv => h5 v ?_⟩
    rw [fx_look] at hv
    split at hv
    · cases hv
    · exact hv
  · exact l.inj y z c (clOf_mem (mem_of_lookup hy)).1 (clOf_mem (mem_of_lookup hz)).1

theorem comp_block {it : Value} {xs : List Value} {src : NH → Prop} {J : Nat → Heap → Prop} {fp : List Addr} (T : Itr W it xs src J fp) {elt iter : Expr} {x : Str} {px : Pos} {ifs : List Expr} {scope : Scope} {pos : Pos}
    {I : Nat → List Value → NH → Prop} {RR : Value → Addr → Result → Shared → Prop} (a : AOK d A) (ok : CompOK scope x env ρ) (hlen : xs.length < 1000000) (hsrc : ∀ i ys σ', I i ys σ' → src σ')
    (step : ∀ C i v ys σ', xs[i]? = some v → I i ys σ' → EC W d (cEnv scope C env) (compT ifs (cEnv scope C env)) ((x, v) :: ρ) σ' (fun ok σ₁ => if ok = true then EV W d (cEnv scope C env) (eval elt (cEnv scope C env)) ((x, v) :: ρ) σ₁ (fun y σ₂ => I (i + 1) (ys ++ [y]) σ₂) else I (i + 1) ys σ₁))
    (i₀ : Inv W σ s) (l₀ : LOK W env ρ σ s) (h0 : I 0 [] σ) (hJ : J 0 s.heap) (hfp : ∀ b ∈ fp, (σ b = none ∧ W.h0.get? b = none) ∧ ¬ Own env b ∧ ∃ o, s.heap.get? b = some o)
    (hR : ∀ D C σ' s' ys m', Inv W (σ'.set D (.list ys)) s' → Stp W (· ∈ fp) σ s (σ'.set D (.list ys)) s' → I xs.length ys σ' → σ' D = none → σ' C = none → C ≠ D → W.h0.get? C = none → s.heap.get? C = none → s'.heap.Ns C m' → RR (.ref D) C (.ok .next) s') :
    wpAny W.M A (newList []) (fun acc s₃ => wpAny W.M A (newFunctionEnv scope env.globals (clOf scope.names env) [] env.qual none .none (some env)) (fun cenv s₄ =>
      codeAny W.M A (.compStart (.ListComp elt [⟨.Name x px, iter, ifs, 0⟩] scope pos) 0 it acc { cenv with scope := relabel scope env }) (RR acc cenv.locals) s₄) (fun _ _ => False) s₃) (fun _ _ => False) s := by
  refine wpAny_newObj_type (wpAny_newFunctionEnv ok.cell (by intro y hy; simp at hy) (fun h₁ hns hsb => ?_) ok.kind)
  dsimp only at hns hsb ⊢
  generalize hH : s.heap.push { cls := .type "list", dict := none, data := .seq ([] : List Value).toArray } = H at hns hsb ⊢
  have hC : H.objs.size = s.heap.objs.size + 1 := by rw [← hH, Heap.size_push]
  have hDC : s.heap.objs.size ≠ H.objs.size := by rw [hC]; exact Nat.ne_of_lt (Nat.lt_succ_self _)
  have fr : ∀ b, s.heap.objs.size ≤ b → σ b = none ∧ W.h0.get? b = none := fun b hb => by
    constructor
    · cases q : σ b with
      | none => rfl
      | some o => obtain ⟨ob, h1, _⟩ := i₀.rep _ _ q; exact absurd (Heap.lt_size h1) (Nat.not_lt.mpr hb)
    · cases q : W.h0.get? b with
      | none => rfl
      | some o => exact absurd (Heap.lt_size (i₀.keep _ _ q)) (Nat.not_lt.mpr hb)
  have old : ∀ b o, s.heap.get? b = some o → h₁.get? b = some o := fun b o e => hsb.extBut b o (by rw [hC]; exact Nat.ne_of_lt (Nat.lt_succ_of_lt (Heap.lt_size e))) (Heap.get?_push_of_some _ (hH ▸ Heap.get?_push_of_some _ e))
  have hD₁ : h₁.get? s.heap.objs.size = some (PySem.W.listOf #[] 0) := hsb.extBut _ _ hDC (Heap.get?_push_of_some _ (hH ▸ Heap.get?_push_size _ rfl))
  have i₁ : ∀ tk, Inv W σ { s with heap := h₁, toks := tk } := fun tk => i₀.same fun b o e _ => old b o e
  have p₁ : ∀ tk, Stp W noX σ s σ { s with heap := h₁, toks := tk } := fun tk => Stp.same fun b o _ e => old b o e
  have l₁ : ∀ tk, LOK W (cEnv scope H.objs.size env) (fx x ρ) σ { s with heap := h₁, toks := tk } := fun tk => l₀.comp ok (fr _ (by rw [hC]; exact Nat.le_succ _)) hns old
  have nown : ∀ b, Own (cEnv scope H.objs.size env) b → b = H.objs.size ∨ Own env b := fun b hb => by
    rcases hb with rfl | ⟨y, hy, hl⟩
    · exact .inl rfl
    · obtain ⟨h1, h2⟩ := clOf_mem (mem_of_lookup (show (clOf scope.names env).lookup y = some b from hl))
      exact .inr (.inr ⟨y, ok.free _ h2 rfl, h1⟩)
  have ownlt : ∀ b, Own env b → b < s.heap.objs.size := fun b hb => by
    rcases hb with rfl | ⟨y, hy, hl⟩
    · obtain ⟨m, ⟨o, es, ep, ho, _⟩, _⟩ := l₀.ns; exact Heap.lt_size ho
    · obtain ⟨c, cv, g1, g2, g3, g4, _⟩ := l₀.cell y hy
      rw [hl] at g1; cases g1; exact g4.lt
  have loop : ∀ s₄ : Shared, s₄ = { s with heap := h₁, toks := s.toks + ([] : List (Str × Value)).length } →
      codeAny W.M A (.compLoop (.ListComp elt [⟨.Name x px, iter, ifs, 0⟩] scope pos) 0 it (.ref s.heap.objs.size) (cEnv scope H.objs.size env)) (RR (.ref s.heap.objs.size) H.objs.size) s₄ := by
    rintro s₄ rfl
    refine comp_core (ρ := ρ) (cenv := cEnv scope H.objs.size env) T a (lookup_relabel_local ok.x) hlen hsrc (step H.objs.size) (i₁ _) (l₁ _) h0 (T.stable _ _ _ hJ fun b hb o ho => old b o ho) (fun b hb => ?_) hD₁ (fr _ (Nat.le_refl _)) ?_ ?_
    · obtain ⟨f1, f2, o, ho⟩ := hfp b hb
      have hlt := Heap.lt_size ho
      refine ⟨f1, fun hb' => ?_, Nat.ne_of_lt hlt⟩
      rcases nown b hb' with e | e
      · rw [e, hC] at hlt; exact absurd hlt (Nat.not_lt.mpr (Nat.le_succ _))
      · exact f2 e
    · intro hb'
      rcases nown _ hb' with e | e
      · exact hDC e
      · exact Nat.lt_irrefl _ (ownlt _ e)
    · intro σ' s' ys items n m' i' p' hI hDn hD' hm hn hCn
      refine hR _ _ σ' s' ys m' (i'.adopt hD' ⟨_, _, rfl, hm⟩ (fr _ (Nat.le_refl _)).2) ⟨fun b ob hx hb hb0 n => ?_⟩ hI hDn hCn (Ne.symm hDC) (fr _ (by rw [hC]; exact Nat.le_succ _)).2 ?_ hn
      · have hlt := Heap.lt_size hb
        obtain ⟨x1, x2⟩ := p'.kept b ob (fun h => by
          rcases h with h | h | h
          · have e : b = H.objs.size := h
            rw [e, hC] at hlt; exact absurd hlt (Nat.not_lt.mpr (Nat.le_succ _))
          · exact hx h
          · rw [h] at hlt; exact Nat.lt_irrefl _ hlt) (old b ob hb) hb0 n
        exact ⟨x1, by rw [NH.set_ne _ _ (Nat.ne_of_lt hlt)]; exact x2⟩
      · cases q : s.heap.get? H.objs.size with
        | none => rfl
        | some o => have := Heap.lt_size q; rw [hC] at this; exact absurd this (Nat.not_lt.mpr (Nat.le_succ _))
  exact codeAny_compStart_list (loop _ rfl) (T.self _ _ 0 _ _ (T.stable _ _ _ hJ fun b hb o ho => old b o ho) (loop _ rfl))

noncomputable def CompK (W : Wd) (d : Nat) (env : Env) (elt : Expr) (x : Str) (ifs : List Expr) (scope : Scope) (ρ : Loc) (L : List Value → NH → Prop) (xs : List Value) (src : NH → Prop) (σ : NH) : Prop :=
  xs.length < 1000000 ∧ ∃ I : Nat → List Value → NH → Prop, I 0 [] σ ∧ (∀ i ys σ', I i ys σ' → src σ') ∧
    (∀ C i v ys σ', xs[i]? = some v → I i ys σ' → EC W d (cEnv scope C env) (compT ifs (cEnv scope C env)) ((x, v) :: ρ) σ' (fun ok σ₁ => if ok = true then EV W d (cEnv scope C env) (eval elt (cEnv scope C env)) ((x, v) :: ρ) σ₁ (fun y σ₂ => I (i + 1) (ys ++ [y]) σ₂) else I (i + 1) ys σ₁)) ∧
    (∀ ys σ', I xs.length ys σ' → L ys σ')

theorem EV_comp {elt iter : Expr} {x : Str} {px : Pos} {ifs : List Expr} {scope : Scope} {pos : Pos} (ok : CompOK scope x env ρ)
    (h : IV W d env iter ρ σ (CompK W d env elt x ifs scope ρ (fun ys σ' => ∀ D, σ' D = none → Q (.ref D) (σ'.set D (.list ys))))) (hs : ∀ x, foldedSetIterable iter env x = pure x := by intro _; rfl) :
    EV W d env (eval (.ListComp elt [⟨.Name x px, iter, ifs, 0⟩] scope pos) env) ρ σ Q := fun A s a i lo => by
  have hcl : ∀ p ∈ scope.names, p.2 = .free → (env.cells.lookup p.1).isSome = true := fun p hp hf => by
    obtain ⟨c, cv, h1, _⟩ := lo.cell p.1 (ok.free p hp hf)
    rw [h1]; rfl
  unfold WP
  rw [eval_ListComp]
  refine wpAny_comprehension_free (E := fun _ _ => False) (use := none) rfl hs (closure_eq hcl) ok.kind ok.names (wpAny_mono (h A s a i lo) (fun xv s₁ h₁ => wpAny_mono h₁ (fun it s₂ h₂ => ?_) fun _ _ e => e.elim) fun _ _ e => e.elim)
  obtain ⟨xs, src, J, fp, σ₂, T, i₂, p₂, hJ, hfp, hlen, I, h0, hsrc, step, exit⟩ := h₂
  have nOwn : ∀ a ∈ fp, ¬ Own env a := fun b hb ho => by
    obtain ⟨f1, f2, f3, f4⟩ := hfp b hb
    rcases ho with rfl | ⟨y, hy⟩
    · obtain ⟨m, ⟨o, es, ep, ho, _⟩, _⟩ := lo.ns
      have := f3 lo.lf
      rw [this] at ho; cases ho
    · obtain ⟨c, cv, g1, g2, g3, ⟨o, g4, _⟩, _⟩ := lo.cell y hy.1
      rw [hy.2] at g1; cases g1
      have := f3 g2
      rw [this] at g4; cases g4
  refine comp_block (RR := fun acc C => compPost W.M A (fun _ _ => False) none _ acc C) T a ok hlen hsrc step i₂ (lo.stp p₂) h0 hJ (fun b hb => ⟨⟨(hfp b hb).1, (hfp b hb).2.1⟩, nOwn b hb, (hfp b hb).2.2.2⟩) ?_
  intro D C σ' s' ys m' i' p' hI hDn hCn hCD hC0 hCs hn
  refine ⟨m', hn, fun h'' hs'' => ⟨_, i'.sameBut (tk := s'.toks) (by rw [NH.set_ne _ _ hCD]; exact hCn) hC0 hs''.extBut, ⟨fun b ob _ hb hb0 n => ?_⟩, exit _ _ hI D hDn⟩⟩
  obtain ⟨x1, x2⟩ := p₂.kept b ob (fun h => h) hb hb0 n
  obtain ⟨y1, y2⟩ := p'.kept b ob (fun hf => by have := (hfp b hf).2.2.1 n; rw [hb] at this; cases this) x1 hb0 x2
  exact ⟨(hs''.2 b (by rintro rfl; rw [hCs] at x1; cases x1)).trans y1, y2⟩

theorem S_comp {elt iter : Expr} {x y : Str} {px py : Pos} {ifs : List Expr} {scope : Scope} {pos spos : Pos} {rest : List Stmt} (ok : CompOK scope x env ρ) (hy : env.kindOf y = some .local)
    (h : IV W d env iter ρ σ (CompK W d env elt x ifs scope ρ (fun ys σ' => ∀ D, σ' D = none → SE W d env rest ((y, .ref D) :: ρ) (σ'.set D (.list ys)) K)))
    (hsw : swapsWith (.ListComp elt [⟨.Name x px, iter, ifs, 0⟩] scope pos) (some (.Name y py)) spos.line env = pure true := by rfl) (hs : ∀ x, foldedSetIterable iter env x = pure x := by intro _; rfl) :
    SE W d env (.Assign [.Name y py] (.ListComp elt [⟨.Name x px, iter, ifs, 0⟩] scope pos) spos :: rest) ρ σ K :=
  S_cons fun A s a i lo => by
  have hcl : ∀ p ∈ scope.names, p.2 = .free → (env.cells.lookup p.1).isSome = true := fun p hp hf => by
    obtain ⟨c, cv, h1, _⟩ := lo.cell p.1 (ok.free p hp hf)
    rw [h1]; rfl
  unfold WP
  rw [exec_Assign_Name_used _ _ _ _ hsw]
  refine wpAny_bind (wpAny_standAt (wpAny_bind ?_))
  show wpAny _ A (do let _ ← comprehension (.ListComp elt [⟨.Name x px, iter, ifs, 0⟩] scope pos) scope env _ (newList []) false (eval iter env) (some (assign (.Name y py) env))) _ _ s
  refine wpAny_bind (wpAny_mono (wpAny_comprehension_free (E := fun _ _ => False) (use := some (assign (.Name y py) env)) (Q := fun _ s' => ∃ σ', Inv W σ' s' ∧ Stp W (Own env) σ s σ' s' ∧ ∃ ρ', LOK W env ρ' σ' s' ∧ Kont W d env rest K .next ρ' σ') rfl hs (closure_eq hcl) ok.kind ok.names
    (wpAny_mono (h A s a i lo) (fun xv s₁ h₁ => wpAny_mono h₁ (fun it s₂ h₂ => ?_) fun _ _ e => e.elim) fun _ _ e => e.elim)) (fun _ s' hq => wpAny_pure (wpAny_pure hq)) fun _ _ e => e.elim)
  obtain ⟨xs, src, J, fp, σ₂, T, i₂, p₂, hJ, hfp, hlen, I, h0, hsrc, step, exit⟩ := h₂
  have nOwn : ∀ a ∈ fp, ¬ Own env a := fun b hb ho => by
    obtain ⟨f1, f2, f3, f4⟩ := hfp b hb
    rcases ho with rfl | ⟨y, hy⟩
    · obtain ⟨m, ⟨o, es, ep, ho, _⟩, _⟩ := lo.ns
      have := f3 lo.lf
      rw [this] at ho; cases ho
    · obtain ⟨c, cv, g1, g2, g3, ⟨o, g4, _⟩, _⟩ := lo.cell y hy.1
      rw [hy.2] at g1; cases g1
      have := f3 g2
      rw [this] at g4; cases g4
  have l₂ := lo.stp p₂
  refine comp_block (RR := fun acc C => compPost W.M A (fun _ _ => False) (some (assign (.Name y py) env)) _ acc C) T a ok hlen hsrc step i₂ l₂ h0 hJ (fun b hb => ⟨⟨(hfp b hb).1, (hfp b hb).2.1⟩, nOwn b hb, (hfp b hb).2.2.2⟩) ?_
  intro D C σ' s' ys m' i' p' hI hDn hCn hCD hC0 hCs hn
  have l' : LOK W env ρ (σ'.set D (.list ys)) s' := l₂.stpX p' fun b ho hf => nOwn b hf ho
  have p0 : Stp W noX σ s (σ'.set D (.list ys)) s' := ⟨fun b ob _ hb hb0 n => by
    obtain ⟨x1, x2⟩ := p₂.kept b ob (fun h => h) hb hb0 n
    exact p'.kept b ob (fun hf => by have := (hfp b hf).2.2.1 n; rw [hb] at this; cases this) x1 hb0 x2⟩
  have hCO : ¬ Own env C := fun ho => by
    rcases ho with e | ⟨z, hz, hl⟩
    · obtain ⟨m, ⟨o, es, ep, ho, _⟩, _⟩ := l₂.ns
      rw [← e, hCs] at ho; cases ho
    · obtain ⟨c, cv, g1, g2, g3, ⟨o, g4, _⟩, _⟩ := l₂.cell z hz
      rw [hl] at g1; cases g1; rw [hCs] at g4; cases g4
  refine wpAny_mono (AC_local (pos := py) (L := fun ρ' σ'' => SE W d env rest ρ' σ'' K) hy (exit _ _ hI D hDn) A s' (.ref D) a i' l' rfl) (fun _ s'' hh => ?_) fun _ _ e => e
  obtain ⟨σ'', i'', p'', ρ'', l'', q⟩ := hh
  obtain ⟨o, es, ep, ho, r⟩ := hn
  obtain ⟨k1, k2⟩ := p''.kept C o hCO ho hC0 (by rw [NH.set_ne _ _ hCD]; exact hCn)
  refine ⟨m', ⟨o, es, ep, k1, r⟩, fun h' hs' => ⟨σ'', i''.sameBut (tk := s''.toks) k2 hC0 hs'.extBut, ⟨fun b ob hx hb hb0 n => ?_⟩, ρ'', ?_, q⟩⟩
  · obtain ⟨x1, x2⟩ := p0.kept b ob (fun h => h) hb hb0 n
    obtain ⟨y1, y2⟩ := p''.kept b ob hx x1 hb0 x2
    refine ⟨(hs'.2 b ?_).trans y1, y2⟩
    rintro rfl
    have := gone p₂ hb0 hCs n
    rw [this] at hb; cases hb
  · exact l''.stpX (X := fun b => b = C) (Stp.sameBut (tk := s''.toks) rfl hs'.extBut) fun b ho e => hCO (e ▸ ho)
end

section
variable {W : Wd} {X : Addr → Prop} {A : Around} {σ : NH} {s : Shared} {d : Nat} {env : Env} {ρ : Loc} {Q : Value → NH → Prop} {P : Bool → NH → Prop} {K : Flow → Loc → NH → Prop}

theorem map_one {us : List Value} {x : Value} (h : us.map nz = [x]) : ∃ u, us = [u] ∧ nz u = x := by
  match us, h with
  | [u], h => exact ⟨u, rfl, by simpa using h⟩
theorem map_two {us : List Value} {x y : Value} (h : us.map nz = [x, y]) : ∃ u w, us = [u, w] ∧ nz u = x ∧ nz w = y := by
  match us, h with
  | [u, w], h => simp only [List.map_cons, List.map_nil, List.cons.injEq, and_true] at h; exact ⟨u, w, rfl, h.1, h.2⟩

noncomputable def intL (ns : List Int) : List Value := ns.map fun i => .int i 0
theorem intsAre_of : ∀ {vs : List Value} {ns : List Int}, vs.map nz = intL ns → IntsAre vs ns
  | [], [], _ => .nil
  | [], _ :: _, h => by cases h
  | _ :: _, [], h => by cases h
  | v :: vs, n :: ns, h => by
    have h' : nz v = .int n 0 ∧ vs.map nz = intL ns := by simpa [intL] using h
    obtain ⟨t, rfl⟩ := nz_int h'.1
    exact .cons n t (intsAre_of h'.2)
theorem ints_of : ∀ {vs : List Value} {ns : List Int}, IntsAre vs ns → vs.map nz = intL ns
  | _, _, .nil => rfl
  | _, _, .cons n t h => by
    have := ints_of h
    simp [intL, nz] at this ⊢
    exact this

theorem CB_len {l : Addr} {xs : List Value} (hl : σ l = some (.list xs)) (hs : xs.length < 1000000) (h : Q (.int xs.length 0) σ) : CB W d (.builtin "len") [.ref l] σ Q := fun A s us a i e => by
  obtain ⟨u, rfl, hu⟩ := map_one e
  rw [nz_ref hu]
  obtain ⟨items, n, ho, rfl⟩ := i.list hl
  have hsz : items.size < 1000000 := by simpa using hs
  refine Calls.call_len_list ⟨_, ho, rfl, n, rfl⟩ (by omega) ⟨σ, i.tok, .tok, ?_⟩
  have e : (items.size : Int) = ((items.toList.map nz).length : Int) := by simp
  show Q (.int items.size 0) σ
  rw [e]; exact h
theorem CB_range1 {n : Int} (h : ∀ r, σ r = none → Q (.ref r) (σ.set r (.rng 0 n 1))) : CB W d (.type "range") [.int n 0] σ Q := fun A s us a i e => by
  obtain ⟨u, rfl, hu⟩ := map_one e
  obtain ⟨t, rfl⟩ := nz_int hu
  exact call_range_1 ⟨_, i.push (o := .rng 0 n 1) ⟨_, _, _, rfl⟩ rfl, .push, h _ i.fresh.1⟩
theorem CB_range2 {m n : Int} (h : ∀ r, σ r = none → Q (.ref r) (σ.set r (.rng m n 1))) : CB W d (.type "range") [.int m 0, .int n 0] σ Q := fun A s us a i e => by
  obtain ⟨u, w, rfl, hu, hw⟩ := map_two e
  obtain ⟨t, rfl⟩ := nz_int hu
  obtain ⟨t', rfl⟩ := nz_int hw
  exact call_range_2 ⟨_, i.push (o := .rng m n 1) ⟨_, _, _, rfl⟩ rfl, .push, h _ i.fresh.1⟩
theorem CB_abs {n : Int} (h : Q (.int (if n < 0 then -n else n) 0) σ) : CB W d (.builtin "abs") [.int n 0] σ Q := fun A s us a i e => by
  obtain ⟨u, rfl, hu⟩ := map_one e
  obtain ⟨t, rfl⟩ := nz_int hu
  exact call_abs_int fun u tk => ⟨σ, i.tok, .tok, h⟩
theorem CB_int {n : Int} (h : Q (.int n 0) σ) : CB W d (.type "int") [.int n 0] σ Q := fun A s us a i e => by
  obtain ⟨u, rfl, hu⟩ := map_one e
  obtain ⟨t, rfl⟩ := nz_int hu
  exact call_int_int ⟨σ, i, .refl, h⟩
theorem CB_list {l : Addr} {xs : List Value} (hl : σ l = some (.list xs)) (hs : xs.length < 1000000) (h : ∀ r, σ r = none → Q (.ref r) (σ.set r (.list xs))) : CB W d (.type "list") [.ref l] σ Q := fun A s us a i e => by
  obtain ⟨u, rfl, hu⟩ := map_one e
  rw [nz_ref hu]
  obtain ⟨items, n, ho, rfl⟩ := i.list hl
  have hsz : items.size < 1000000 := by simpa using hs
  refine call_list_seq (hsz := by rw [sizeLine_eq]; omega) l (.inl rfl) ho rfl rfl fun h' c' k hn => ?_
  have i' : Inv W σ { s with heap := h' } := i.same (tk := s.toks) fun b o e _ => k b o e
  have p' : Stp W noX σ s σ { s with heap := h' } := Stp.same (tk := s.toks) fun b o _ e => k b o e
  refine ⟨_, i'.adopt (o := .list (items.toList.map nz)) hn ⟨_, _, rfl, rfl⟩ i.fresh.2, ⟨fun b ob hx hb h0 n => ?_⟩, h _ i.fresh.1⟩
  obtain ⟨x1, x2⟩ := p'.kept b ob hx hb h0 n
  exact ⟨x1, by rw [NH.set_ne _ _ (Nat.ne_of_lt (Heap.lt_size hb))]; exact x2⟩
theorem CB_min {l : Addr} {ns : List Int} (hl : σ l = some (.list (intL ns))) (hne : ns ≠ []) (h : ∀ m, m ∈ ns → (∀ x ∈ ns, m ≤ x) → Q (.int m 0) σ) : CB W d (.builtin "min") [.ref l] σ Q := fun A s us a i e => by
  obtain ⟨u, rfl, hu⟩ := map_one e
  rw [nz_ref hu]
  obtain ⟨items, n, ho, hm⟩ := i.list hl
  have hi := intsAre_of hm
  obtain ⟨xs, ex⟩ := hi.allInts.items
  have hns : ns = xs.toList.map (·.1) := by rw [← hi.numsOf, ← nums_intItems, ← ex]
  have ei : items = intItems xs := by rw [← ex]
  have hsz : 0 < xs.size := by
    rcases Nat.eq_zero_or_pos xs.size with h0 | h0
    · exfalso; apply hne; rw [hns]
      have : xs.toList = [] := by rw [← List.length_eq_zero_iff]; simpa using h0
      rw [this]; rfl
    · exact h0
  rw [ei] at ho
  refine min_intList a.hd ⟨_, ho, rfl, n, rfl⟩ hsz fun v h' tk hv hk => ?_
  obtain ⟨t, rfl⟩ := intItems_at hv
  obtain ⟨h1, h2⟩ := argBest_lt (numAt xs) (xs.size - 1)
  have key : ∀ j, j < xs.size → numAt xs j ∈ ns := fun j hj => by
    rw [hns]
    have : xs[j]? = some xs[j] := Array.getElem?_eq_getElem hj
    unfold numAt
    rw [this]
    exact List.mem_map_of_mem (f := fun p : Int × Tok => p.1) (Array.getElem_mem_toList hj)
  refine ⟨σ, i.same fun b o e _ => hk b o e, Stp.same fun b o _ e => hk b o e, h _ (key _ (by omega)) fun x hx => ?_⟩
  rw [hns] at hx
  obtain ⟨p, hp, rfl⟩ := List.mem_map.mp hx
  obtain ⟨j, hj, e⟩ := List.getElem_of_mem hp
  have hj' : j < xs.size := by simpa using hj
  have := h2 j (by omega)
  have e2 : numAt xs j = p.1 := by
    unfold numAt
    rw [Array.getElem?_eq_getElem hj']
    have : xs[j] = p := by simpa using e
    rw [this]; rfl
  rw [e2] at this; exact this
theorem CB_sorted {l : Addr} {ns : List Int} (hl : σ l = some (.list (intL ns))) (hlen : ns.length < 64) (h : ∀ r ns', σ r = none → ns'.Perm ns → ns'.Pairwise (· ≤ ·) → Q (.ref r) (σ.set r (.list (intL ns')))) : CB W d (.builtin "sorted") [.ref l] σ Q := fun A s us a i e => by
  obtain ⟨u, rfl, hu⟩ := map_one e
  rw [nz_ref hu]
  obtain ⟨items, n, ho, hm⟩ := i.list hl
  have hi := intsAre_of hm
  have hlen' : items.toList.length < 64 := by
    have : (items.toList.map nz).length = (intL ns).length := by rw [hm]
    simp only [List.length_map, intL] at this; omega
  refine sorted_ints (vs := items.toList) ⟨_, ho, rfl, n, by simp⟩ hi hlen' fun out ns' a1 a2 a3 => ?_
  obtain ⟨c, hc⟩ := sortedAll_at s.heap items.toList out
  have k : ∀ b o, s.heap.get? b = some o → (sortedAll s.heap items.toList out).get? b = some o := fun b o e => sortedAll_old e
  have i' : Inv W σ { s with heap := sortedAll s.heap items.toList out } := i.same (tk := s.toks) fun b o e _ => k b o e
  have p' : Stp W noX σ s σ { s with heap := sortedAll s.heap items.toList out } := Stp.same (tk := s.toks) fun b o _ e => k b o e
  have fr : σ (s.heap.objs.size + 1) = none ∧ W.h0.get? (s.heap.objs.size + 1) = none := by
    constructor
    · cases q : σ (s.heap.objs.size + 1) with
      | none => rfl
      | some o => obtain ⟨ob, h1, _⟩ := i.rep _ _ q; exact absurd (Heap.lt_size h1) (Nat.not_lt.mpr (Nat.le_succ _))
    · cases q : W.h0.get? (s.heap.objs.size + 1) with
      | none => rfl
      | some o => exact absurd (Heap.lt_size (i.keep _ _ q)) (Nat.not_lt.mpr (Nat.le_succ _))
  refine ⟨_, i'.adopt (o := .list (intL ns')) hc ⟨_, _, rfl, ints_of a1⟩ fr.2, ⟨fun b ob hx hb h0 n => ?_⟩, h _ ns' fr.1 a2 a3⟩
  obtain ⟨x1, x2⟩ := p'.kept b ob hx hb h0 n
  exact ⟨x1, by rw [NH.set_ne _ _ (Nat.ne_of_lt (Nat.lt_succ_of_lt (Heap.lt_size hb)))]; exact x2⟩

theorem op_cat {a b : Addr} {xs ys : List Value} (ha : σ a = some (.list xs)) (hb : σ b = some (.list ys)) (hs : xs.length + ys.length < 1000000) (h : ∀ r, σ r = none → Q (.ref r) (σ.set r (.list (xs ++ ys)))) : OpV W d (binaryOp .Add) (.ref a) (.ref b) σ Q := fun A s v u ao i hv hu => by
  rw [nz_ref hv, nz_ref hu]
  obtain ⟨items, n, ho, rfl⟩ := i.list ha
  obtain ⟨items2, n2, ho2, rfl⟩ := i.list hb
  have hsz : items.size + items2.size < 1000000 := by simpa using hs
  refine PySem.concat_meets ⟨_, ho, rfl⟩ ⟨_, ho2, rfl⟩ noFill_list_add seq_list_add PySem.F.slot_list_add PySem.F.entry_list_add (PySem.F.args_list_add_2 _ _) (list_addW a b items items2 n n2 none none #[] #[] (by rw [sizeLine_eq]; omega)) ⟨ho, ho2, ?_⟩
  exact ⟨_, i.pushL (by simp), .push, h _ i.fresh.1⟩
theorem op_ne_ints {a b : Addr} {ns ms : List Int} (ha : σ a = some (.list (intL ns))) (hb : σ b = some (.list (intL ms))) (h : Q (.bool (!decide (ns = ms))) σ) : OpV W d (compareOp .NotEq) (.ref a) (.ref b) σ Q := fun A s v u ao i hv hu => by
  rw [nz_ref hv, nz_ref hu]
  obtain ⟨items, n, ho, hm⟩ := i.list ha
  obtain ⟨items2, n2, ho2, hm2⟩ := i.list hb
  have hun := ao.un
  exact ke_ne_ints (xs := items.toList) (ys := items2.toList) ⟨_, ho, rfl, n, by simp⟩ ⟨_, ho2, rfl, n2, by simp⟩ (intsAre_of hm) (intsAre_of hm2) (by show A.units + 64 < 9900; omega) ⟨σ, i, .refl, h⟩
end

section
variable {W : Wd} {X : Addr → Prop} {A : Around} {σ : NH} {s : Shared} {d : Nat} {env : Env} {ρ : Loc} {Q : Value → NH → Prop} {P : Bool → NH → Prop} {K : Flow → Loc → NH → Prop}

theorem map_three {us : List Value} {x y z : Value} (h : us.map nz = [x, y, z]) : ∃ u v w, us = [u, v, w] ∧ nz u = x ∧ nz v = y ∧ nz w = z := by
  cases us with
  | nil => cases h
  | cons u r =>
    rw [List.map_cons, List.cons.injEq] at h
    obtain ⟨v, w, rfl, h1, h2⟩ := map_two h.2
    exact ⟨u, v, w, rfl, h.1, h1, h2⟩

theorem EV_append {o elt : Expr} {apos pos : Pos} (h : EV W d env (eval o env) ρ σ (fun x σ₁ => ∃ l xs₀, x = .ref l ∧ σ₁ l = some (.list xs₀) ∧ EV W d env (eval elt env) ρ σ₁ (fun y σ₂ => ∃ xs, σ₂ l = some (.list xs) ∧ xs.length < 1000000 ∧ Q .none (σ₂.set l (.list (xs ++ [y]))))))
    (hbase : attributeBase o "append" env (eval o env) = eval o env := by rfl)
    (hfew : ((backTo pos (starEach [elt] env)).all (fun x => !x.1) && (backToKw pos (keywordEach [] env)).all (fun x => x.1.isSome)
      && decide (([elt] : List Expr).length + ([] : List Keyword).length + (if ([] : List Keyword).isEmpty then 0 else 1) < 30)) = true := by rfl)
    (hline : (apos.endLine == pos.line) = true := by rfl) (htrees : backTo pos (starEach [elt] env) = [(false, eval elt env)] := by rfl) :
    EV W d env (eval (.Call (.Attribute o "append" apos) [elt] [] pos) env) ρ σ Q := fun A s a i lo => by
  refine wpAny_Call_append hbase hfew hline htrees (WP.then (h A s a i lo) fun x σ₁ s₁ i₁ p₁ ⟨l, xs₀, ex, hl, q⟩ => ?_)
  obtain ⟨items, n, ho, hm⟩ := i₁.list hl
  refine ⟨l, items, nz_ref ex, ⟨_, n, ho, rfl, rfl, rfl⟩, WP.then (q A s₁ a i₁ (lo.stp p₁)) fun y σ₂ s₂ i₂ p₂ ⟨xs, hl₂, hlen, q₂⟩ => ?_⟩
  obtain ⟨items2, n2, ho2, rfl⟩ := i₂.list hl₂
  have hsz : items2.size < 1000000 := by simpa using hlen
  refine call_meets slot_list_append ⟨_, ho2, rfl⟩ entry_list_append (args_list_append _ _) (AutoListH.list_append_list_val_0 l items2 n2 y (by rw [sizeLine_eq]; omega)) ⟨ho2, ?_⟩
  have e : Obj.mapSeq (fun z => z.push y) (PySem.W.listOf items2 n2) = { cls := .type "list", data := .seq (items2.push y) (n2 + 1) } := by simp [Obj.mapSeq]
  exact ⟨_, i₂.upd (tk := s₂.toks) (o' := .list (items2.toList.map nz ++ [nz y])) hl₂ (fun _ h => by cases h) ho2 (by rw [e]; exact ⟨_, _, rfl, by simp⟩) (by rw [e]; rfl), (p₁.trans p₂).trans (.upd (tk := s₂.toks) hl₂), q₂⟩

theorem CB_insert' {l : Addr} {xs : List Value} {k : Nat} {kk : Int} {v : Value} (hkk : kk = (k : Int)) (hl : σ l = some (.list xs)) (hk : k ≤ xs.length) (hs : xs.length < 1000000) (h : Q .none (σ.set l (.list (xs.take k ++ v :: xs.drop k)))) :
    CB W d (.builtin "list.insert") [.ref l, .int kk 0, v] σ Q := fun A s us a i e => by
  obtain ⟨u0, u1, u2, rfl, e0, e1, e2⟩ := map_three e
  rw [nz_ref e0]
  obtain ⟨t, rfl⟩ := nz_int e1
  obtain ⟨items, n, ho, rfl⟩ := i.list hl
  have hsz : items.size < 1000000 := by simpa using hs
  have hk' : k ≤ items.size := by simpa using hk
  have hk3 : kk < 2 ^ 63 := by omega
  have hk4 : (0 : Int) ≤ kk := by omega
  have hfit : ¬(!Builtin.List.listFitsIndex kk) = true := by
    rw [fitsIndex_of hk4 hk3]; simp
  have hsl : items.size ≤ sizeLine := by rw [sizeLine_eq]; omega
  have g := AutoListH.list_insert_list_int_val_1 l items n kk t u2 hfit hsl
  have ga := PySem.F.args_list_insert_3 (.ref l) (.int kk t) u2
  refine call_meets (rest := [.int kk t, u2]) PySem.F.slot_list_insert ⟨_, ho, rfl⟩ PySem.F.entry_list_insert ga g ⟨ho, ?_⟩
  have hsz2 : ((items.extract 0 k).push u2 ++ items.extract k).size = items.size + 1 := by
    simp only [Array.size_append, Array.size_push, Array.size_extract]; omega
  have e3 : Obj.mapSeq (fun xs => have k_1 := if kk < 0 then (kk + ((xs.size : Nat) : Int)).toNat else min kk.toNat xs.size; (xs.extract 0 k_1).push u2 ++ xs.extract k_1) (PySem.W.listOf items n) =
      { cls := .type "list", data := .seq ((items.extract 0 k).push u2 ++ items.extract k) (n + 1) } := by
    have hn : ¬ (kk < 0) := by omega
    have hm : min kk.toNat items.size = k := by omega
    simp only [Obj.mapSeq, if_neg hn, hm, hsz2]
    rw [if_neg (by simp)]
  refine ⟨_, i.upd (tk := s.toks) (o' := .list ((items.toList.map nz).take k ++ v :: (items.toList.map nz).drop k)) hl (fun _ h => by cases h) ho (by
    rw [e3]
    refine ⟨_, _, rfl, ?_⟩
    subst e2
    simp [List.map_take, List.map_drop, List.extract_eq_drop_take, List.take_of_length_le]) (by rw [e3]; rfl), .upd (tk := s.toks) hl, h⟩
theorem CB_insert {l : Addr} {xs : List Value} {k : Nat} {v : Value} (hl : σ l = some (.list xs)) (hk : k ≤ xs.length) (hs : xs.length < 1000000) (h : Q .none (σ.set l (.list (xs.take k ++ v :: xs.drop k)))) :
    CB W d (.builtin "list.insert") [.ref l, .int k 0, v] σ Q := CB_insert' rfl hl hk hs h

theorem EV_insert {o : Expr} {es : List Expr} {apos pos : Pos} (h : EV W d env (eval o env) ρ σ (fun x σ₁ => ∃ l xs₀, x = .ref l ∧ σ₁ l = some (.list xs₀) ∧ LC W d env es pos ρ σ₁ (fun vs σ₂ => CB W d (.builtin "list.insert") (.ref l :: vs) σ₂ Q)))
    (hbase : attributeBase o "insert" env (eval o env) = eval o env := by rfl)
    (hfew : ((backTo pos (starEach es env)).all (fun x => !x.1) && (backToKw pos (keywordEach [] env)).all (fun x => x.1.isSome)
      && decide (es.length + ([] : List Keyword).length + (if ([] : List Keyword).isEmpty then 0 else 1) < 30)) = true := by rfl)
    (hline : (apos.endLine == pos.line) = true := by rfl)
    (hne : es = [] ∨ ∃ x rest, backTo pos (starEach es env) = (false, x) :: rest := by first | exact .inl rfl | exact .inr ⟨_, _, rfl⟩) (hpl : (backTo pos (starEach es env)).any (·.1) = false := by rfl) :
    EV W d env (eval (.Call (.Attribute o "insert" apos) es [] pos) env) ρ σ Q := fun A s a i lo => by
  refine wpAny_Call_method hbase hfew hline PySem.F.plainAttrs_list PySem.F.slot_list_insert PySem.F.type_list_insert (WP.then (h A s a i lo) fun x σ₁ s₁ i₁ p₁ ⟨l, xs₀, ex, hl, q⟩ => ?_)
  rw [nz_ref ex]
  obtain ⟨items, n, ho, hm⟩ := i₁.list hl
  refine ⟨⟨_, ho, rfl⟩, fun b hb => by cases hb; exact ⟨_, ho, rfl⟩, ?_⟩
  exact (CW (first := [.ref l]) (vs₀ := [.ref l]) rfl (.inr fun h => Looks.of_pure rfl) q hne hpl A s₁ a i₁ (lo.stp p₁)).after p₁

theorem EV_method {o : Expr} {name : Str} {es : List Expr} {apos pos : Pos} (h : EV W d env (eval o env) ρ σ (fun x σ₁ => ∃ y C dd m f, x = .ref y ∧ σ₁ y = some (.inst C dd) ∧ σ₁ dd = some (.dct m) ∧ plainGet (KK W.w) C name = true ∧
      findIn (KK W.w) (.ref C) name = some (some (.ref f)) ∧ typeIn (KK W.w) (.ref f) = some (.type "function") ∧ m.lookup name = none ∧ keepIn (KK W.w) (.ref f) = true ∧ LC W d env es pos ρ σ₁ (fun vs σ₂ => FC W d (.ref f) (.ref y :: vs) σ₂ Q)))
    (hbase : attributeBase o name env (eval o env) = eval o env := by rfl)
    (hfew : ((backTo pos (starEach es env)).all (fun x => !x.1) && (backToKw pos (keywordEach [] env)).all (fun x => x.1.isSome)
      && decide (es.length + ([] : List Keyword).length + (if ([] : List Keyword).isEmpty then 0 else 1) < 30)) = true := by rfl)
    (hline : (apos.endLine == pos.line) = true := by rfl)
    (hne : es = [] ∨ ∃ x rest, backTo pos (starEach es env) = (false, x) :: rest := by first | exact .inl rfl | exact .inr ⟨_, _, rfl⟩) (hpl : (backTo pos (starEach es env)).any (·.1) = false := by rfl) :
    EV W d env (eval (.Call (.Attribute o name apos) es [] pos) env) ρ σ Q := fun A s a i lo => by
  unfold WP
  rw [arm_eval_Call, hbase]
  refine wpAny_bind (WP.then (h A s a i lo) fun x σ₁ s₁ i₁ p₁ ⟨y, C, dd, m, f, ex, hy, hdd, hg, hf, ht, hm, hk, q⟩ => wpAny_bind (wpAny_standAt ?_))
  rw [nz_ref ex]
  obtain ⟨ents, n, I, hd, hok⟩ := i₁.inst hy hdd
  have hform : methodCallForm (es.length + ([] : List Keyword).length) (backTo pos (starEach es env)) (backToKw pos (keywordEach [] env)) = true := hfew
  have hpos : methodCallPos true o env apos pos = pure pos := by unfold methodCallPos; simp [hline]
  unfold methodCall
  rw [hform]
  refine wpAny_bind (wpAny_holding (method_fn i₁.KI I (plainGet_of hg).1 (plainGet_of hg).2 hf ht (by
    show (lookIn name (dictOf ents n)).map (·.isSome) = some false
    rw [lookIn_dict, (hok.miss hm).1]; rfl) ?_))
  refine wpAny_bind (wpAny_of_eq hpos ?_)
  exact (CW (first := [.ref y]) (vs₀ := [.ref y]) rfl (.inl hk) (EC.mono q fun vs σ₂ q => CB_FC q) hne hpl A s₁ a i₁ (lo.stp p₁)).after p₁

theorem EV_reverse {value : Expr} {k : Nat} {p pos p1 p2 : Pos} (h : EV W d env (eval value env) ρ σ (fun x σ₁ => ∃ a xs, x = .ref a ∧ σ₁ a = some (.list xs) ∧ xs.length < 1000000 ∧ ∀ l, σ₁ l = none → Q (.ref l) (σ₁.set l (.list xs.reverse)))) :
    EV W d env (eval (.Subscript value (.Slice none none (some (.UnaryOp .USub (.Constant (.int 1) k p1) p2)) p) pos) env) ρ σ Q := fun A s a i lo' => by
  refine Subscript_ ((h A s a i lo').then fun v σ₁ s₁ i₁ p₁ ⟨b, xs, eb, hb, hlen, q⟩ => wpAny_Slice (wpAny_pure (wpAny_pure ?_)))
  refine wpAny_UnaryOp (wpAny_Constant_int (PyProof.Rows.neg_int ?_))
  rw [nz_ref eb]
  obtain ⟨items, n, ho, rfl⟩ := i₁.list hb
  have hl : items.size < 1000000 := by simpa using hlen
  have ho' : (s₁.heap.push { cls := .type "slice", data := .fields #[.none, .none, .int (-1) (s₁.toks + 1)] }).get? b = some (PySem.W.listOf items n) := Heap.get?_push_of_some _ ho
  have i₄ : Inv W σ₁ { s₁ with heap := s₁.heap.push { cls := .type "slice", data := .fields #[.none, .none, .int (-1) (s₁.toks + 1)] }, toks := s₁.toks + 1 + 1 } := i₁.same fun b o e _ => Heap.get?_push_of_some _ e
  have p₄ : Stp W noX σ₁ s₁ σ₁ { s₁ with heap := s₁.heap.push { cls := .type "slice", data := .fields #[.none, .none, .int (-1) (s₁.toks + 1)] }, toks := s₁.toks + 1 + 1 } := Stp.same fun b o _ e => Heap.get?_push_of_some _ e
  refine tail_any ⟨_, ho', rfl⟩ slot_list_getitem.lookup (wpAny_getItem_list_slice ⟨_, ho', rfl, n, rfl⟩ (Heap.IsSliceOf.new ..) .none .none (.int _ _) (by intro h; cases h) ?_ (by rw [sizeLine_eq]; omega)) (by with_unfolding_all rfl)
  rw [krv_pick]
  exact ⟨_, i₄.pushL (by simp), (p₁.trans p₄).trans .push, q _ i₄.fresh.1⟩

noncomputable def toPy : Value → PyData
  | .int i _ => .int i
  | .str x _ => .str x
  | _ => .none
noncomputable def flatV : Value → Bool
  | .int _ _ => true
  | .str x _ => PyData.strOk x
  | _ => false
theorem reads_flat {h : Heap} : ∀ {vs : List Value} {r : List Value}, vs.map nz = r → (∀ v ∈ r, flatV v = true) → ∃ as, ReadsAll h vs (r.map toPy) as
  | [], _, rfl, _ => ⟨[], .nil⟩
  | v :: vs, _, rfl, hf => by
    obtain ⟨as, h2⟩ := reads_flat (h := h) (vs := vs) rfl fun v hv => hf v (List.mem_cons_of_mem _ hv)
    have hv := hf (nz v) List.mem_cons_self
    cases v <;> simp only [nz, flatV, Bool.false_eq_true] at hv
    · exact ⟨_, .cons (.int _ _) h2⟩
    · exact ⟨_, .cons (.str _ _) h2⟩

noncomputable def IsRows (σ : NH) : List Value → List (List Value) → Prop
  | [], [] => True
  | v :: vs, r :: rs => (∃ a, v = .ref a ∧ σ a = some (.list r)) ∧ IsRows σ vs rs
  | _, _ => False
theorem reads_rows (i : Inv W σ s) : ∀ {us vs : List Value} {rs : List (List Value)}, us.map nz = vs → IsRows σ vs rs → (∀ r ∈ rs, ∀ v ∈ r, flatV v = true) → ∃ as, ReadsAll s.heap us (rs.map fun r => .list (r.map toPy)) as
  | [], _, [], rfl, _, _ => ⟨[], .nil⟩
  | [], _, _ :: _, rfl, h, _ => h.elim
  | _ :: _, _, [], rfl, h, _ => h.elim
  | u :: us, _, r :: rs, rfl, ⟨⟨a, e, h1⟩, h2⟩, hf => by
    obtain ⟨as, h3⟩ := reads_rows i rfl h2 fun r hr => hf r (List.mem_cons_of_mem _ hr)
    obtain ⟨items, n, ho, hm⟩ := i.list h1
    obtain ⟨bs, h4⟩ := reads_flat (h := s.heap) hm (hf r List.mem_cons_self)
    rw [nz_ref e]
    exact ⟨_, .cons (.list ho rfl rfl h4) h3⟩
theorem canLay_flat : ∀ (r : List Value), (∀ v ∈ r, flatV v = true) → PyData.canLayAll0 (r.map toPy) = true ∧ PyData.depthAll (r.map toPy) = 0
  | [], _ => ⟨rfl, rfl⟩
  | v :: r, h => by
    obtain ⟨h1, h2⟩ := canLay_flat r fun v hv => h v (List.mem_cons_of_mem _ hv)
    have hv := h v List.mem_cons_self
    cases v <;> simp only [flatV, Bool.false_eq_true] at hv <;> simp [toPy, PyData.canLayAll0, PyData.canLay0, PyData.depthAll, PyData.depth, h1, h2, hv]
theorem canLay_rows : ∀ (rs : List (List Value)), (∀ r ∈ rs, ∀ v ∈ r, flatV v = true) → PyData.canLayAll0 (rs.map fun r => .list (r.map toPy)) = true ∧ PyData.depthAll (rs.map fun r => .list (r.map toPy)) ≤ 1
  | [], _ => ⟨rfl, Nat.zero_le _⟩
  | r :: rs, h => by
    obtain ⟨h1, h2⟩ := canLay_rows rs fun v hv => h v (List.mem_cons_of_mem _ hv)
    obtain ⟨h3, h4⟩ := canLay_flat r (h r List.mem_cons_self)
    simp [PyData.canLayAll0, PyData.canLay0, PyData.depthAll, PyData.depth, h1, h3, h4]
    omega
theorem op_ne_rows {a b : Addr} {xs ys : List Value} {rs : List (List Value)} (ha : σ a = some (.list xs)) (hb : σ b = some (.list ys)) (h1 : IsRows σ xs rs) (h2 : IsRows σ ys rs) (hf : ∀ r ∈ rs, ∀ v ∈ r, flatV v = true) (h : Q (.bool false) σ) :
    OpV W d (compareOp .NotEq) (.ref a) (.ref b) σ Q := fun A s v u ao i hv hu => by
  rw [nz_ref hv, nz_ref hu]
  obtain ⟨items, n, ho, hm⟩ := i.list ha
  obtain ⟨items2, n2, ho2, hm2⟩ := i.list hb
  obtain ⟨as, r1⟩ := reads_rows i hm h1 hf
  obtain ⟨bs, r2⟩ := reads_rows i hm2 h2 hf
  obtain ⟨c1, c2⟩ := canLay_rows rs hf
  have hc : (PyData.list (rs.map fun r => .list (r.map toPy))).canLay0 = true := by simpa [PyData.canLay0] using c1
  have hs : SeqAt.shaped (PyData.list (rs.map fun r => .list (r.map toPy))) = true := by
    unfold SeqAt.shaped
    rw [hc, Bool.true_and]
    refine decide_eq_true ?_
    simp only [PyData.depth]; omega
  have hun := ao.un
  refine ne_dataH (Reads.list ho rfl rfl r1) (Reads.list ho2 rfl rfl r2) hs hs (by show A.units + 64 < 9900; omega) ?_
  rw [eqv_refl _ hc]
  exact ⟨σ, i, .refl, h⟩
end

structure FnOk (a : Addr) (fd : FuncData) (oc : Value) (od : Option Addr) (osl : Array (Option Value)) (body : List Stmt) : Prop where
  ho : ∀ P, (heapK P).lookup a = some ⟨oc, od, .func fd, osl⟩
  hbody : fd.body = .stmts body
  hcd : ∀ P, codeIn (heapK P) fd.code fd.qualname = true
  hst : fd.closure = [] ∧ fd.globals = mainGlobals ∧ fd.builtins = builtinsNs ∧ fd.scope.isCoroutine = false ∧ fd.scope.isGenerator = false ∧ fd.scope.kind = .function
  hfree : ∀ x ∈ fd.scope.names, x.2 ≠ .free

structure FnAt (a : Addr) where
  fd : FuncData
  oc : Value
  od : Option Addr
  osl : Array (Option Value)
  body : List Stmt
  ok : FnOk a fd oc od osl body
noncomputable def EN {a : Addr} (F : FnAt a) (L : Addr) : Env := callEnvC F.fd L a
noncomputable def okNames (names : List (Str × NameKind)) (l : List Str) : Bool := decide l.Nodup && l.all fun x => names.lookup x == some .local || names.lookup x == some .cell

section
variable {W : Wd} {X : Addr → Prop} {A : Around} {σ : NH} {s : Shared} {d : Nat} {env : Env} {ρ : Loc} {Q : Value → NH → Prop} {K : Flow → Loc → NH → Prop}

theorem FC_fn {f : Addr} (F : FnAt f) {args : List Value} {nb : Loc} (binds : List Value → List (Str × Value))
    (hb : ∀ vs s, vs.map nz = args → Inv W σ s → BindsTo s F.fd ⟨vs, []⟩ (binds vs)) (hm : ∀ vs, vs.map nz = args → ((binds vs).map fun p => (p.1, nz p.2)) = nb)
    (hn : okNames F.fd.scope.names (nb.map (·.1)) = true)
    (h : ∀ L, SC W d (EN F L) (execs F.body (EN F L)) nb σ (fun fl _ σ' => Q (match fl with | .ret v => v | _ => .none) σ')) : FC W (d + 1) (.ref f) args σ Q := by
  unfold okNames at hn
  rw [Bool.and_eq_true, decide_eq_true_eq, List.all_eq_true] at hn
  refine FC_def (F.ok.ho _) F.ok.hbody (F.ok.hcd _) F.ok.hst.1 F.ok.hst.2.1 F.ok.hst.2.2.1 (fun vs s e i => ⟨_, hb vs s e i, hm vs e⟩) hn.1 (fun p hp => ?_) F.ok.hfree h F.ok.hst.2.2.2.1 F.ok.hst.2.2.2.2.1 F.ok.hst.2.2.2.2.2
  have := hn.2 p.1 (List.mem_map_of_mem hp)
  simpa using this

theorem EC.sub {α : Type} {l : Loc} {t : Sem α} {Q : α → NH → Prop} (h : Sub ρ l) (k : EC W d env t l σ Q) : EC W d env t ρ σ Q := fun A s a i x => k A s a i (x.sub h)
theorem AC.sub {l : Loc} {t : Value → Sem Unit} {x : Value} {L : Loc → NH → Prop} (h : Sub ρ l) (k : AC W d env t x l σ L) : AC W d env t x ρ σ L := fun A s v a i lo e => k A s v a i (lo.sub h) e

theorem Kont_next {rest : List Stmt} (h : SE W d env rest ρ σ K) : Kont W d env rest K .next ρ σ := h
theorem Kont_ret {rest : List Stmt} {v : Value} (h : K (.ret v) ρ σ) : Kont W d env rest K (.ret v) ρ σ := h
theorem EV_globI {x : Str} {pos : Pos} {i : Int} {tk : Tok} (hk : env.kindOf x = some .globalImplicit) (hg : nsIn (KK W.w) mainGlobals x = some (some (.int i tk))) (h : Q (.int i 0) σ) (hd : (x == ("__debug__" : Str)) = false := by decide) :
    EV W d env (eval (.Name x pos) env) ρ σ Q := EV_global hk hg h hd
theorem EV_globR {x : Str} {pos : Pos} {a : Addr} (hk : env.kindOf x = some .globalImplicit) (hg : nsIn (KK W.w) mainGlobals x = some (some (.ref a))) (h : Q (.ref a) σ) (hd : (x == ("__debug__" : Str)) = false := by decide) :
    EV W d env (eval (.Name x pos) env) ρ σ Q := EV_global hk hg h hd
theorem ite_b {b : Bool} {A B : Prop} (h1 : b = true → A) (h2 : b = false → B) : if b = true then A else B := by
  cases b
  · exact h2 rfl
  · exact h1 rfl
theorem NH.set_old {a x : Addr} {o o' : NO} (n : σ a = none) (h : σ x = some o') : (σ.set a o) x = some o' := by
  rw [NH.set_ne _ _ (by rintro rfl; rw [n] at h; cases h)]; exact h
theorem NH.set_oth {a x : Addr} {o o' o'' : NO} (n : σ a = some o'') (hne : o' ≠ o'') (h : σ x = some o') : (σ.set a o) x = some o' := by
  rw [NH.set_ne _ _ (by rintro rfl; rw [n] at h; cases h; exact hne rfl)]; exact h
theorem NH.set_none {a x : Addr} {o : NO} (h : (σ.set a o) x = none) : σ x = none := by
  by_cases e : x = a
  · subst e; rw [NH.set_self] at h; cases h
  · rw [NH.set_ne _ _ e] at h; exact h

theorem NH.set_set {a : Addr} {o o' : NO} : (σ.set a o).set a o' = σ.set a o' := by
  funext b; unfold NH.set; split <;> rfl
theorem NH.set_same {a : Addr} {o : NO} (h : σ a = some o) : σ.set a o = σ := by
  funext b; unfold NH.set; split
  · rename_i e; rw [e, h]
  · rfl
theorem NH.set_comm {a b : Addr} {o o' : NO} (h : a ≠ b) : (σ.set a o).set b o' = (σ.set b o').set a o := by
  funext c; unfold NH.set
  by_cases h1 : c = b
  · subst h1; rw [if_pos rfl, if_neg (Ne.symm h), if_pos rfl]
  · rw [if_neg h1, if_neg h1]

theorem WP.le {α : Type} {t : Sem α} {σ' : NH} {Q : α → NH → Shared → Prop} (h : σ.le σ') (k : WP W X A t σ s Q) : WP W X A t σ' s Q :=
  wpAny_mono k (fun _ _ ⟨τ, i, p, q⟩ => ⟨τ, i, ⟨fun b ob hx e h0 n => p.kept b ob hx e h0 (NH.le_none h n)⟩, q⟩) fun _ _ x => x
theorem SC.le {t : Sem Flow} {σ' : NH} {K : Flow → Loc → NH → Prop} (h : σ.le σ') (k : SC W d env t ρ σ K) : SC W d env t ρ σ' K := fun A s a i l => (k A s a (i.drop h) (l.drop h)).le h
theorem EC.le {α : Type} {t : Sem α} {σ' : NH} {Q : α → NH → Prop} (h : σ.le σ') (k : EC W d env t ρ σ Q) : EC W d env t ρ σ' Q := fun A s a i l => (k A s a (i.drop h) (l.drop h)).le h
theorem FC.le {f : Value} {args : List Value} {σ' : NH} (h : σ.le σ') (k : FC W d f args σ Q) : FC W d f args σ' Q := fun A s vs a i e =>
  codeAny_mono (k A s vs a (i.drop h) e) fun _ _ ⟨v, τ, e, i, p, q⟩ => ⟨v, τ, e, i, ⟨fun b ob hx e h0 n => p.kept b ob hx e h0 (NH.le_none h n)⟩, q⟩

theorem Inv.top {a : Addr} {items : Array Value} {n : Nat} (i : Inv W σ s) (ho : (KK W.w).lookup a = some ⟨.type "tuple", none, .seq items n, #[]⟩) : Inv W (σ.set a (.tup (items.toList.map nz))) s :=
  ⟨i.keep, fun b o e => by
    by_cases h : b = a
    · subst h; rw [NH.set_self] at e; cases e; exact ⟨_, i.KI _ _ ho, _, _, rfl, rfl⟩
    · rw [NH.set_ne _ _ h] at e; exact i.rep b o e, fun b o e => by
    by_cases h : b = a
    · subst h; rw [NH.set_self] at e; cases e; exact .inr ⟨_, rfl⟩
    · rw [NH.set_ne _ _ h] at e; exact i.new b o e, i.gens, i.os⟩
theorem Inv.top_le {a : Addr} {items : Array Value} {n : Nat} (i : Inv W σ s) (ho : (KK W.w).lookup a = some ⟨.type "tuple", none, .seq items n, #[]⟩) : σ.le (σ.set a (.tup (items.toList.map nz))) := fun b o e => by
  by_cases h : b = a
  · subst h
    rw [NH.set_self]
    obtain ⟨ob, h1, h2⟩ := i.rep _ _ e
    have h3 := i.KI _ _ ho
    rw [h1] at h3
    cases h3
    cases o with
    | tup xs =>
      obtain ⟨it, m, h4, h5⟩ := h2
      cases h4
      rw [h5]
    | list xs => obtain ⟨it, m, h4, h5⟩ := h2; simp at h4
    | inst C d => have h4 : _ = instObj C d := h2; cases h4
    | dct m => obtain ⟨es, k, h4, _⟩ := h2; simp [dictOf] at h4
    | rng x y z => obtain ⟨t, u, v, h4⟩ := h2; simp at h4
  · rw [NH.set_ne _ _ h]; exact e
theorem SC.top {t : Sem Flow} {K : Flow → Loc → NH → Prop} {a : Addr} {items : Array Value} {n : Nat} (ho : (KK W.w).lookup a = some ⟨.type "tuple", none, .seq items n, #[]⟩)
    (k : σ.le (σ.set a (.tup (items.toList.map nz))) → SC W d env t ρ (σ.set a (.tup (items.toList.map nz))) K) : SC W d env t ρ σ K := fun A s ao i l => by
  have h0 : W.h0.get? a ≠ none := by rw [W.base.X _ _ ho]; exact Option.some_ne_none _
  have hle := i.top_le ho
  have ns : ∀ b, W.h0.get? b = none → (σ.set a (.tup (items.toList.map nz))) b = σ b := fun b hb => NH.set_ne _ _ (by rintro rfl; exact h0 hb)
  have l' : LOK W env ρ (σ.set a (.tup (items.toList.map nz))) s := by
    refine ⟨l.ns, (ns _ l.l0).trans l.lf, l.l0, fun x hx => ?_, l.inj, l.fn, l.gl, l.bn⟩
    obtain ⟨c, cv, h1, h2, h3, h4⟩ := l.cell x hx
    exact ⟨c, cv, h1, (ns _ h3).trans h2, h3, h4⟩
  exact wpAny_mono (k hle A s ao (i.top ho) l') (fun _ _ ⟨τ, i, p, q⟩ => ⟨τ, i, ⟨fun b ob hx e hb n => p.kept b ob hx e hb ((ns b hb).trans n)⟩, q⟩) fun _ _ x => x
end

theorem b_len : bootBuiltins "len" = some (.builtin "len") := by kernel_rfl
theorem b_min : bootBuiltins "min" = some (.builtin "min") := by kernel_rfl
theorem b_sorted : bootBuiltins "sorted" = some (.builtin "sorted") := by kernel_rfl
theorem b_abs : bootBuiltins "abs" = some (.builtin "abs") := by kernel_rfl
theorem b_range : bootBuiltins "range" = some (.type "range") := by kernel_rfl
theorem b_int : bootBuiltins "int" = some (.type "int") := by kernel_rfl
theorem b_list : bootBuiltins "list" = some (.type "list") := by kernel_rfl
theorem b_reversed : bootBuiltins "reversed" = some (.type "reversed") := by kernel_rfl
theorem b_zip : bootBuiltins "zip" = some (.type "zip") := by kernel_rfl

local macro_rules | `(tactic| walk_at "m_ev") => `(tactic| first
  | ((with_reducible show EV _ _ _ (eval (Expr.Name _ _) _) _ _ _); first
      | refine EV_local (by rfl) (by rfl) ?_
      | refine EV_globI (by rfl) (by rfl) ?_
      | refine EV_globR (by rfl) (by rfl) ?_
      | refine EV_cell (by rfl) (by rfl) ?_
      | refine EV_free (by rfl) (by rfl) ?_)
  | ((with_reducible show EV _ _ _ (eval (Expr.Tuple _ _ _) _) _ _ _); refine EV_tuple ?_)
  | ((with_reducible show EV _ _ _ (eval (Expr.List _ _) _) _ _ _); refine EV_list ?_)
  | ((with_reducible show EV _ _ _ (eval (Expr.Constant (.int _) _ _) _) _ _ _); refine EV_int ?_)
  | ((with_reducible show EV _ _ _ (eval (Expr.Constant (.str _) _ _) _) _ _ _); refine EV_str ?_)
  | ((with_reducible show EV _ _ _ (eval (Expr.Constant (.bool _) _ _) _) _ _ _); refine EV_bool ?_)
  | ((with_reducible show EV _ _ _ (eval (Expr.BinOp _ _ _ _) _) _ _ _); refine EV_bin ?_)
  | ((with_reducible show EV _ _ _ (eval (Expr.Compare _ [_] [_] _) _) _ _ _); refine EV_cmp ?_)
  | ((with_reducible show EV _ _ _ (eval (Expr.IfExp _ _ _ _) _) _ _ _); refine EV_if ?_)
  | ((with_reducible show BC _ _ _ (Expr.Compare _ [_] [_] _) _ _ _); refine BC_cmp ?_)
  | ((with_reducible show BC _ _ _ (Expr.Compare _ [_, _] [_, _] _) _ _ _); refine BC_chain ?_)
  | ((with_reducible show BC _ _ _ (Expr.UnaryOp .Not _ _) _ _ _); refine BC_not ?_)
  | ((with_reducible show BC _ _ _ (Expr.BoolOp .And _ _) _ _ _); refine BC_and ?_)
  | ((with_reducible show BC _ _ _ (Expr.BoolOp .Or _ _) _ _ _); refine BC_or ?_)
  | ((with_reducible show BC _ _ _ (Expr.Name _ _) _ _ _); refine BC_val ?_)
  | ((with_reducible show BC _ _ _ (Expr.Call _ _ _ _) _ _ _); refine BC_val ?_)
  | ((with_reducible show BC _ _ _ (Expr.Subscript _ _ _) _ _ _); refine BC_val ?_)
  | ((with_reducible show TV _ _ (Value.bool _) _ _); refine TV_bool ?_)
  | ((with_reducible show TV _ _ (Value.int _ _) _ _); refine TV_int ?_)
  | ((with_reducible show LC _ _ _ [] _ _ _ _); refine LC_nil ?_)
  | ((with_reducible show LC _ _ _ (_ :: _) _ _ _ _); refine LC_cons ?_)
  | ((with_reducible show OpV _ _ (binaryOp .Add) (Value.int _ _) (Value.int _ _) _ _); refine op_add ?_)
  | ((with_reducible show OpV _ _ (binaryOp .Sub) (Value.int _ _) (Value.int _ _) _ _); refine op_sub ?_)
  | ((with_reducible show OpV _ _ (compareOp .Eq) (Value.int _ _) (Value.int _ _) _ _); refine op_eq ?_)
  | ((with_reducible show OpV _ _ (compareOp .NotEq) (Value.int _ _) (Value.int _ _) _ _); refine op_ne ?_)
  | ((with_reducible show OpV _ _ (compareOp .Lt) (Value.int _ _) (Value.int _ _) _ _); refine op_lt ?_)
  | ((with_reducible show OpV _ _ (compareOp .LtE) (Value.int _ _) (Value.int _ _) _ _); refine op_le ?_)
  | ((with_reducible show OpV _ _ (compareOp .Gt) (Value.int _ _) (Value.int _ _) _ _); refine op_gt ?_)
  | ((with_reducible show OpV _ _ (compareOp .Eq) (Value.str _ _) (Value.str _ _) _ _); refine op_eqs ?_)
  | ((with_reducible show OpV _ _ (compareOp .NotEq) (Value.str _ _) (Value.str _ _) _ _); refine op_nes ?_)
  | ((with_reducible show SE _ _ _ (Stmt.Return (some _) _ :: _) _ _ _); refine S_ret ?_)
  | ((with_reducible show SE _ _ _ (Stmt.Return none _ :: _) _ _ _); refine S_ret0 ?_)
  | ((with_reducible show SE _ _ _ (Stmt.If _ _ _ _ :: _) _ _ _); refine S_if ?_)
  | ((with_reducible show SE _ _ _ (Stmt.Assign [_] _ _ :: _) _ _ _); refine S_assign ?_)
  | ((with_reducible show SE _ _ _ [] _ _ _); refine S_nil ?_)
  | ((with_reducible show AC _ _ _ (assign (Expr.Name _ _) _) _ _ _ _); first | refine AC_local (by rfl) ?_ | refine AC_cell (by rfl) ?_)
  | ((with_reducible show EV _ _ _ (eval (Expr.Call (Expr.Name _ _) _ [] _) _) _ _ _); first
      | refine EV_callB (by rfl) (by rfl) b_len rfl ?_
      | refine EV_callB (by rfl) (by rfl) b_range rfl ?_
      | refine EV_callB (by rfl) (by rfl) b_min rfl ?_
      | refine EV_callB (by rfl) (by rfl) b_sorted rfl ?_
      | refine EV_callB (by rfl) (by rfl) b_abs rfl ?_
      | refine EV_callB (by rfl) (by rfl) b_int rfl ?_
      | refine EV_callB (by rfl) (by rfl) b_list rfl ?_
      | refine EV_call (by rfl) (by rfl) (by rfl) ?_)
  | ((with_reducible show EV _ _ _ (eval (Expr.Subscript _ (Expr.Name _ _) _) _) _ _ _); refine EV_item ?_)
  | ((with_reducible show Kont _ _ _ _ _ Flow.next _ _); refine Kont_next ?_)
  | ((with_reducible show Kont _ _ _ _ _ (Flow.ret _) _ _); refine Kont_ret ?_))
local macro_rules | `(tactic| walk_at "m_go") => `(tactic| repeat (walk_at "m_ev"))
local macro_rules | `(tactic| walk_at "m_sub") => `(tactic| repeat (first | exact Sub.nil | refine Sub.cons (by rfl) ?_))

noncomputable def F35 : FnAt 35 := ⟨⟨_, _, ⟨_, _, _, _, _, _, _⟩, .stmts (_ :: _), ⟨_, _, _, _, _⟩, _, _, _, _, _, _, _, _, _, _⟩, _, _, _, _, ⟨fun _ => rfl, rfl, fun _ => by kernel_rfl, ⟨rfl, rfl, rfl, rfl, rfl, rfl⟩, by decide⟩⟩

noncomputable def F42 : FnAt 42 := ⟨⟨_, _, ⟨_, _, _, _, _, _, _⟩, .stmts (_ :: _), ⟨_, _, _, _, _⟩, _, _, _, _, _, _, _, _, _, _⟩, _, _, _, _, ⟨fun _ => rfl, rfl, fun _ => by kernel_rfl, ⟨rfl, rfl, rfl, rfl, rfl, rfl⟩, by decide⟩⟩

noncomputable def F71 : FnAt 71 := ⟨⟨_, _, ⟨_, _, _, _, _, _, _⟩, .stmts (_ :: _), ⟨_, _, _, _, _⟩, _, _, _, _, _, _, _, _, _, _⟩, _, _, _, _, ⟨fun _ => rfl, rfl, fun _ => by kernel_rfl, ⟨rfl, rfl, rfl, rfl, rfl, rfl⟩, by decide⟩⟩

noncomputable def F81 : FnAt 81 := ⟨⟨_, _, ⟨_, _, _, _, _, _, _⟩, .stmts (_ :: _), ⟨_, _, _, _, _⟩, _, _, _, _, _, _, _, _, _, _⟩, _, _, _, _, ⟨fun _ => rfl, rfl, fun _ => by kernel_rfl, ⟨rfl, rfl, rfl, rfl, rfl, rfl⟩, by decide⟩⟩

noncomputable def F113 : FnAt 113 := ⟨⟨_, _, ⟨_, _, _, _, _, _, _⟩, .stmts (_ :: _), ⟨_, _, _, _, _⟩, _, _, _, _, _, _, _, _, _, _⟩, _, _, _, _, ⟨fun _ => rfl, rfl, fun _ => by kernel_rfl, ⟨rfl, rfl, rfl, rfl, rfl, rfl⟩, by decide⟩⟩

noncomputable def F120 : FnAt 120 := ⟨⟨_, _, ⟨_, _, _, _, _, _, _⟩, .stmts (_ :: _), ⟨_, _, _, _, _⟩, _, _, _, _, _, _, _, _, _, _⟩, _, _, _, _, ⟨fun _ => rfl, rfl, fun _ => by kernel_rfl, ⟨rfl, rfl, rfl, rfl, rfl, rfl⟩, by decide⟩⟩

noncomputable def F127 : FnAt 127 := ⟨⟨_, _, ⟨_, _, _, _, _, _, _⟩, .stmts (_ :: _), ⟨_, _, _, _, _⟩, _, _, _, _, _, _, _, _, _, _⟩, _, _, _, _, ⟨fun _ => rfl, rfl, fun _ => by kernel_rfl, ⟨rfl, rfl, rfl, rfl, rfl, rfl⟩, by decide⟩⟩

noncomputable def F132 : FnAt 132 := ⟨⟨_, _, ⟨_, _, _, _, _, _, _⟩, .stmts (_ :: _), ⟨_, _, _, _, _⟩, _, _, _, _, _, _, _, _, _, _⟩, _, _, _, _, ⟨fun _ => rfl, rfl, fun _ => by kernel_rfl, ⟨rfl, rfl, rfl, rfl, rfl, rfl⟩, by decide⟩⟩

noncomputable def F152 : FnAt 152 := ⟨⟨_, _, ⟨_, _, _, _, _, _, _⟩, .stmts (_ :: _), ⟨_, _, _, _, _⟩, _, _, _, _, _, _, _, _, _, _⟩, _, _, _, _, ⟨fun _ => rfl, rfl, fun _ => by kernel_rfl, ⟨rfl, rfl, rfl, rfl, rfl, rfl⟩, by decide⟩⟩

noncomputable def F159 : FnAt 159 := ⟨⟨_, _, ⟨_, _, _, _, _, _, _⟩, .stmts (_ :: _), ⟨_, _, _, _, _⟩, _, _, _, _, _, _, _, _, _, _⟩, _, _, _, _, ⟨fun _ => rfl, rfl, fun _ => by kernel_rfl, ⟨rfl, rfl, rfl, rfl, rfl, rfl⟩, by decide⟩⟩

noncomputable def F166 : FnAt 166 := ⟨⟨_, _, ⟨_, _, _, _, _, _, _⟩, .stmts (_ :: _), ⟨_, _, _, _, _⟩, _, _, _, _, _, _, _, _, _, _⟩, _, _, _, _, ⟨fun _ => rfl, rfl, fun _ => by kernel_rfl, ⟨rfl, rfl, rfl, rfl, rfl, rfl⟩, by decide⟩⟩

noncomputable def F173 : FnAt 173 := ⟨⟨_, _, ⟨_, _, _, _, _, _, _⟩, .stmts (_ :: _), ⟨_, _, _, _, _⟩, _, _, _, _, _, _, _, _, _, _⟩, _, _, _, _, ⟨fun _ => rfl, rfl, fun _ => by kernel_rfl, ⟨rfl, rfl, rfl, rfl, rfl, rfl⟩, by decide⟩⟩

noncomputable def F180 : FnAt 180 := ⟨⟨_, _, ⟨_, _, _, _, _, _, _⟩, .stmts (_ :: _), ⟨_, _, _, _, _⟩, _, _, _, _, _, _, _, _, _, _⟩, _, _, _, _, ⟨fun _ => rfl, rfl, fun _ => by kernel_rfl, ⟨rfl, rfl, rfl, rfl, rfl, rfl⟩, by decide⟩⟩

noncomputable def F187 : FnAt 187 := ⟨⟨_, _, ⟨_, _, _, _, _, _, _⟩, .stmts (_ :: _), ⟨_, _, _, _, _⟩, _, _, _, _, _, _, _, _, _, _⟩, _, _, _, _, ⟨fun _ => rfl, rfl, fun _ => by kernel_rfl, ⟨rfl, rfl, rfl, rfl, rfl, rfl⟩, by decide⟩⟩

noncomputable def F192 : FnAt 192 := ⟨⟨_, _, ⟨_, _, _, _, _, _, _⟩, .stmts (_ :: _), ⟨_, _, _, _, _⟩, _, _, _, _, _, _, _, _, _, _⟩, _, _, _, _, ⟨fun _ => rfl, rfl, fun _ => by kernel_rfl, ⟨rfl, rfl, rfl, rfl, rfl, rfl⟩, by decide⟩⟩

noncomputable def F199 : FnAt 199 := ⟨⟨_, _, ⟨_, _, _, _, _, _, _⟩, .stmts (_ :: _), ⟨_, _, _, _, _⟩, _, _, _, _, _, _, _, _, _, _⟩, _, _, _, _, ⟨fun _ => rfl, rfl, fun _ => by kernel_rfl, ⟨rfl, rfl, rfl, rfl, rfl, rfl⟩, by decide⟩⟩

noncomputable def F206 : FnAt 206 := ⟨⟨_, _, ⟨_, _, _, _, _, _, _⟩, .stmts (_ :: _), ⟨_, _, _, _, _⟩, _, _, _, _, _, _, _, _, _, _⟩, _, _, _, _, ⟨fun _ => rfl, rfl, fun _ => by kernel_rfl, ⟨rfl, rfl, rfl, rfl, rfl, rfl⟩, by decide⟩⟩

noncomputable def F211 : FnAt 211 := ⟨⟨_, _, ⟨_, _, _, _, _, _, _⟩, .stmts (_ :: _), ⟨_, _, _, _, _⟩, _, _, _, _, _, _, _, _, _, _⟩, _, _, _, _, ⟨fun _ => rfl, rfl, fun _ => by kernel_rfl, ⟨rfl, rfl, rfl, rfl, rfl, rfl⟩, by decide⟩⟩

noncomputable def F218 : FnAt 218 := ⟨⟨_, _, ⟨_, _, _, _, _, _, _⟩, .stmts (_ :: _), ⟨_, _, _, _, _⟩, _, _, _, _, _, _, _, _, _, _⟩, _, _, _, _, ⟨fun _ => rfl, rfl, fun _ => by kernel_rfl, ⟨rfl, rfl, rfl, rfl, rfl, rfl⟩, by decide⟩⟩

noncomputable def F224 : FnAt 224 := ⟨⟨_, _, ⟨_, _, _, _, _, _, _⟩, .stmts (_ :: _), ⟨_, _, _, _, _⟩, _, _, _, _, _, _, _, _, _, _⟩, _, _, _, _, ⟨fun _ => rfl, rfl, fun _ => by kernel_rfl, ⟨rfl, rfl, rfl, rfl, rfl, rfl⟩, by decide⟩⟩

noncomputable def F229 : FnAt 229 := ⟨⟨_, _, ⟨_, _, _, _, _, _, _⟩, .stmts (_ :: _), ⟨_, _, _, _, _⟩, _, _, _, _, _, _, _, _, _, _⟩, _, _, _, _, ⟨fun _ => rfl, rfl, fun _ => by kernel_rfl, ⟨rfl, rfl, rfl, rfl, rfl, rfl⟩, by decide⟩⟩

noncomputable def F236 : FnAt 236 := ⟨⟨_, _, ⟨_, _, _, _, _, _, _⟩, .stmts (_ :: _), ⟨_, _, _, _, _⟩, _, _, _, _, _, _, _, _, _, _⟩, _, _, _, _, ⟨fun _ => rfl, rfl, fun _ => by kernel_rfl, ⟨rfl, rfl, rfl, rfl, rfl, rfl⟩, by decide⟩⟩

noncomputable def F243 : FnAt 243 := ⟨⟨_, _, ⟨_, _, _, _, _, _, _⟩, .stmts (_ :: _), ⟨_, _, _, _, _⟩, _, _, _, _, _, _, _, _, _, _⟩, _, _, _, _, ⟨fun _ => rfl, rfl, fun _ => by kernel_rfl, ⟨rfl, rfl, rfl, rfl, rfl, rfl⟩, by decide⟩⟩

noncomputable def F250 : FnAt 250 := ⟨⟨_, _, ⟨_, _, _, _, _, _, _⟩, .stmts (_ :: _), ⟨_, _, _, _, _⟩, _, _, _, _, _, _, _, _, _, _⟩, _, _, _, _, ⟨fun _ => rfl, rfl, fun _ => by kernel_rfl, ⟨rfl, rfl, rfl, rfl, rfl, rfl⟩, by decide⟩⟩

noncomputable def F255 : FnAt 255 := ⟨⟨_, _, ⟨_, _, _, _, _, _, _⟩, .stmts (_ :: _), ⟨_, _, _, _, _⟩, _, _, _, _, _, _, _, _, _, _⟩, _, _, _, _, ⟨fun _ => rfl, rfl, fun _ => by kernel_rfl, ⟨rfl, rfl, rfl, rfl, rfl, rfl⟩, by decide⟩⟩

noncomputable def F260 : FnAt 260 := ⟨⟨_, _, ⟨_, _, _, _, _, _, _⟩, .stmts (_ :: _), ⟨_, _, _, _, _⟩, _, _, _, _, _, _, _, _, _, _⟩, _, _, _, _, ⟨fun _ => rfl, rfl, fun _ => by kernel_rfl, ⟨rfl, rfl, rfl, rfl, rfl, rfl⟩, by decide⟩⟩

noncomputable def F265 : FnAt 265 := ⟨⟨_, _, ⟨_, _, _, _, _, _, _⟩, .stmts (_ :: _), ⟨_, _, _, _, _⟩, _, _, _, _, _, _, _, _, _, _⟩, _, _, _, _, ⟨fun _ => rfl, rfl, fun _ => by kernel_rfl, ⟨rfl, rfl, rfl, rfl, rfl, rfl⟩, by decide⟩⟩

noncomputable def F270 : FnAt 270 := ⟨⟨_, _, ⟨_, _, _, _, _, _, _⟩, .stmts (_ :: _), ⟨_, _, _, _, _⟩, _, _, _, _, _, _, _, _, _, _⟩, _, _, _, _, ⟨fun _ => rfl, rfl, fun _ => by kernel_rfl, ⟨rfl, rfl, rfl, rfl, rfl, rfl⟩, by decide⟩⟩

noncomputable def withinF (c : Int) (sp : List (Int × Int)) : Bool := sp.any fun p => decide (p.1 ≤ c) && decide (c ≤ p.2)
noncomputable def consS : List (Int × Int) := [(2325, 2361), (2392, 2399)]
noncomputable def vowS : List (Int × Int) := [(2308, 2324), (2400, 2401)]
noncomputable def matS : List (Int × Int) := [(2366, 2366), (2368, 2380), (2402, 2403)]
noncomputable def sigS : List (Int × Int) := [(2304, 2307), (2385, 2388)]
noncomputable def kindF (c : Int) : Str :=
  if c = 2367 then "I" else if c = 2381 then "H" else if c = 2364 then "N" else if c = 8205 ∨ c = 8204 then "J" else
  if withinF c consS = true then "C" else if withinF c vowS = true then "V" else if withinF c matS = true then "M" else if withinF c sigS = true then "S" else ""
noncomputable def katF (ks : List Str) (i : Nat) : Str := ks.getD i ""
noncomputable def pastF (ks : List Str) (k : Str) (i : Nat) : Nat := i + ((ks.drop i).takeWhile (· == k)).length
noncomputable def bhF (ks : List Str) (i : Nat) : Nat := if katF ks (i + 1) = "J" then i + 2 else i + 1
noncomputable def stF (ks : List Str) (b : Nat) : Nat := if katF ks b = "C" ∨ katF ks b = "V" then b + 1 else b
noncomputable def pvF : Nat → List Str → Nat → Nat × Bool
  | 0, _, i => (i, false)
  | n + 1, ks, i => if katF ks i = "H" then (if katF ks (bhF ks i) = "C" then pvF n ks (pastF ks "N" (bhF ks i + 1)) else (bhF ks i, true)) else (i, false)
noncomputable def imF : Nat → List Str → Nat → Nat
  | 0, _, i => i
  | n + 1, ks, i => if katF ks i = "I" ∨ katF ks i = "M" then imF n ks (pastF ks "N" (i + 1)) else i
noncomputable def endF (ks : List Str) (b : Nat) : Nat :=
  if katF ks b = "" ∨ katF ks b = "J" then b + 1 else
    let r := pvF (ks.length + 1) ks (pastF ks "N" (stF ks b))
    pastF ks "S" (if r.2 = true then r.1 else imF (ks.length + 1) ks r.1)
noncomputable def syF : Nat → List Str → Nat → List (Nat × Nat)
  | 0, _, _ => []
  | n + 1, ks, b => if b < ks.length then (b, endF ks b) :: syF n ks (endF ks b) else []
noncomputable def syls (cs : List Int) : List (Nat × Nat) := syF (cs.length + 1) (cs.map kindF) 0

theorem katF_lt {ks : List Str} {i : Nat} {k : Str} (h : katF ks i = k) (hk : k ≠ "") : i < ks.length := by
  rcases Nat.lt_or_ge i ks.length with h1 | h1
  · exact h1
  · exfalso; apply hk; rw [← h]; unfold katF; rw [List.getD_eq_getElem?_getD, List.getElem?_eq_none h1]; rfl
theorem katF_get {ks : List Str} {i : Nat} (h : i < ks.length) : katF ks i = ks[i] := by
  unfold katF; rw [List.getD_eq_getElem?_getD, List.getElem?_eq_getElem h]; rfl
theorem pastF_ge (ks : List Str) (k : Str) (i : Nat) : i ≤ pastF ks k i := Nat.le_add_right _ _
theorem pastF_le {ks : List Str} {k : Str} {i : Nat} (h : i ≤ ks.length) : pastF ks k i ≤ ks.length := by
  unfold pastF
  have h1 : ((ks.drop i).takeWhile (· == k)).length ≤ (ks.drop i).length := by
    have := (List.takeWhile_sublist (fun x : Str => x == k) (l := ks.drop i)).length_le
    exact this
  rw [List.length_drop] at h1
  omega
theorem pastF_stop {ks : List Str} {k : Str} {i : Nat} (h : katF ks i ≠ k) : pastF ks k i = i := by
  unfold pastF
  rcases Nat.lt_or_ge i ks.length with h1 | h1
  · rw [List.drop_eq_getElem_cons h1, List.takeWhile_cons, ← katF_get h1, if_neg (by simpa using h)]; rfl
  · rw [List.drop_of_length_le h1]; rfl
theorem pastF_step {ks : List Str} {k : Str} {i : Nat} (h : katF ks i = k) (hk : k ≠ "") : pastF ks k i = pastF ks k (i + 1) := by
  have h1 := katF_lt h hk
  unfold pastF
  rw [List.drop_eq_getElem_cons h1, List.takeWhile_cons, ← katF_get h1, if_pos (by simpa using h), List.length_cons]
  omega
theorem pastF_gt {ks : List Str} {k : Str} {i : Nat} (h : katF ks i = k) (hk : k ≠ "") : i < pastF ks k i := by
  rw [pastF_step h hk]; exact pastF_ge _ _ _
theorem bhF_gt (ks : List Str) (i : Nat) : i < bhF ks i := by unfold bhF; split <;> omega
theorem bhF_le {ks : List Str} {i : Nat} (h : i < ks.length) : bhF ks i ≤ ks.length := by
  unfold bhF
  split
  · rename_i hJ; have := katF_lt hJ (by decide); omega
  · omega
theorem pvF_ge : ∀ (n : Nat) (ks : List Str) (i : Nat), i ≤ (pvF n ks i).1
  | 0, _, _ => Nat.le_refl _
  | n + 1, ks, i => by
    have h0 := bhF_gt ks i
    unfold pvF
    split
    · split
      · refine Nat.le_trans ?_ (pvF_ge n ks _)
        refine Nat.le_trans ?_ (pastF_ge ks _ _)
        omega
      · exact Nat.le_of_lt h0
    · exact Nat.le_refl _
theorem pvF_gt {n : Nat} {ks : List Str} {i : Nat} (h : katF ks i = "H") : i < (pvF (n + 1) ks i).1 := by
  have h0 := bhF_gt ks i
  unfold pvF
  rw [if_pos h]
  split
  · refine Nat.lt_of_lt_of_le ?_ (pvF_ge n ks _)
    refine Nat.lt_of_lt_of_le ?_ (pastF_ge ks _ _)
    omega
  · exact h0
theorem pvF_le : ∀ (n : Nat) (ks : List Str) (i : Nat), i ≤ ks.length → (pvF n ks i).1 ≤ ks.length
  | 0, _, _, h => h
  | n + 1, ks, i, h => by
    unfold pvF
    split
    · rename_i hH
      have hi := katF_lt hH (by decide)
      split
      · rename_i hC
        have hc := katF_lt hC (by decide)
        exact pvF_le n ks _ (pastF_le hc)
      · exact bhF_le hi
    · exact h
theorem pvF_off {n : Nat} {ks : List Str} {i : Nat} (h : katF ks i ≠ "H") : pvF n ks i = (i, false) := by
  cases n with
  | zero => rfl
  | succ n => unfold pvF; rw [if_neg h]
theorem imF_ge : ∀ (n : Nat) (ks : List Str) (i : Nat), i ≤ imF n ks i
  | 0, _, _ => Nat.le_refl _
  | n + 1, ks, i => by
    unfold imF
    split
    · exact Nat.le_trans (Nat.le_trans (Nat.le_succ _) (pastF_ge ks _ _)) (imF_ge n ks _)
    · exact Nat.le_refl _
theorem imF_gt {n : Nat} {ks : List Str} {i : Nat} (h : katF ks i = "I" ∨ katF ks i = "M") : i < imF (n + 1) ks i := by
  unfold imF
  rw [if_pos h]
  exact Nat.lt_of_lt_of_le (Nat.lt_of_lt_of_le (Nat.lt_succ_self _) (pastF_ge ks _ _)) (imF_ge n ks _)
theorem imF_le : ∀ (n : Nat) (ks : List Str) (i : Nat), i ≤ ks.length → imF n ks i ≤ ks.length
  | 0, _, _, h => h
  | n + 1, ks, i, h => by
    unfold imF
    split
    · rename_i h1
      have : i < ks.length := by
        rcases h1 with h1 | h1
        · exact katF_lt h1 (by decide)
        · exact katF_lt h1 (by decide)
      exact imF_le n ks _ (pastF_le this)
    · exact h
theorem imF_off {n : Nat} {ks : List Str} {i : Nat} (h : ¬ (katF ks i = "I" ∨ katF ks i = "M")) : imF n ks i = i := by
  cases n with
  | zero => rfl
  | succ n => unfold imF; rw [if_neg h]

noncomputable def kinds9 : List Str := ["", "J", "C", "V", "H", "N", "I", "M", "S"]
theorem kindF_mem (c : Int) : kindF c ∈ kinds9 := by
  unfold kindF
  repeat' split
  all_goals decide
theorem endF_le {ks : List Str} {b : Nat} (h : b < ks.length) : endF ks b ≤ ks.length := by
  unfold endF
  split
  · exact h
  · dsimp only
    apply pastF_le
    have h1 : (pvF (ks.length + 1) ks (pastF ks "N" (stF ks b))).1 ≤ ks.length := by
      apply pvF_le; apply pastF_le; unfold stF; split <;> omega
    split
    · exact h1
    · exact imF_le _ _ _ h1
theorem endF_gt {ks : List Str} {b : Nat} (h : b < ks.length) (hk : ∀ k ∈ ks, k ∈ kinds9) : b < endF ks b := by
  have hm : katF ks b ∈ kinds9 := by rw [katF_get h]; exact hk _ (List.getElem_mem h)
  unfold endF
  split
  · exact Nat.lt_succ_self _
  · rename_i h0
    dsimp only
    have key : b < (pvF (ks.length + 1) ks (pastF ks "N" (stF ks b))).1 → ∀ r : Nat × Bool, r = pvF (ks.length + 1) ks (pastF ks "N" (stF ks b)) →
        b < pastF ks "S" (if r.2 = true then r.1 else imF (ks.length + 1) ks r.1) := by
      rintro h1 r rfl
      refine Nat.lt_of_lt_of_le ?_ (pastF_ge ks _ _)
      split
      · exact h1
      · exact Nat.lt_of_lt_of_le h1 (imF_ge _ _ _)
    by_cases hCV : katF ks b = "C" ∨ katF ks b = "V"
    · refine key ?_ _ rfl
      have : stF ks b = b + 1 := if_pos hCV
      rw [this]
      exact Nat.lt_of_lt_of_le (Nat.lt_of_lt_of_le (Nat.lt_succ_self _) (pastF_ge ks _ _)) (pvF_ge _ _ _)
    · by_cases hN : katF ks b = "N"
      · refine key ?_ _ rfl
        rw [show stF ks b = b from if_neg hCV]
        exact Nat.lt_of_lt_of_le (pastF_gt hN (by decide)) (pvF_ge _ _ _)
      · rw [show stF ks b = b from if_neg hCV, pastF_stop hN]
        by_cases hH : katF ks b = "H"
        · refine Nat.lt_of_lt_of_le ?_ (pastF_ge ks _ _)
          split
          · exact pvF_gt hH
          · exact Nat.lt_of_lt_of_le (pvF_gt hH) (imF_ge _ _ _)
        · rw [pvF_off hH]
          simp only [Bool.false_eq_true, if_false]
          by_cases hI : katF ks b = "I" ∨ katF ks b = "M"
          · exact Nat.lt_of_lt_of_le (imF_gt hI) (pastF_ge ks _ _)
          · rw [imF_off hI]
            refine pastF_gt ?_ (by decide)
            simp only [kinds9, List.mem_cons, List.mem_nil_iff, or_false] at hm
            rcases hm with hm | hm | hm | hm | hm | hm | hm | hm | hm
            · exact absurd (.inl hm) h0
            · exact absurd (.inr hm) h0
            · exact absurd (.inl hm) hCV
            · exact absurd (.inr hm) hCV
            · exact absurd hm hH
            · exact absurd hm hN
            · exact absurd (.inl hm) hI
            · exact absurd (.inr hm) hI
            · exact hm
theorem syF_ok (ks : List Str) (hk : ∀ k ∈ ks, k ∈ kinds9) : ∀ (n b : Nat), (∀ p ∈ syF n ks b, p.1 < p.2 ∧ p.2 ≤ ks.length) ∧ (syF n ks b).length ≤ ks.length - b
  | 0, b => ⟨fun _ h => (nomatch h), Nat.zero_le _⟩
  | n + 1, b => by
    unfold syF
    split
    · rename_i h
      have h1 := endF_gt h hk
      have h2 := endF_le h
      obtain ⟨a1, a2⟩ := syF_ok ks hk n (endF ks b)
      refine ⟨fun p hp => ?_, ?_⟩
      · rcases List.mem_cons.mp hp with rfl | hp
        · exact ⟨h1, h2⟩
        · exact a1 p hp
      · rw [List.length_cons]; omega
    · exact ⟨fun _ h => (nomatch h), Nat.zero_le _⟩
theorem syls_ok (cs : List Int) : (∀ p ∈ syls cs, p.1 < p.2 ∧ p.2 ≤ cs.length) ∧ (syls cs).length ≤ cs.length := by
  have := syF_ok (cs.map kindF) (fun k hk => by obtain ⟨c, _, rfl⟩ := List.mem_map.mp hk; exact kindF_mem c) (cs.length + 1) 0
  simpa [syls] using this

section
variable {W : Wd} {X : Addr → Prop} {A : Around} {σ : NH} {s : Shared} {d : Nat} {env : Env} {ρ : Loc} {Q : Value → NH → Prop} {K : Flow → Loc → NH → Prop}

theorem FC_fn1 {f : Addr} (F : FnAt f) (x : Str) {v : Value} (hb : ∀ u s, Inv W σ s → BindsTo s F.fd ⟨[u], []⟩ [(x, u)]) (hn : okNames F.fd.scope.names [x] = true)
    (h : ∀ L, SC W d (EN F L) (execs F.body (EN F L)) [(x, v)] σ (fun fl _ σ' => Q (match fl with | .ret v => v | _ => .none) σ')) : FC W (d + 1) (.ref f) [v] σ Q := by
  refine FC_fn F (nb := [(x, v)]) (fun vs => [(x, vs.getD 0 .none)]) ?_ ?_ hn h
  · intro vs s e i
    obtain ⟨u, rfl, hu⟩ := map_one e
    exact hb u s i
  · intro vs e
    obtain ⟨u, rfl, hu⟩ := map_one e
    simp [hu]
theorem FC_fn2 {f : Addr} (F : FnAt f) (x y : Str) {v w : Value} (hb : ∀ u u' s, Inv W σ s → BindsTo s F.fd ⟨[u, u'], []⟩ [(x, u), (y, u')]) (hn : okNames F.fd.scope.names [x, y] = true)
    (h : ∀ L, SC W d (EN F L) (execs F.body (EN F L)) [(x, v), (y, w)] σ (fun fl _ σ' => Q (match fl with | .ret v => v | _ => .none) σ')) : FC W (d + 1) (.ref f) [v, w] σ Q := by
  refine FC_fn F (nb := [(x, v), (y, w)]) (fun vs => [(x, vs.getD 0 .none), (y, vs.getD 1 .none)]) ?_ ?_ hn h
  · intro vs s e i
    obtain ⟨u, u', rfl, hu, hu'⟩ := map_two e
    exact hb u u' s i
  · intro vs e
    obtain ⟨u, u', rfl, hu, hu'⟩ := map_two e
    simp [hu, hu']
theorem FC_fn3 {f : Addr} (F : FnAt f) (x y z : Str) {v w t : Value} (hb : ∀ u u' u'' s, Inv W σ s → BindsTo s F.fd ⟨[u, u', u''], []⟩ [(x, u), (y, u'), (z, u'')]) (hn : okNames F.fd.scope.names [x, y, z] = true)
    (h : ∀ L, SC W d (EN F L) (execs F.body (EN F L)) [(x, v), (y, w), (z, t)] σ (fun fl _ σ' => Q (match fl with | .ret v => v | _ => .none) σ')) : FC W (d + 1) (.ref f) [v, w, t] σ Q := by
  refine FC_fn F (nb := [(x, v), (y, w), (z, t)]) (fun vs => [(x, vs.getD 0 .none), (y, vs.getD 1 .none), (z, vs.getD 2 .none)]) ?_ ?_ hn h
  · intro vs s e i
    obtain ⟨u, u', u'', rfl, hu, hu', hu''⟩ := map_three e
    exact hb u u' u'' s i
  · intro vs e
    obtain ⟨u, u', u'', rfl, hu, hu', hu''⟩ := map_three e
    simp [hu, hu', hu'']

noncomputable def strL (ks : List Str) : List Value := ks.map fun k => .str k 0
theorem strL_get {ks : List Str} {i : Nat} (h : i < ks.length) : (strL ks)[i]? = some (.str (katF ks i) 0) := by
  unfold strL; rw [List.getElem?_map, List.getElem?_eq_getElem h, katF_get h]; rfl
theorem strL_len (ks : List Str) : (strL ks).length = ks.length := by simp [strL]
theorem intL_get {cs : List Int} {i : Nat} (h : i < cs.length) : (intL cs)[i]? = some (.int cs[i] 0) := by
  unfold intL; rw [List.getElem?_map, List.getElem?_eq_getElem h]; rfl
theorem intL_len (cs : List Int) : (intL cs).length = cs.length := by simp [intL]

structure Sides {α β : Type} (R : α → β → Prop) (as : List α) (ps : List β) : Prop where
  len : as.length = ps.length
  at_ : ∀ (i : Nat) (a : α) (p : β), as[i]? = some a → ps[i]? = some p → R a p
theorem Sides.nil {α β : Type} {R : α → β → Prop} : Sides R [] [] := ⟨rfl, fun i a p h _ => by simp at h⟩
theorem Sides.cons {α β : Type} {R : α → β → Prop} {a : α} {p : β} {as : List α} {ps : List β} (h : R a p) (k : Sides R as ps) : Sides R (a :: as) (p :: ps) := ⟨by simp [k.len], fun i a' p' h1 h2 => by
  cases i with
  | zero => simp at h1 h2; rw [← h1, ← h2]; exact h
  | succ i => simp at h1 h2; exact k.at_ i a' p' h1 h2⟩
theorem Sides.snoc {α β : Type} {R : α → β → Prop} {a : α} {p : β} {as : List α} {ps : List β} (k : Sides R as ps) (h : R a p) : Sides R (as ++ [a]) (ps ++ [p]) := ⟨by simp [k.len], fun i a' p' h1 h2 => by
  have := k.len
  rcases Nat.lt_or_ge i as.length with hi | hi
  · rw [List.getElem?_append_left hi] at h1
    rw [List.getElem?_append_left (by omega)] at h2
    exact k.at_ i a' p' h1 h2
  · rw [List.getElem?_append_right hi] at h1
    rw [List.getElem?_append_right (by omega)] at h2
    rcases Nat.eq_zero_or_pos (i - as.length) with h0 | h0
    · rw [h0] at h1
      rw [show i - ps.length = 0 by omega] at h2
      simp at h1 h2; rw [← h1, ← h2]; exact h
    · rw [List.getElem?_eq_none (by simp; omega)] at h1; cases h1⟩
theorem Sides.imp {α β : Type} {R R' : α → β → Prop} {as : List α} {ps : List β} (k : Sides R as ps) (h : ∀ a p, R a p → R' a p) : Sides R' as ps := ⟨k.len, fun i a p h1 h2 => h a p (k.at_ i a p h1 h2)⟩
theorem Sides.get {α β : Type} {R : α → β → Prop} {as : List α} {ps : List β} (k : Sides R as ps) {i : Nat} {a : α} (h : as[i]? = some a) : ∃ p, ps[i]? = some p ∧ R a p := by
  have hi : i < as.length := by
    rcases Nat.lt_or_ge i as.length with h1 | h1
    · exact h1
    · rw [List.getElem?_eq_none h1] at h; cases h
  have h2 : ps[i]? = some (ps[i]'(k.len ▸ hi)) := List.getElem?_eq_getElem _
  exact ⟨_, h2, k.at_ i a _ h h2⟩

noncomputable def Span (σ : NH) (a : Addr) (p : Int × Int) : Prop := σ a = some (.tup [.int p.1 0, .int p.2 0])
theorem refs_get {as : List Addr} {i : Nat} {v : Value} (h : (as.map Value.ref)[i]? = some v) : ∃ a, as[i]? = some a ∧ v = .ref a := by
  rw [List.getElem?_map] at h
  obtain ⟨a, h1, h2⟩ := Option.map_eq_some_iff.mp h
  exact ⟨a, h1, h2.symm⟩
theorem lt_of_get {α : Type} {as : List α} {i : Nat} {a : α} (h : as[i]? = some a) : i < as.length := by
  rcases Nat.lt_or_ge i as.length with h1 | h1
  · exact h1
  · rw [List.getElem?_eq_none h1] at h; cases h
theorem take_snoc {α : Type} {as : List α} {i : Nat} {a : α} (h : as[i]? = some a) : as.take (i + 1) = as.take i ++ [a] := by
  have hi := lt_of_get h
  rw [List.getElem?_eq_getElem hi] at h
  rw [← Option.some.inj h, List.take_succ_eq_append_getElem hi]

theorem FC_is_within {c : Int} {sp : Addr} {as : List Addr} {ps : List (Int × Int)} (hs : σ sp = some (.tup (as.map .ref))) (hp : Sides (Span σ) as ps) (h : Q (.bool (withinF c ps)) σ) : FC W (d+1) (.ref 152) [.int c 0, .ref sp] σ Q := by
  refine FC_fn2 F152 "code" "spans" (fun _ _ _ _ => BindsTo.of_eq rfl) (by rfl) ?_
  intro L
  let env := EN F152 L
  show SC _ _ env (execs F152.body env) _ _ _
  dsimp only [F152]
  refine S_for (IV_src ?_)
  walk_at "m_go"
  refine ⟨_, _, SrcV.tup hs, fun i ρ' σ' => σ' = σ ∧ Sub ρ' [("code", .int c 0), ("spans", .ref sp)] ∧ withinF c (ps.take i) = false, ⟨rfl, by walk_at "m_sub", by simp [withinF]⟩, fun i ρ' σ' hI => by rw [hI.1]; exact hs, ?_, ?_⟩
  · rintro i v ρ' _ hx ⟨rfl, hsub, hw⟩
    obtain ⟨a, ha, rfl⟩ := refs_get hx
    obtain ⟨p, hpi, hsp⟩ := hp.get ha
    refine AC.sub hsub (AC_tuple hsp ?_)
    walk_at "m_go"
    refine ite_b (fun c1 => ?_) (fun c1 => ?_)
    · walk_at "m_go"
      refine ite_b (fun c2 => ?_) (fun c2 => ?_)
      · walk_at "m_go"
        have : withinF c ps = true := by
          unfold withinF
          rw [List.any_eq_true]
          exact ⟨p, List.mem_of_getElem? hpi, by rw [c1, c2]; rfl⟩
        rw [this] at h; exact h
      · walk_at "m_go"
        refine ⟨rfl, by walk_at "m_sub", ?_⟩
        rw [take_snoc hpi]; unfold withinF at hw ⊢
        rw [List.any_append, hw]; simp [c1, c2]
    · rw [if_neg (by decide)]
      walk_at "m_go"
      refine ⟨rfl, by walk_at "m_sub", ?_⟩
      rw [take_snoc hpi]; unfold withinF at hw ⊢
      rw [List.any_append, hw]; simp [c1]
  · rintro ρ' _ ⟨rfl, hsub, hw⟩
    refine SC.sub hsub ?_
    walk_at "m_go"
    rw [List.length_map, hp.len, List.take_length] at hw
    rw [hw] at h; exact h
end

section
variable {W : Wd} {X : Addr → Prop} {A : Around} {σ : NH} {s : Shared} {d : Nat} {env : Env} {ρ : Loc} {Q : Value → NH → Prop} {K : Flow → Loc → NH → Prop}

noncomputable def SpT (σ : NH) (a : Addr) (ps : List (Int × Int)) : Prop := ∃ as, σ a = some (.tup (as.map .ref)) ∧ Sides (Span σ) as ps
theorem SpT.le {σ τ : NH} {a : Addr} {ps : List (Int × Int)} (h : SpT σ a ps) (k : σ.le τ) : SpT τ a ps :=
  let ⟨as, h1, h2⟩ := h; ⟨as, k _ _ h1, h2.imp fun a p h => k _ _ h⟩

structure Tops (τ : NH) : Prop where
  c : SpT τ 135 consS
  v : SpT τ 138 vowS
  m : SpT τ 142 matS
  s : SpT τ 145 sigS
theorem SC.tops {t : Sem Flow} (k : ∀ τ, σ.le τ → Tops τ → SC W d env t ρ τ K) : SC W d env t ρ σ K := by
  refine SC.top (a := 133) (by rfl) fun h1 => ?_
  refine SC.top (a := 134) (by rfl) fun h2 => ?_
  refine SC.top (a := 135) (by rfl) fun h3 => ?_
  refine SC.top (a := 136) (by rfl) fun h4 => ?_
  refine SC.top (a := 137) (by rfl) fun h5 => ?_
  refine SC.top (a := 138) (by rfl) fun h6 => ?_
  refine SC.top (a := 139) (by rfl) fun h7 => ?_
  refine SC.top (a := 140) (by rfl) fun h8 => ?_
  refine SC.top (a := 141) (by rfl) fun h9 => ?_
  refine SC.top (a := 142) (by rfl) fun h10 => ?_
  refine SC.top (a := 143) (by rfl) fun h11 => ?_
  refine SC.top (a := 144) (by rfl) fun h12 => ?_
  refine SC.top (a := 145) (by rfl) fun h13 => ?_
  have L := NH.le_trans (NH.le_trans (NH.le_trans (NH.le_trans (NH.le_trans (NH.le_trans (NH.le_trans (NH.le_trans (NH.le_trans (NH.le_trans (NH.le_trans (NH.le_trans h1 h2) h3) h4) h5) h6) h7) h8) h9) h10) h11) h12) h13
  refine k _ L ?_
  exact ⟨⟨[133, 134], rfl, .cons rfl (.cons rfl .nil)⟩, ⟨[136, 137], rfl, .cons rfl (.cons rfl .nil)⟩, ⟨[139, 140, 141], rfl, .cons rfl (.cons rfl (.cons rfl .nil))⟩, ⟨[143, 144], rfl, .cons rfl (.cons rfl .nil)⟩⟩

noncomputable def kTab : List (Str × List (Int × Int)) := [("C", consS), ("V", vowS), ("M", matS), ("S", sigS)]
theorem find_take {α : Type} {p : α → Bool} {T : List α} {i : Nat} {x : α} (h : ∀ y ∈ T.take i, p y = false) (hx : T[i]? = some x) (hp : p x = true) : T.find? p = some x := by
  have hi := lt_of_get hx
  rw [List.getElem?_eq_getElem hi] at hx
  have e : T = T.take i ++ x :: T.drop (i + 1) := by
    rw [← Option.some.inj hx, List.getElem_cons_drop, List.take_append_drop]
  rw [e, List.find?_append]
  have : (T.take i).find? p = none := by
    rw [List.find?_eq_none]; intro y hy; rw [h y hy]; decide
  rw [this, List.find?_cons, hp]; rfl
theorem kindF_tab {c : Int} (h1 : ¬ c = 2367) (h2 : ¬ c = 2381) (h3 : ¬ c = 2364) (h4 : ¬ (c = 8205 ∨ c = 8204)) : kindF c = match kTab.find? (fun p => withinF c p.2) with | some p => p.1 | none => "" := by
  unfold kindF
  rw [if_neg h1, if_neg h2, if_neg h3, if_neg h4]
  unfold kTab
  simp only [List.find?_cons, List.find?_nil]
  cases e1 : withinF c consS <;> cases e2 : withinF c vowS <;> cases e3 : withinF c matS <;> cases e4 : withinF c sigS <;> rfl

noncomputable def KRow (τ : NH) (a : Addr) (p : Str × List (Int × Int)) : Prop := ∃ t, τ a = some (.tup [.str p.1 0, .ref t]) ∧ SpT τ t p.2

theorem eqb_int (a b : Int) (t u : Tok) : eqb (.int a t) (.int b u) = (b == a) := rfl
theorem eqb_str (a b : Str) (t u : Tok) : eqb (.str a t) (.str b u) = (b == a) := rfl

theorem FC_kinds_of {c : Int} (h : Q (.str (kindF c) 0) σ) : FC W (d+2) (.ref 159) [.int c 0] σ Q := by
  refine FC.forget ?_
  refine FC_fn1 F159 "code" (fun _ _ _ => BindsTo.of_eq rfl) (by rfl) ?_
  intro L
  let env := EN F159 L
  show SC _ _ env (execs F159.body env) _ _ _
  dsimp only [F159]
  refine SC.tops fun τ hle TT => ?_
  have fin : ∀ v, kindF c = v → ∀ τ' : NH, τ.le τ' → ∃ τ₀ : NH, τ₀.le τ' ∧ Q (.str v 0) τ₀ := fun v e τ' h' => ⟨σ, NH.le_trans hle h', e ▸ h⟩
  walk_at "m_go"
  refine ite_b (fun c1 => ?_) (fun c1 => ?_)
  · walk_at "m_go"
    exact fin "I" (by unfold kindF; rw [if_pos (by simpa using c1)]) _ (NH.le_refl _)
  walk_at "m_go"
  refine ite_b (fun c2 => ?_) (fun c2 => ?_)
  · walk_at "m_go"
    exact fin "H" (by unfold kindF; rw [if_neg (by simpa using c1), if_pos (by simpa using c2)]) _ (NH.le_refl _)
  walk_at "m_go"
  refine ite_b (fun c3 => ?_) (fun c3 => ?_)
  · walk_at "m_go"
    exact fin "N" (by unfold kindF; rw [if_neg (by simpa using c1), if_neg (by simpa using c2), if_pos (by simpa using c3)]) _ (NH.le_refl _)
  walk_at "m_go"
  refine ⟨by decide, fun l hl => ?_⟩
  refine op_in_tup (NH.set_self _ _ _) (by intro y hy; simp at hy; rcases hy with rfl | rfl <;> rfl) rfl ?_
  walk_at "m_go"
  refine ite_b (fun c4 => ?_) (fun c4 => ?_)
  · walk_at "m_go"
    refine fin "J" ?_ _ (NH.le_set _ _ hl)
    unfold kindF; rw [if_neg (by simpa using c1), if_neg (by simpa using c2), if_neg (by simpa using c3), if_pos]
    simp [eqb_int] at c4
    rcases c4 with c4 | c4
    · exact .inl c4.symm
    · exact .inr c4.symm
  refine SC.le (NH.le_set _ _ hl) ?_
  walk_at "m_go"
  have e0 := kindF_tab (c := c) (by simpa using c1) (by simpa using c2) (by simpa using c3) (by
    simp [eqb_int] at c4; rintro (h | h)
    · exact c4.1 h.symm
    · exact c4.2 h.symm)
  refine S_for (IV_src ?_)
  walk_at "m_go"
  refine ⟨by decide, fun l1 f1 => ?_⟩
  walk_at "m_go"
  refine ⟨by decide, fun l2 f2 => ?_⟩
  walk_at "m_go"
  refine ⟨by decide, fun l3 f3 => ?_⟩
  walk_at "m_go"
  refine ⟨by decide, fun l4 f4 => ?_⟩
  walk_at "m_go"
  refine ⟨by simp, fun l5 f5 => ?_⟩
  have L1 := NH.le_set (σ := τ) (.tup [.str "C" 0, .ref 135]) f1
  have L2 := NH.le_set (σ := τ.set l1 (.tup [.str "C" 0, .ref 135])) (.tup [.str "V" 0, .ref 138]) f2
  have L3 := NH.le_set (σ := (τ.set l1 (.tup [.str "C" 0, .ref 135])).set l2 (.tup [.str "V" 0, .ref 138])) (.tup [.str "M" 0, .ref 142]) f3
  have L4 := NH.le_set (σ := ((τ.set l1 (.tup [.str "C" 0, .ref 135])).set l2 (.tup [.str "V" 0, .ref 138])).set l3 (.tup [.str "M" 0, .ref 142])) (.tup [.str "S" 0, .ref 145]) f4
  generalize hz : ((τ.set l1 (.tup [.str "C" 0, .ref 135])).set l2 (.tup [.str "V" 0, .ref 138])).set l3 (.tup [.str "M" 0, .ref 142]) = τ3 at L3 L4 f4 f5 ⊢
  have L5 := NH.le_set (σ := τ3.set l4 (.tup [.str "S" 0, .ref 145])) (.tup [.ref l1, .ref l2, .ref l3, .ref l4]) f5
  have R1 : (((τ3.set l4 (.tup [.str "S" 0, .ref 145])).set l5 (.tup [.ref l1, .ref l2, .ref l3, .ref l4]))) l1 = some (.tup [.str "C" 0, .ref 135]) := L5 _ _ (L4 _ _ (L3 _ _ (L2 _ _ (NH.set_self _ _ _))))
  have R2 : (((τ3.set l4 (.tup [.str "S" 0, .ref 145])).set l5 (.tup [.ref l1, .ref l2, .ref l3, .ref l4]))) l2 = some (.tup [.str "V" 0, .ref 138]) := L5 _ _ (L4 _ _ (L3 _ _ (NH.set_self _ _ _)))
  have R3 : (((τ3.set l4 (.tup [.str "S" 0, .ref 145])).set l5 (.tup [.ref l1, .ref l2, .ref l3, .ref l4]))) l3 = some (.tup [.str "M" 0, .ref 142]) := L5 _ _ (L4 _ _ (by rw [← hz]; exact NH.set_self _ _ _))
  have R4 : (((τ3.set l4 (.tup [.str "S" 0, .ref 145])).set l5 (.tup [.ref l1, .ref l2, .ref l3, .ref l4]))) l4 = some (.tup [.str "S" 0, .ref 145]) := L5 _ _ (NH.set_self _ _ _)
  have R5 : (((τ3.set l4 (.tup [.str "S" 0, .ref 145])).set l5 (.tup [.ref l1, .ref l2, .ref l3, .ref l4]))) l5 = some (.tup ([l1, l2, l3, l4].map .ref)) := NH.set_self _ _ _
  have LL : τ.le ((τ3.set l4 (.tup [.str "S" 0, .ref 145])).set l5 (.tup [.ref l1, .ref l2, .ref l3, .ref l4])) := NH.le_trans L1 (NH.le_trans L2 (NH.le_trans L3 (NH.le_trans L4 L5)))
  generalize ((τ3.set l4 (.tup [.str "S" 0, .ref 145])).set l5 (.tup [.ref l1, .ref l2, .ref l3, .ref l4])) = τ5 at R1 R2 R3 R4 R5 LL ⊢
  have hp : Sides (KRow τ5) [l1, l2, l3, l4] kTab := .cons ⟨_, R1, TT.c.le LL⟩ (.cons ⟨_, R2, TT.v.le LL⟩ (.cons ⟨_, R3, TT.m.le LL⟩ (.cons ⟨_, R4, TT.s.le LL⟩ .nil)))
  refine ⟨_, _, SrcV.tup R5, fun i ρ' σ' => σ' = τ5 ∧ Sub ρ' [("code", .int c 0)] ∧ ∀ y ∈ kTab.take i, withinF c y.2 = false, ⟨rfl, by walk_at "m_sub", by simp⟩, fun i ρ' σ' hI => by rw [hI.1]; exact R5, ?_, ?_⟩
  · rintro i v ρ' _ hx ⟨rfl, hsub, hw⟩
    obtain ⟨a, ha, rfl⟩ := refs_get hx
    obtain ⟨⟨k, ps⟩, hpi, t, hsp, as, ht, hps⟩ := hp.get ha
    refine AC.sub hsub (AC_tuple hsp ?_)
    walk_at "m_go"
    refine FC_is_within ht hps ?_
    walk_at "m_go"
    refine ite_b (fun c1 => ?_) (fun c1 => ?_)
    · walk_at "m_go"
      refine fin k ?_ _ LL
      rw [e0, find_take (p := fun p : Str × List (Int × Int) => withinF c p.2) hw hpi c1]
    · walk_at "m_go"
      refine ⟨rfl, by walk_at "m_sub", ?_⟩
      rw [take_snoc hpi]
      intro y hy
      rcases List.mem_append.mp hy with hy | hy
      · exact hw y hy
      · rw [List.mem_singleton.mp hy]; exact c1
  · rintro ρ' _ ⟨rfl, hsub, hw⟩
    refine SC.sub hsub ?_
    walk_at "m_go"
    refine fin "" ?_ _ LL
    rw [e0, List.find?_eq_none.mpr]
    intro y hy
    rw [hw y hy]; decide
end

section
variable {W : Wd} {X : Addr → Prop} {A : Around} {σ : NH} {s : Shared} {d : Nat} {env : Env} {ρ : Loc} {Q : Value → NH → Prop} {K : Flow → Loc → NH → Prop}

theorem FC_kind_at {ks : List Str} {l : Addr} {z : Int} (i : Nat) (hz : z = i) (hl : σ l = some (.list (strL ks))) (hlen : ks.length < 1000000) (h : Q (.str (katF ks i) 0) σ) : FC W (d+1) (.ref 166) [.ref l, .int z 0] σ Q := by
  refine FC_fn2 F166 "kinds" "at" (fun _ _ _ _ => BindsTo.of_eq rfl) (by rfl) ?_
  intro L
  let env := EN F166 L
  show SC _ _ env (execs F166.body env) _ _ _
  dsimp only [F166]
  walk_at "m_go"
  refine CB_len hl (by rw [strL_len]; exact hlen) ?_
  walk_at "m_go"
  refine ite_b (fun c => ?_) (fun c => ?_)
  · have hi : i < ks.length := by rw [strL_len] at c; simp at c; omega
    walk_at "m_go"
    refine ⟨_, _, _, _, rfl, hl, rfl, by omega, by omega, ?_, h⟩
    rw [show z.toNat = i by omega]
    exact strL_get hi
  · have hi : ks.length ≤ i := by rw [strL_len] at c; simp at c; omega
    walk_at "m_go"
    have : katF ks i = "" := by unfold katF; rw [List.getD_eq_getElem?_getD, List.getElem?_eq_none hi]; rfl
    rw [this] at h; exact h

theorem FC_past {ks : List Str} {l : Addr} {z : Int} {k : Str} (i : Nat) (hz : z = i) (hk : k ≠ "") (hl : σ l = some (.list (strL ks))) (hlen : ks.length < 1000000) (h : Q (.int (pastF ks k i) 0) σ) :
    FC W (d+2) (.ref 173) [.ref l, .int z 0, .str k 0] σ Q := by
  refine FC_fn3 F173 "kinds" "at" "kind" (fun _ _ _ _ _ => BindsTo.of_eq rfl) (by rfl) ?_
  intro L
  let env := EN F173 L
  show SC _ _ env (execs F173.body env) _ _ _
  dsimp only [F173]
  subst hz
  refine S_while (fun n ρ' σ' => σ' = σ ∧ ∃ a : Nat, Sub ρ' [("kinds", .ref l), ("at", .int a 0), ("kind", .str k 0)] ∧ pastF ks k a = pastF ks k i ∧ ks.length + 1 - a ≤ n) (ks.length + 1) ⟨rfl, i, by walk_at "m_sub", rfl, by omega⟩ ?_
  rintro n ρ' _ ⟨rfl, a, hsub, hp, hn⟩
  refine EC.sub hsub ?_
  walk_at "m_go"
  refine FC_kind_at a rfl hl hlen ?_
  walk_at "m_go"
  refine ite_b (fun c => ?_) (fun c => ?_)
  · have c' : katF ks a = k := by simpa using c
    have ha := katF_lt c' hk
    refine SC.sub hsub ?_
    walk_at "m_go"
    refine ⟨ks.length - a, by omega, rfl, a + 1, by walk_at "m_sub", ?_, by omega⟩
    rw [← hp, pastF_step c' hk]
  · have c' : katF ks a ≠ k := by simpa using c
    refine SC.sub hsub ?_
    walk_at "m_go"
    rw [← hp, pastF_stop c'] at h; exact h

theorem FC_past_viramas {ks : List Str} {l : Addr} {z : Int} (i : Nat) (hz : z = i) (hi : i ≤ ks.length) (hl : σ l = some (.list (strL ks))) (hlen : ks.length < 1000000)
    (h : ∀ t, σ t = none → Q (.ref t) (σ.set t (.tup [.int (pvF (ks.length + 1) ks i).1 0, .bool (pvF (ks.length + 1) ks i).2]))) : FC W (d+3) (.ref 180) [.ref l, .int z 0] σ Q := by
  refine FC_fn2 F180 "kinds" "at" (fun _ _ _ _ => BindsTo.of_eq rfl) (by rfl) ?_
  intro L
  let env := EN F180 L
  show SC _ _ env (execs F180.body env) _ _ _
  dsimp only [F180]
  subst hz
  generalize hR : pvF (ks.length + 1) ks i = R at h
  refine S_while (fun n ρ' σ' => σ' = σ ∧ ∃ a : Nat, Sub ρ' [("kinds", .ref l), ("at", .int a 0)] ∧ pvF n ks a = R ∧ a ≤ ks.length ∧ ks.length - a < n) (ks.length + 1) ⟨rfl, i, by walk_at "m_sub", hR, hi, by omega⟩ ?_
  rintro n ρ' _ ⟨rfl, a, hsub, hp, ha, hn⟩
  obtain ⟨n, rfl⟩ : ∃ m, n = m + 1 := ⟨n - 1, by omega⟩
  refine EC.sub hsub ?_
  walk_at "m_go"
  refine FC_kind_at a rfl hl hlen ?_
  walk_at "m_go"
  refine ite_b (fun c => ?_) (fun c => ?_)
  · have c' : katF ks a = "H" := by simpa using c
    have ha' := katF_lt c' (by decide)
    unfold pvF at hp
    rw [if_pos c'] at hp
    refine SC.sub hsub ?_
    walk_at "m_go"
    refine FC_kind_at (a + 1) (by omega) hl hlen ?_
    walk_at "m_go"
    refine ite_b (fun c2 => ?_) (fun c2 => ?_)
    case' refine_1.refine_1 => have hb : bhF ks a = a + 2 := if_pos (by simpa using c2)
    case' refine_1.refine_2 => have hb : bhF ks a = a + 1 := if_neg (by simpa using c2)
    all_goals
      walk_at "m_go"
      refine FC_kind_at (bhF ks a) (by omega) hl hlen ?_
      walk_at "m_go"
      refine ite_b (fun c3 => ?_) (fun c3 => ?_)
      · have c3' : ¬ katF ks (bhF ks a) = "C" := by simpa using c3
        rw [if_neg c3'] at hp
        walk_at "m_go"
        refine ⟨by simp, fun t ht => ?_⟩
        have := h t ht
        rw [← hp, hb] at this
        exact this
      · have c3' : katF ks (bhF ks a) = "C" := by simpa using c3
        have hc := katF_lt c3' (by decide)
        rw [if_pos c3'] at hp
        walk_at "m_go"
        refine FC_past (bhF ks a + 1) (by omega) (by decide) hl hlen ?_
        walk_at "m_go"
        have h1 := pastF_ge ks "N" (bhF ks a + 1)
        have h2 := pastF_le (k := "N") hc
        have h3 := bhF_gt ks a
        exact ⟨n, by omega, rfl, pastF ks "N" (bhF ks a + 1), by walk_at "m_sub", hp, h2, by omega⟩
  · have c' : katF ks a ≠ "H" := by simpa using c
    rw [pvF_off c'] at hp
    refine SC.sub hsub ?_
    walk_at "m_go"
    refine ⟨by simp, fun t ht => ?_⟩
    have := h t ht
    rw [← hp] at this
    exact this
end

section
variable {W : Wd} {X : Addr → Prop} {A : Around} {σ : NH} {s : Shared} {d : Nat} {env : Env} {ρ : Loc} {Q : Value → NH → Prop} {K : Flow → Loc → NH → Prop}

theorem FC_syllable_end {ks : List Str} {l : Addr} {z : Int} (b : Nat) (hz : z = b) (hb : b < ks.length) (hl : σ l = some (.list (strL ks))) (hlen : ks.length < 1000000)
    (h : Q (.int (endF ks b) 0) σ) : FC W (d+4) (.ref 187) [.ref l, .int z 0] σ Q := by
  refine FC_fn2 F187 "kinds" "begin" (fun _ _ _ _ => BindsTo.of_eq rfl) (by rfl) ?_
  intro L
  let env := EN F187 L
  show SC _ _ env (execs F187.body env) _ _ _
  dsimp only [F187]
  subst hz
  walk_at "m_go"
  refine ⟨_, _, _, _, rfl, hl, rfl, by omega, by omega, (by rw [show ((b : Int)).toNat = b by omega]; exact strL_get hb), ?_⟩
  walk_at "m_go"
  refine ite_b (fun c => ?_) (fun c => ?_)
  · refine ite_b (fun _ => ?_) (fun c => by cases c)
    walk_at "m_go"
    have e : endF ks b = b + 1 := by unfold endF; exact if_pos (.inl (by simpa using c))
    rw [e] at h; exact h
  walk_at "m_go"
  refine ite_b (fun c2 => ?_) (fun c2 => ?_)
  · walk_at "m_go"
    have e : endF ks b = b + 1 := by unfold endF; exact if_pos (.inr (by simpa using c2))
    rw [e] at h; exact h
  unfold endF at h
  rw [if_neg (fun hh => by
    rcases hh with hh | hh
    · rw [hh] at c; simp at c
    · rw [hh] at c2; simp at c2)] at h
  dsimp only at h
  have hpv := pvF_le (ks.length + 1) ks (pastF ks "N" (stF ks b)) (pastF_le (by unfold stF; split <;> omega))
  have hst : stF ks b ≤ ks.length := by unfold stF; split <;> omega
  have hps := pastF_le (k := "N") hst
  walk_at "m_go"
  refine ⟨by decide, fun t1 h1 => ?_⟩
  refine op_in_tup (NH.set_self _ _ _) (by intro y hy; simp at hy; rcases hy with rfl | rfl <;> rfl) rfl ?_
  walk_at "m_go"
  simp only [List.any_cons, List.any_nil, eqb_str]
  refine ite_b (fun c3 => ?_) (fun c3 => ?_)
  case' refine_1 => have hs : stF ks b = b + 1 := if_pos (by
    simp at c3
    rcases c3 with c3 | c3
    · exact .inl c3.symm
    · exact .inr c3.symm)
  case' refine_2 => have hs : stF ks b = b := if_neg (fun hh => by
    simp at c3
    rcases hh with hh | hh
    · exact c3.1 hh.symm
    · exact c3.2 hh.symm)
  all_goals
    walk_at "m_go"
    refine FC.le (NH.le_set _ _ h1) ?_
    refine FC_past (stF ks b) (by omega) (by decide) hl hlen ?_
    walk_at "m_go"
    refine FC_past_viramas (pastF ks "N" (stF ks b)) rfl hps hl hlen fun t2 h2 => ?_
    refine AC_tuple (NH.set_self _ _ _) ?_
    refine AC_local (by rfl) (AC_local (by rfl) ?_)
    refine SC.le (NH.le_set _ _ h2) ?_
    generalize pvF (ks.length + 1) ks (pastF ks "N" (stF ks b)) = r at h hpv ⊢
    obtain ⟨r1, r2⟩ := r
    dsimp only at h hpv ⊢
    walk_at "m_go"
    cases r2 with
    | true =>
      refine ite_b (fun c => by cases c) (fun _ => ?_)
      walk_at "m_go"
      refine FC_past r1 rfl (by decide) hl hlen ?_
      exact h
    | false =>
      refine ite_b (fun _ => ?_) (fun c => by cases c)
      rw [if_neg (by decide)] at h
      generalize hR : imF (ks.length + 1) ks r1 = R at h
      refine SC.sub (l := [("kinds", .ref l), ("at", .int r1 0)]) (by walk_at "m_sub") ?_
      refine S_while (fun n ρ' σ' => σ' = σ ∧ ∃ a : Nat, Sub ρ' [("kinds", .ref l), ("at", .int a 0)] ∧ imF n ks a = R ∧ a ≤ ks.length ∧ ks.length - a < n) (ks.length + 1) ⟨rfl, r1, by walk_at "m_sub", hR, hpv, by omega⟩ ?_
      rintro n ρ' _ ⟨rfl, a, hsub, hp, ha, hn⟩
      obtain ⟨n, rfl⟩ : ∃ m, n = m + 1 := ⟨n - 1, by omega⟩
      refine EC.sub hsub ?_
      walk_at "m_go"
      refine FC_kind_at a rfl hl hlen ?_
      walk_at "m_go"
      refine ⟨by decide, fun t3 h3 => ?_⟩
      refine op_in_tup (NH.set_self _ _ _) (by intro y hy; simp at hy; rcases hy with rfl | rfl <;> rfl) rfl ?_
      walk_at "m_go"
      simp only [List.any_cons, List.any_nil, eqb_str]
      refine ite_b (fun c4 => ?_) (fun c4 => ?_)
      · have c4' : katF ks a = "I" ∨ katF ks a = "M" := by
          simp at c4
          rcases c4 with c4 | c4
          · exact .inl c4.symm
          · exact .inr c4.symm
        have ha' : a < ks.length := by
          rcases c4' with c4 | c4
          · exact katF_lt c4 (by decide)
          · exact katF_lt c4 (by decide)
        unfold imF at hp
        rw [if_pos c4'] at hp
        refine SC.sub hsub (SC.le (NH.le_set _ _ h3) ?_)
        walk_at "m_go"
        refine FC_past (a + 1) (by omega) (by decide) hl hlen ?_
        walk_at "m_go"
        have g1 := pastF_ge ks "N" (a + 1)
        have g2 := pastF_le (k := "N") ha'
        exact ⟨n, by omega, rfl, pastF ks "N" (a + 1), by walk_at "m_sub", hp, g2, by omega⟩
      · have c4' : ¬ (katF ks a = "I" ∨ katF ks a = "M") := by
          simp at c4
          rintro (hh | hh)
          · exact c4.1 hh.symm
          · exact c4.2 hh.symm
        rw [imF_off c4'] at hp
        refine SC.sub hsub (SC.le (NH.le_set _ _ h3) ?_)
        walk_at "m_go"
        subst hp
        refine FC_past a rfl (by decide) hl hlen ?_
        exact h
end

noncomputable def brokenF (c : Int) : Bool := (["H", "N", "I", "M", "S"] : List Str).any fun k => k == kindF c
noncomputable def goalS (cs : List Int) (g : Nat) (i : Nat) : Nat := if cs.getD i 0 = 2381 ∧ cs.getD (i + 1) 0 = 8204 then i + 2 else g
noncomputable def goalF (cs : List Int) (b e : Nat) : Nat := (List.range' b (e - 1 - b)).foldl (goalS cs) b
theorem goalF_bd {cs : List Int} {b e : Nat} (h : b < e) : b ≤ goalF cs b e ∧ goalF cs b e ≤ e := by
  unfold goalF
  have key : ∀ (l : List Nat) (g : Nat), (∀ i ∈ l, b ≤ i ∧ i + 2 ≤ e) → b ≤ g → g ≤ e → b ≤ l.foldl (goalS cs) g ∧ l.foldl (goalS cs) g ≤ e := by
    intro l
    induction l with
    | nil => intro g _ h1 h2; exact ⟨h1, h2⟩
    | cons i l ih =>
      intro g hl h1 h2
      have := hl i List.mem_cons_self
      refine ih _ (fun j hj => hl j (List.mem_cons_of_mem _ hj)) ?_ ?_
      · unfold goalS; split <;> omega
      · unfold goalS; split <;> omega
  refine key _ b (fun i hi => ?_) (Nat.le_refl _) (Nat.le_of_lt h)
  rw [List.mem_range'_1] at hi
  omega
theorem goalF_snoc (cs : List Int) (b n : Nat) : (List.range' b (n + 1)).foldl (goalS cs) b = goalS cs ((List.range' b n).foldl (goalS cs) b) (b + n) := by
  rw [List.range'_concat, List.foldl_append]; simp

section
variable {W : Wd} {X : Addr → Prop} {A : Around} {σ : NH} {s : Shared} {d : Nat} {env : Env} {ρ : Loc} {Q : Value → NH → Prop} {K : Flow → Loc → NH → Prop}

noncomputable def chkC (scope : Scope) (x : Str) (k : Str → Option NameKind) : Bool :=
  scope.names.all fun y => decide (y.2 ≠ .cell) && (decide (y.2 ≠ .local) || (scope.names.lookup y.1 == some .local && (y.1 == x || y.1 == (".0" : Str)))) && (decide (y.2 ≠ .free) || (k y.1 == some .cell || k y.1 == some .free))
theorem CompOK.of {scope : Scope} {x : Str} (h : chkC scope x env.kindOf = true) (hk : scope.kind = .function) (hx : scope.names.lookup x = some .local) (hz : ρ.lookup (".0" : Str) = none) : CompOK scope x env ρ := by
  unfold chkC at h
  rw [List.all_eq_true] at h
  simp only [Bool.and_eq_true, Bool.or_eq_true, decide_eq_true_eq, beq_iff_eq] at h
  refine ⟨fun y hy => (h y hy).1.1, hk, fun y hy e => ?_, fun y hy e => ?_, hx, fun y hy e => ?_, hz⟩
  · rcases (h y hy).1.2 with g | g
    · exact absurd e g
    · exact g.1
  · rcases (h y hy).1.2 with g | g
    · exact absurd e g
    · exact g.2
  · rcases (h y hy).2 with g | g
    · exact absurd e g
    · exact g

noncomputable def NPair (σ : NH) (a : Addr) (p : Nat × Nat) : Prop := σ a = some (.tup [.int (p.1 : Int) 0, .int (p.2 : Int) 0])
theorem intL_at {cs : List Int} {i : Nat} {v : Value} (h : (intL cs)[i]? = some v) : ∃ c, cs[i]? = some c ∧ v = .int c 0 := by
  unfold intL at h
  rw [List.getElem?_map] at h
  obtain ⟨a, h1, h2⟩ := Option.map_eq_some_iff.mp h
  exact ⟨a, h1, h2.symm⟩

theorem FC_syllables {cs : List Int} {l : Addr} (hl : σ l = some (.list (intL cs))) (hlen : cs.length < 1000000)
    (h : ∀ τ r as, σ.le τ → σ r = none → τ r = some (.list (as.map .ref)) → Sides (NPair τ) as (syls cs) → Q (.ref r) τ) : FC W (d+5) (.ref 192) [.ref l] σ Q := by
  refine FC_fn1 F192 "codes" (fun _ _ _ => BindsTo.of_eq rfl) (by rfl) ?_
  intro L
  let env := EN F192 L
  show SC _ _ env (execs F192.body env) _ _ _
  dsimp only [F192]
  refine S_comp (CompOK.of (by rfl) rfl rfl rfl) (by rfl) (IV_src ?_)
  walk_at "m_go"
  refine ⟨_, _, SrcV.list hl, by rw [intL_len]; exact hlen, fun i ys σ' => σ = σ' ∧ ys = strL ((cs.take i).map kindF), ⟨rfl, rfl⟩, fun i ys σ' hI => by rw [← hI.1]; exact hl, ?_, ?_⟩
  · rintro C i v ys _ hx ⟨rfl, rfl⟩
    obtain ⟨c, hc, rfl⟩ := intL_at hx
    refine CT_nil ?_
    refine ite_b (fun _ => ?_) (fun c => by cases c)
    walk_at "m_go"
    refine FC_kinds_of ?_
    exact ⟨rfl, by rw [take_snoc hc]; simp [strL]⟩
  rintro ys _ ⟨rfl, rfl⟩ kl hkl
  rw [intL_len, List.take_length]
  generalize hks : cs.map kindF = ks
  have hkn : ks.length = cs.length := by rw [← hks, List.length_map]
  have hk9 : ∀ k ∈ ks, k ∈ kinds9 := fun k hk => by rw [← hks] at hk; obtain ⟨c, _, rfl⟩ := List.mem_map.mp hk; exact kindF_mem c
  have hsy : syls cs = syF (ks.length + 1) ks 0 := by unfold syls; rw [hks, hkn]
  rw [hsy] at h
  walk_at "m_go"
  refine ⟨by decide, fun fl hfl => ?_⟩
  walk_at "m_go"
  have hk0 := NH.set_self σ kl (.list (strL ks))
  have le1 := NH.le_set _ (.list (strL ks)) hkl
  have le2 := NH.le_set (σ := σ.set kl (.list (strL ks))) (.list []) hfl
  have hfl0 : σ fl = none := NH.set_none hfl
  have hne : kl ≠ fl := by rintro rfl; rw [hk0] at hfl; cases hfl
  generalize hS0 : syF (ks.length + 1) ks 0 = S0 at h ⊢
  refine S_while (fun n ρ' σ' => ∃ (b : Nat) (as : List Addr) (ps : List (Nat × Nat)), σ.le σ' ∧ σ' kl = some (.list (strL ks)) ∧ σ' fl = some (.list (as.map .ref)) ∧ Sides (NPair σ') as ps ∧
      Sub ρ' [("kinds", .ref kl), ("found", .ref fl), ("begin", .int b 0)] ∧ ps ++ syF n ks b = S0 ∧ b ≤ ks.length ∧ ks.length - b < n ∧ ps.length ≤ b) (ks.length + 1)
    ⟨0, [], [], NH.le_trans le1 le2, le2 _ _ hk0, NH.set_self _ _ _, .nil, by walk_at "m_sub", hS0, by omega, by omega, by decide⟩ ?_
  rintro n ρ' σ' ⟨b, as, ps, hle, hk, hf, hS, hsub, hp, hb, hn, hpl⟩
  obtain ⟨n, rfl⟩ : ∃ m, n = m + 1 := ⟨n - 1, by omega⟩
  refine EC.sub hsub ?_
  walk_at "m_go"
  refine CB_len hk (by rw [strL_len]; omega) ?_
  walk_at "m_go"
  refine ite_b (fun c => ?_) (fun c => ?_)
  · have hb' : b < ks.length := by rw [strL_len] at c; simp at c; omega
    refine SC.sub hsub ?_
    walk_at "m_go"
    refine FC_syllable_end b rfl hb' hk (by omega) ?_
    walk_at "m_go"
    refine S_expr (EV_append ?_)
    walk_at "m_go"
    refine ⟨fl, _, rfl, hf, ?_⟩
    walk_at "m_go"
    refine ⟨by simp, fun t ht => ?_⟩
    have g1 := endF_gt hb' hk9
    have g2 := endF_le hb'
    have hl1 := NH.le_set _ (.tup [.int (b : Int) 0, .int (endF ks b : Int) 0]) ht
    refine ⟨as.map .ref, hl1 _ _ hf, ?_, rfl, ?_⟩
    · rw [List.length_map, hS.len]; omega
    walk_at "m_go"
    unfold syF at hp
    rw [if_pos hb'] at hp
    have hfr : ∀ (x : Addr) (o : NO), x ≠ fl → (σ'.set t (.tup [.int (b : Int) 0, .int (endF ks b : Int) 0])) x = some o → ((σ'.set t (.tup [.int (b : Int) 0, .int (endF ks b : Int) 0])).set fl (.list (as.map .ref ++ [.ref t]))) x = some o := fun x o hx h => by
      rw [NH.set_ne _ _ hx]; exact h
    have hσfl : ∀ x o, σ x = some o → x ≠ fl := fun x o hx e => by rw [e, hfl0] at hx; cases hx
    have htf : t ≠ fl := by rintro rfl; rw [hf] at ht; cases ht
    refine ⟨n, by omega, endF ks b, as ++ [t], ps ++ [(b, endF ks b)], fun x o hx => hfr x o (hσfl x o hx) (hl1 _ _ (hle _ _ hx)), hfr _ _ hne (hl1 _ _ hk), ?_, ?_, by walk_at "m_sub", by rw [List.append_assoc]; exact hp, g2, by omega, by rw [List.length_append]; simp; omega⟩
    · rw [NH.set_self]; simp
    · refine Sides.snoc (hS.imp fun a p h => hfr _ _ (by rintro rfl; unfold NPair at h; rw [hf] at h; cases h) (hl1 _ _ h)) (hfr _ _ htf (NH.set_self _ _ _))
  · have hb' : ¬ b < ks.length := by rw [strL_len] at c; simp at c; omega
    refine SC.sub hsub ?_
    walk_at "m_go"
    unfold syF at hp
    rw [if_neg hb', List.append_nil] at hp
    rw [← hp] at h
    exact h σ' fl as hle hfl0 hf hS

theorem FC_is_broken {cs : List Int} {l : Addr} {z : Int} (b : Nat) (hz : z = b) (hb : b < cs.length) (hl : σ l = some (.list (intL cs))) (hlen : cs.length < 1000000)
    (h : Q (.bool (brokenF (cs.getD b 0))) σ) : FC W (d+3) (.ref 199) [.ref l, .int z 0] σ Q := by
  refine FC.forget ?_
  refine FC_fn2 F199 "codes" "begin" (fun _ _ _ _ => BindsTo.of_eq rfl) (by rfl) ?_
  intro L
  let env := EN F199 L
  show SC _ _ env (execs F199.body env) _ _ _
  dsimp only [F199]
  subst hz
  walk_at "m_go"
  refine ⟨_, _, _, _, rfl, hl, rfl, by omega, by omega, (by rw [show ((b : Int)).toNat = b by omega]; exact intL_get hb), ?_⟩
  walk_at "m_go"
  refine FC_kinds_of ?_
  walk_at "m_go"
  refine ⟨by decide, fun t ht => ?_⟩
  refine op_in_tup (NH.set_self _ _ _) (by intro y hy; simp at hy; rcases hy with rfl | rfl | rfl | rfl | rfl <;> rfl) rfl ?_
  refine ⟨σ, NH.le_set _ _ ht, ?_⟩
  have : cs.getD b 0 = cs[b] := by rw [List.getD_eq_getElem?_getD, List.getElem?_eq_getElem hb]; rfl
  rw [this] at h
  simp only [List.any_cons, List.any_nil, eqb_str]
  exact h

theorem FC_matra_goal {cs : List Int} {l : Addr} {z y : Int} (b e : Nat) (hz : z = b) (hy : y = e) (hb : b < e) (he : e ≤ cs.length) (hl : σ l = some (.list (intL cs))) (hlen : cs.length < 1000000)
    (h : Q (.int (goalF cs b e) 0) σ) : FC W (d+1) (.ref 206) [.ref l, .int z 0, .int y 0] σ Q := by
  refine FC.forget ?_
  refine FC_fn3 F206 "codes" "begin" "end" (fun _ _ _ _ _ => BindsTo.of_eq rfl) (by rfl) ?_
  intro L
  let env := EN F206 L
  show SC _ _ env (execs F206.body env) _ _ _
  dsimp only [F206]
  subst hz hy
  walk_at "m_go"
  refine S_for (IV_src ?_)
  walk_at "m_go"
  refine CB_range2 fun r hr => ?_
  have le1 := NH.le_set _ (.rng (b : Int) ((e : Int) - 1) 1) hr
  have hn : (((e : Int) - 1) - (b : Int)).toNat = e - 1 - b := by omega
  refine ⟨_, _, SrcV.rng (NH.set_self _ _ _) (by omega) (by omega) (by omega) (by omega), fun i ρ' σ' => σ.set r (.rng (b : Int) ((e : Int) - 1) 1) = σ' ∧ Sub ρ' [("codes", .ref l), ("begin", .int b 0), ("end", .int e 0), ("goal", .int ((List.range' b i).foldl (goalS cs) b : Nat) 0)], ?_, fun _ _ _ _ => trivial, ?_, ?_⟩
  · exact ⟨rfl, by walk_at "m_sub"⟩
  · rintro i v ρ' _ hx ⟨rfl, hsub⟩
    obtain ⟨hi, rfl⟩ := rangeL_get hx
    rw [hn] at hi
    have hl' := le1 _ _ hl
    refine AC.sub hsub ?_
    walk_at "m_go"
    refine ⟨_, _, _, _, rfl, hl', rfl, by omega, by omega, (by rw [show ((b : Int) + (i : Int)).toNat = b + i by omega]; exact intL_get (i := b + i) (by omega)), ?_⟩
    walk_at "m_go"
    have e1 : cs.getD (b + i) 0 = cs[b + i] := by rw [List.getD_eq_getElem?_getD, List.getElem?_eq_getElem (by omega)]; rfl
    have e2 : cs.getD (b + i + 1) 0 = cs[b + i + 1] := by rw [List.getD_eq_getElem?_getD, List.getElem?_eq_getElem (by omega)]; rfl
    have hg := goalF_snoc cs b i
    unfold goalS at hg
    rw [e1, e2] at hg
    refine ite_b (fun c1 => ?_) (fun c1 => ?_)
    · walk_at "m_go"
      refine EV_item ?_
      walk_at "m_go"
      refine ⟨_, _, _, _, rfl, hl', rfl, by omega, by omega, (by rw [show ((b : Int) + (i : Int) + 1).toNat = b + i + 1 by omega]; exact intL_get (i := b + i + 1) (by omega)), ?_⟩
      walk_at "m_go"
      refine ite_b (fun c2 => ?_) (fun c2 => ?_)
      · walk_at "m_go"
        rw [if_pos ⟨by simpa using c1, by simpa using c2⟩] at hg
        refine ⟨rfl, Sub.cons (by rfl) (Sub.cons (by rfl) (Sub.cons (by rfl) (Sub.cons ?_ Sub.nil)))⟩
        show some _ = some _
        congr 2
        unfold goalS
        rw [hg]; push_cast; rfl
      · walk_at "m_go"
        rw [if_neg (fun hh => by rw [hh.2] at c2; simp at c2)] at hg
        refine ⟨rfl, Sub.cons (by rfl) (Sub.cons (by rfl) (Sub.cons (by rfl) (Sub.cons ?_ Sub.nil)))⟩
        show some _ = some _
        congr 2
        unfold goalS
        rw [hg]
    · rw [if_neg (by decide)]
      walk_at "m_go"
      rw [if_neg (fun hh => by rw [hh.1] at c1; simp at c1)] at hg
      refine ⟨rfl, Sub.cons (by rfl) (Sub.cons (by rfl) (Sub.cons (by rfl) (Sub.cons ?_ Sub.nil)))⟩
      show some _ = some _
      congr 2
      unfold goalS
      rw [hg]
  · rintro ρ' _ ⟨rfl, hsub⟩
    refine SC.sub hsub ?_
    walk_at "m_go"
    refine ⟨σ, le1, ?_⟩
    rw [rangeL_len, hn]
    exact h
end

structure Row where
  code : Int
  cluster : Int
  mask : Int
  glyph : Int
  kind : Str
noncomputable def row0 : Row := ⟨0, 0, 0, 0, ""⟩
noncomputable def codesF (rs : List Row) : List Int := rs.map (·.code)
noncomputable def clsF (rs : List Row) : List Int := rs.map (·.cluster)
noncomputable def clF (rs : List Row) (i : Nat) : Int := (clsF rs).getD i 0
noncomputable def Mono (rs : List Row) : Prop := (clsF rs).Pairwise (· ≤ ·)
noncomputable def isI (r : Row) : Bool := r.code == 2367
noncomputable def skipF (cs : List Int) (g e : Nat) : Nat := g + (((cs.take e).drop g).takeWhile (· == 2367)).length
noncomputable def spotsF (cs : List Int) (g e : Nat) : List Nat := (List.range' g (e - g)).filter fun i => cs.getD i 0 == 2367
noncomputable def stirG {α : Type} (p : α → Bool) (l : List α) (g last : Nat) : List α := l.take g ++ (((l.take last).drop g).filter p ++ (((l.take last).drop g).filter (fun x => !p x) ++ l.drop last))
noncomputable def mrgR (lo hi : Int) (r : Row) : Row := if lo ≤ r.cluster ∧ r.cluster ≤ hi then { r with cluster := lo } else r
noncomputable def mergeF (rs : List Row) (g last : Nat) : List Row := rs.map (mrgR (clF rs g) (clF rs (last - 1)))
noncomputable def movedF (rs : List Row) (b e : Nat) : List Row :=
  match (spotsF (codesF rs) (skipF (codesF rs) (goalF (codesF rs) b e) e) e).getLast? with
  | none => rs
  | some p => stirG isI (mergeF rs (skipF (codesF rs) (goalF (codesF rs) b e) e) (p + 1)) (skipF (codesF rs) (goalF (codesF rs) b e) e) (p + 1)
noncomputable def circleR (r : Row) : Row := { r with code := 9676, glyph := 0, kind := "" }
noncomputable def circleF (rs : List Row) (b : Nat) : List Row := rs.take b ++ circleR (rs.getD b row0) :: rs.drop b
noncomputable def stepF (hc : Bool) (cs : List Int) (rs : List Row) (p : Nat × Nat) : List Row := if (hc && brokenF (cs.getD p.1 0)) = true then movedF (circleF rs p.1) p.1 (p.2 + 1) else movedF rs p.1 p.2
noncomputable def allF (hc : Bool) (rs : List Row) : List Row := (syls (codesF rs)).reverse.foldl (stepF hc (codesF rs)) rs

theorem clsF_len (rs : List Row) : (clsF rs).length = rs.length := by simp [clsF]
theorem codesF_len (rs : List Row) : (codesF rs).length = rs.length := by simp [codesF]
theorem clF_get {rs : List Row} {i : Nat} (h : i < rs.length) : clF rs i = rs[i].cluster := by
  unfold clF clsF; rw [List.getD_eq_getElem?_getD, List.getElem?_map, List.getElem?_eq_getElem h]; rfl
theorem codesF_get {rs : List Row} {i : Nat} (h : i < rs.length) : (codesF rs).getD i 0 = rs[i].code := by
  unfold codesF; rw [List.getD_eq_getElem?_getD, List.getElem?_map, List.getElem?_eq_getElem h]; rfl
theorem mono_get {rs : List Row} (h : Mono rs) {i j : Nat} (hij : i ≤ j) (hj : j < rs.length) : clF rs i ≤ clF rs j := by
  rcases Nat.lt_or_eq_of_le hij with h1 | h1
  · unfold Mono at h
    rw [List.pairwise_iff_getElem] at h
    have := h i j (by rw [clsF_len]; omega) (by rw [clsF_len]; exact hj) h1
    unfold clF
    rw [List.getD_eq_getElem?_getD, List.getD_eq_getElem?_getD, List.getElem?_eq_getElem (by rw [clsF_len]; omega), List.getElem?_eq_getElem (by rw [clsF_len]; exact hj)]
    exact this
  · rw [h1]; exact Int.le_refl _
theorem clF_off {rs : List Row} {i : Nat} (h : rs.length ≤ i) : clF rs i = 0 := by
  unfold clF; rw [List.getD_eq_getElem?_getD, List.getElem?_eq_none (by rw [clsF_len]; exact h)]; rfl

theorem merge_idx {rs : List Row} (hm : Mono rs) {g last f h : Nat} (hg : g < last) (hl : last ≤ rs.length) (h1 : f ≤ g) (h2 : last ≤ h) (h3 : h ≤ rs.length) (h4 : ∀ i, f ≤ i → i < g → clF rs i = clF rs g)
    (h5 : ∀ i, last ≤ i → i < h → clF rs i = clF rs (last - 1)) (h6 : f = 0 ∨ clF rs (f - 1) ≠ clF rs g) (h7 : h = rs.length ∨ clF rs h ≠ clF rs (last - 1)) {k : Nat} (hk : k < rs.length) :
    (f ≤ k ∧ k < h) ↔ (clF rs g ≤ clF rs k ∧ clF rs k ≤ clF rs (last - 1)) := by
  have a0 := mono_get hm (i := g) (j := last - 1) (by omega) (by omega)
  constructor
  · rintro ⟨k1, k2⟩
    by_cases c1 : k < g
    · rw [h4 k k1 c1]; exact ⟨Int.le_refl _, a0⟩
    · by_cases c2 : k < last
      · exact ⟨mono_get hm (by omega) hk, mono_get hm (by omega) (by omega)⟩
      · rw [h5 k (by omega) k2]; exact ⟨a0, Int.le_refl _⟩
  · rintro ⟨k1, k2⟩
    constructor
    · rcases Nat.lt_or_ge k f with c | c
      · exfalso
        rcases h6 with h6 | h6
        · omega
        · have b1 := mono_get hm (i := k) (j := f - 1) (by omega) (by omega)
          have b2 := mono_get hm (i := f - 1) (j := g) (by omega) (by omega)
          omega
      · exact c
    · rcases Nat.lt_or_ge k h with c | c
      · exact c
      · exfalso
        rcases h7 with h7 | h7
        · omega
        · have b1 := mono_get hm (i := h) (j := k) (by omega) (by omega)
          have b2 := mono_get hm (i := last - 1) (j := h) (by omega) (by omega)
          omega

theorem skipF_ge (cs : List Int) (g e : Nat) : g ≤ skipF cs g e := Nat.le_add_right _ _
theorem skipF_le {cs : List Int} {g e : Nat} (h : g ≤ e) (he : e ≤ cs.length) : skipF cs g e ≤ e := by
  unfold skipF
  have h1 := (List.takeWhile_sublist (fun x : Int => x == 2367) (l := (cs.take e).drop g)).length_le
  rw [List.length_drop, List.length_take] at h1
  omega
theorem skip_cons {cs : List Int} {g e : Nat} (hg : g < e) (he : e ≤ cs.length) : (cs.take e).drop g = cs.getD g 0 :: (cs.take e).drop (g + 1) := by
  have h1 : g < (cs.take e).length := by rw [List.length_take]; omega
  rw [List.drop_eq_getElem_cons h1, List.getElem_take, List.getD_eq_getElem?_getD, List.getElem?_eq_getElem (by omega)]; rfl
theorem skipF_step {cs : List Int} {g e : Nat} (hg : g < e) (he : e ≤ cs.length) (h : cs.getD g 0 = 2367) : skipF cs g e = skipF cs (g + 1) e := by
  unfold skipF
  rw [skip_cons hg he, List.takeWhile_cons, if_pos (by simpa using h), List.length_cons]; omega
theorem skipF_stop {cs : List Int} {g e : Nat} (h : ¬ (g < e ∧ cs.getD g 0 = 2367)) (he : e ≤ cs.length) : skipF cs g e = g := by
  unfold skipF
  by_cases hg : g < e
  · rw [skip_cons hg he, List.takeWhile_cons, if_neg (by simpa using fun hh => h ⟨hg, hh⟩)]; rfl
  · rw [List.drop_of_length_le (by rw [List.length_take]; omega)]; rfl
theorem spotsF_mem {cs : List Int} {g e i : Nat} : i ∈ spotsF cs g e ↔ (g ≤ i ∧ i < e ∧ cs.getD i 0 = 2367) := by
  unfold spotsF
  rw [List.mem_filter, List.mem_range'_1, beq_iff_eq]
  constructor
  · rintro ⟨⟨a, b⟩, c⟩; exact ⟨a, by omega, c⟩
  · rintro ⟨a, b, c⟩; exact ⟨⟨a, by omega⟩, c⟩
theorem spotsF_step {cs : List Int} {g e : Nat} (hg : g < e) (h : cs.getD g 0 = 2367) : spotsF cs g e = g :: spotsF cs (g + 1) e := by
  unfold spotsF
  rw [show e - g = (e - (g + 1)) + 1 by omega, List.range'_succ, List.filter_cons, if_pos (by simpa using h)]
theorem spotsF_head {cs : List Int} {g e i : Nat} {r : List Nat} (h : spotsF cs g e = i :: r) : (i = g ↔ (g < e ∧ cs.getD g 0 = 2367)) ∧ g ≤ i := by
  have hm := spotsF_mem.mp (h ▸ List.mem_cons_self : i ∈ spotsF cs g e)
  refine ⟨⟨fun e1 => e1 ▸ ⟨hm.2.1, hm.2.2⟩, fun hh => ?_⟩, hm.1⟩
  rw [spotsF_step hh.1 hh.2] at h
  exact (List.cons.inj h).1.symm
theorem spotsF_nil {cs : List Int} {g e : Nat} (h : spotsF cs g e = []) : ¬ (g < e ∧ cs.getD g 0 = 2367) := fun hh => by
  rw [spotsF_step hh.1 hh.2] at h; cases h

theorem spotsF_last {cs : List Int} {g e p : Nat} (h : (spotsF cs g e).getLast? = some p) : g ≤ p ∧ p < e ∧ cs.getD p 0 = 2367 ∧ spotsF cs g e = spotsF cs g (p + 1) := by
  have hm := spotsF_mem.mp (List.mem_of_getLast? h)
  refine ⟨hm.1, hm.2.1, hm.2.2, ?_⟩
  unfold spotsF at h ⊢
  have hs : List.range' g (e - g) = List.range' g (p + 1 - g) ++ List.range' (p + 1) (e - (p + 1)) := by
    have := List.range'_append_1 (s := g) (m := p + 1 - g) (n := e - (p + 1))
    rw [show g + (p + 1 - g) = p + 1 by omega, show p + 1 - g + (e - (p + 1)) = e - g by omega] at this
    exact this.symm
  rw [hs, List.filter_append] at h ⊢
  cases hr : (List.range' (p + 1) (e - (p + 1))).filter fun i => cs.getD i 0 == 2367 with
  | nil => simp
  | cons a l =>
    exfalso
    rw [hr] at h
    have h2 : p ∈ (a :: l) := by
      rw [List.getLast?_append] at h
      cases hq : (a :: l).getLast? with
      | none => simp at hq
      | some q =>
        rw [hq] at h
        have e3 : q = p := by simpa using h
        rw [← e3]; exact List.mem_of_getLast? hq
    rw [← hr] at h2
    have := (List.mem_filter.mp h2).1
    rw [List.mem_range'_1] at this
    omega

theorem slice_map {α : Type} (l : List α) (x0 : α) (g last : Nat) (h : last ≤ l.length) : (l.take last).drop g = (List.range' g (last - g)).map fun i => l.getD i x0 := by
  apply List.ext_getElem?
  intro i
  rw [List.getElem?_drop, List.getElem?_map]
  by_cases hi : i < last - g
  · rw [List.getElem?_take, if_pos (by omega), List.getElem?_range' hi, List.getElem?_eq_getElem (by omega)]
    simp only [Option.map_some, Nat.one_mul]
    rw [List.getD_eq_getElem?_getD, List.getElem?_eq_getElem (by omega)]; rfl
  · rw [List.getElem?_take, if_neg (by omega), List.getElem?_eq_none (by simp; omega)]; rfl
theorem stir_map {α β : Type} (f : α → β) (p : β → Bool) (q : α → Bool) (hp : ∀ x, q x = p (f x)) (l : List α) (g last : Nat) : (stirG q l g last).map f = stirG p (l.map f) g last := by
  unfold stirG
  have e : q = fun x => p (f x) := by funext x; exact hp x
  subst e
  have e : ((l.map f).take last).drop g = ((l.take last).drop g).map f := by rw [List.map_drop, List.map_take]
  rw [e, List.filter_map, List.filter_map, List.map_append, List.map_append, List.map_append, List.map_take, List.map_drop]
  rfl
theorem stir_perm {α : Type} (p : α → Bool) (l : List α) (g last : Nat) (h : g ≤ last) : (stirG p l g last).Perm l := by
  unfold stirG
  have e : l = l.take g ++ ((l.take last).drop g ++ l.drop last) := by
    have h1 : l.take g = (l.take last).take g := by rw [List.take_take, Nat.min_eq_left h]
    rw [h1, ← List.append_assoc, List.take_append_drop, List.take_append_drop]
  conv => rhs; rw [e]
  refine List.Perm.append_left _ ?_
  rw [← List.append_assoc]
  exact List.Perm.append_right _ (List.filter_append_perm p _)
theorem stir_mem {α : Type} {p : α → Bool} {l : List α} {g last : Nat} (h : g ≤ last) {x : α} : x ∈ stirG p l g last ↔ x ∈ l := (stir_perm p l g last h).mem_iff

theorem mergeF_len (rs : List Row) (g last : Nat) : (mergeF rs g last).length = rs.length := by simp [mergeF]
theorem mrgR_cl (lo hi : Int) (r : Row) : (mrgR lo hi r).cluster = if lo ≤ r.cluster ∧ r.cluster ≤ hi then lo else r.cluster := by
  unfold mrgR; split <;> rfl
theorem mrgR_code (lo hi : Int) (r : Row) : (mrgR lo hi r).code = r.code := by unfold mrgR; split <;> rfl
theorem mrgR_self {lo : Int} {r : Row} (h : lo = r.cluster ∨ ¬ (lo ≤ r.cluster ∧ r.cluster ≤ lo)) : mrgR lo lo r = r := by
  unfold mrgR
  split
  · rename_i h1
    have : lo = r.cluster := by omega
    rw [this]
  · rfl
theorem mergeF_one {rs : List Row} {g : Nat} : mergeF rs g (g + 1) = rs := by
  unfold mergeF
  rw [Nat.add_sub_cancel]
  conv => rhs; rw [← List.map_id rs]
  apply List.map_congr_left
  intro r _
  exact mrgR_self (by omega)
theorem mergeF_mono {rs : List Row} (h : Mono rs) (g last : Nat) : Mono (mergeF rs g last) := by
  unfold Mono clsF mergeF at *
  rw [List.map_map]
  rw [List.pairwise_map] at h ⊢
  refine h.imp fun {a b} hab => ?_
  show (mrgR _ _ a).cluster ≤ (mrgR _ _ b).cluster
  rw [mrgR_cl, mrgR_cl]
  split <;> split <;> omega
theorem mergeF_cl0 {rs : List Row} (h : Mono rs) {g last : Nat} (hg : g < rs.length) : clF (mergeF rs g last) 0 = clF rs 0 := by
  have h0 : 0 < rs.length := by omega
  rw [clF_get (by rw [mergeF_len]; exact h0), clF_get h0]
  have := mono_get h (Nat.zero_le g) hg
  rw [clF_get h0] at this
  simp only [mergeF, List.getElem_map]
  rw [mrgR_cl]
  split <;> omega
theorem mergeF_codes (rs : List Row) (g last : Nat) : codesF (mergeF rs g last) = codesF rs := by
  unfold codesF mergeF
  rw [List.map_map]
  exact List.map_congr_left fun r _ => mrgR_code _ _ r
theorem mergeF_slice {rs : List Row} (h : Mono rs) {g last : Nat} (hg : g < last) (hl : last ≤ rs.length) : ∀ r ∈ ((mergeF rs g last).take last).drop g, r.cluster = clF rs g := by
  intro r hr
  obtain ⟨i, hi, rfl⟩ := List.getElem_of_mem hr
  rw [List.length_drop, List.length_take, mergeF_len] at hi
  simp only [List.getElem_drop, List.getElem_take, mergeF, List.getElem_map]
  rw [mrgR_cl, if_pos]
  have hk : g + i < rs.length := by omega
  rw [← clF_get hk]
  exact ⟨mono_get h (by omega) hk, mono_get h (by omega) (by omega)⟩
theorem stir_cls {rs : List Row} {g last : Nat} {c : Int} (h : g ≤ last) (hc : ∀ r ∈ (rs.take last).drop g, r.cluster = c) : clsF (stirG isI rs g last) = clsF rs := by
  unfold stirG clsF
  have e : rs = rs.take g ++ ((rs.take last).drop g ++ rs.drop last) := by
    have h1 : rs.take g = (rs.take last).take g := by rw [List.take_take, Nat.min_eq_left h]
    rw [h1, ← List.append_assoc, List.take_append_drop, List.take_append_drop]
  conv => rhs; rw [e]
  generalize (rs.take last).drop g = sl at hc
  rw [List.map_append, List.map_append, List.map_append, List.map_append, List.map_append, ← List.append_assoc (List.map _ (sl.filter isI)), ← List.map_append]
  congr 2
  have e1 : sl.map (·.cluster) = List.replicate sl.length c := List.eq_replicate_iff.mpr ⟨by simp, fun x hx => by
    obtain ⟨r, hr, rfl⟩ := List.mem_map.mp hx; exact hc r hr⟩
  have e2 : (sl.filter isI ++ sl.filter (fun x => !isI x)).map (·.cluster) = List.replicate (sl.filter isI ++ sl.filter (fun x => !isI x)).length c := List.eq_replicate_iff.mpr ⟨by simp, fun x hx => by
    obtain ⟨r, hr, rfl⟩ := List.mem_map.mp hx
    exact hc r ((List.filter_append_perm isI sl).mem_iff.mp hr)⟩
  rw [e1, e2, (List.filter_append_perm isI sl).length_eq]

structure Kept (rs rs' : List Row) : Prop where
  mono : Mono rs'
  len : rs'.length = rs.length
  cl0 : clF rs' 0 = clF rs 0
  codes : (codesF rs').Perm (codesF rs)
theorem movedF_bd {rs : List Row} {b e p : Nat} (hb : b < e) (he : e ≤ rs.length) (hp : (spotsF (codesF rs) (skipF (codesF rs) (goalF (codesF rs) b e) e) e).getLast? = some p) :
    skipF (codesF rs) (goalF (codesF rs) b e) e ≤ p ∧ p < e := ⟨(spotsF_last hp).1, (spotsF_last hp).2.1⟩
theorem movedF_kept {rs : List Row} (h : Mono rs) {b e : Nat} (hb : b < e) (he : e ≤ rs.length) : Kept rs (movedF rs b e) := by
  unfold movedF
  split
  · exact ⟨h, rfl, rfl, .refl _⟩
  · rename_i p hp
    obtain ⟨h1, h2⟩ := movedF_bd hb he hp
    generalize skipF (codesF rs) (goalF (codesF rs) b e) e = g at h1 hp ⊢
    have hc := stir_cls (rs := mergeF rs g (p + 1)) (g := g) (last := p + 1) (by omega) (mergeF_slice h (by omega) (by omega))
    have hp' := stir_perm isI (mergeF rs g (p + 1)) g (p + 1) (by omega)
    refine ⟨?_, ?_, ?_, ?_⟩
    · unfold Mono; rw [hc]; exact mergeF_mono h _ _
    · rw [hp'.length_eq, mergeF_len]
    · unfold clF; rw [hc]; exact mergeF_cl0 h (by omega)
    · have := hp'.map (·.code)
      refine this.trans ?_
      show (codesF (mergeF rs g (p + 1))).Perm _
      rw [mergeF_codes]
theorem circleF_len (rs : List Row) (b : Nat) : (circleF rs b).length = rs.length + 1 := by
  unfold circleF; simp; omega
theorem circleF_mono {rs : List Row} (h : Mono rs) {b : Nat} (hb : b < rs.length) : Mono (circleF rs b) := by
  unfold Mono clsF circleF at *
  have e : rs.drop b = rs[b] :: rs.drop (b + 1) := List.drop_eq_getElem_cons hb
  have e2 : rs.getD b row0 = rs[b] := by rw [List.getD_eq_getElem?_getD, List.getElem?_eq_getElem hb]; rfl
  have e3 : rs = rs.take b ++ rs.drop b := (List.take_append_drop b rs).symm
  rw [e3, e] at h
  rw [e, e2]
  rw [List.map_append, List.map_cons, List.pairwise_append] at h ⊢
  obtain ⟨h1, h2, h3⟩ := h
  rw [List.map_cons]
  refine ⟨h1, List.pairwise_cons.mpr ⟨fun x hx => ?_, h2⟩, fun x hx y hy => ?_⟩
  · show rs[b].cluster ≤ x
    rcases List.mem_cons.mp hx with hx | hx
    · rw [hx]; exact Int.le_refl _
    · exact (List.pairwise_cons.mp h2).1 x hx
  · rcases List.mem_cons.mp hy with hy | hy
    · rw [hy]; exact h3 x hx _ List.mem_cons_self
    · exact h3 x hx y hy
theorem circleF_cl0 {rs : List Row} {b : Nat} (hb : b < rs.length) : clF (circleF rs b) 0 = clF rs 0 := by
  have e2 : rs.getD b row0 = rs[b] := by rw [List.getD_eq_getElem?_getD, List.getElem?_eq_getElem hb]; rfl
  cases b with
  | zero =>
    unfold circleF clF clsF
    rw [e2]
    have : rs.map (·.cluster) = rs[0].cluster :: (rs.drop 1).map (·.cluster) := by
      conv => lhs; rw [← List.drop_zero (l := rs), List.drop_eq_getElem_cons hb]
      rfl
    rw [this]; rfl
  | succ b =>
    have h0 : 0 < rs.length := by omega
    rw [clF_get h0, clF_get (by rw [circleF_len]; omega)]
    unfold circleF
    rw [List.getElem_append_left (by rw [List.length_take]; omega), List.getElem_take]

theorem stepF_kept {hc : Bool} {cs : List Int} {rs : List Row} (h : Mono rs) {p : Nat × Nat} (hb : p.1 < p.2) (he : p.2 ≤ rs.length) :
    Mono (stepF hc cs rs p) ∧ rs.length ≤ (stepF hc cs rs p).length ∧ (stepF hc cs rs p).length ≤ rs.length + 1 ∧ clF (stepF hc cs rs p) 0 = clF rs 0 ∧ (hc = false → (codesF (stepF hc cs rs p)).Perm (codesF rs)) := by
  unfold stepF
  split
  · rename_i hl
    have hk := movedF_kept (circleF_mono h (b := p.1) (by omega)) (b := p.1) (e := p.2 + 1) (by omega) (by rw [circleF_len]; omega)
    refine ⟨hk.mono, by rw [hk.len, circleF_len]; omega, by rw [hk.len, circleF_len]; omega, hk.cl0.trans (circleF_cl0 (by omega)), fun h0 => ?_⟩
    rw [h0] at hl; cases hl
  · have hk := movedF_kept h hb he
    exact ⟨hk.mono, by rw [hk.len]; exact Nat.le_refl _, by rw [hk.len]; omega, hk.cl0, fun _ => hk.codes⟩
theorem foldF_kept {hc : Bool} {cs : List Int} : ∀ (ps : List (Nat × Nat)) (rs : List Row), Mono rs → (∀ p ∈ ps, p.1 < p.2 ∧ p.2 ≤ rs.length) →
    Mono (ps.foldl (stepF hc cs) rs) ∧ rs.length ≤ (ps.foldl (stepF hc cs) rs).length ∧ (ps.foldl (stepF hc cs) rs).length ≤ rs.length + ps.length ∧ clF (ps.foldl (stepF hc cs) rs) 0 = clF rs 0 ∧ (hc = false → (codesF (ps.foldl (stepF hc cs) rs)).Perm (codesF rs))
  | [], rs, h, _ => ⟨h, Nat.le_refl _, Nat.le_refl _, rfl, fun _ => .refl _⟩
  | p :: ps, rs, h, hp => by
    obtain ⟨h1, h2⟩ := hp p List.mem_cons_self
    obtain ⟨a1, a2, a3, a4, a5⟩ := stepF_kept (hc := hc) (cs := cs) h h1 h2
    obtain ⟨b1, b2, b3, b4, b5⟩ := foldF_kept (hc := hc) (cs := cs) ps _ a1 fun q hq => by have := hp q (List.mem_cons_of_mem _ hq); omega
    rw [List.foldl_cons, List.length_cons]
    exact ⟨b1, by omega, by omega, b4.trans a4, fun h0 => (b5 h0).trans (a5 h0)⟩
theorem allF_kept {hc : Bool} {rs : List Row} (h : Mono rs) : Mono (allF hc rs) ∧ (allF hc rs).length ≤ 2 * rs.length ∧ clF (allF hc rs) 0 = clF rs 0 ∧ (hc = false → (codesF (allF hc rs)).Perm (codesF rs)) ∧ rs.length ≤ (allF hc rs).length := by
  obtain ⟨s1, s2⟩ := syls_ok (codesF rs)
  rw [codesF_len] at s1 s2
  have := foldF_kept (hc := hc) (cs := codesF rs) (syls (codesF rs)).reverse rs h fun p hp => s1 p (List.mem_reverse.mp hp)
  rw [List.length_reverse] at this
  unfold allF
  exact ⟨this.1, by omega, this.2.2.2.1, this.2.2.2.2, this.2.1⟩

noncomputable def infoD (r : Row) : List (Str × Value) := [("code", .int r.code 0), ("glyph", .int r.glyph 0), ("cluster", .int r.cluster 0), ("mask", .int r.mask 0), ("is_unsafe", .bool false), ("lig_id", .int 0 0), ("lig_part", .int 0 0), ("lig_count", .int 0 0), ("split_id", .int 0 0),
  ("kind", .str r.kind 0), ("x_advance", .int 0 0), ("y_advance", .int 0 0), ("x_offset", .int 0 0), ("y_offset", .int 0 0), ("parent", .int 0 0), ("bond", .str "" 0)]
noncomputable def bufD (l : Addr) : List (Str × Value) := [("row", .ref l), ("is_backward", .bool false), ("last_lig", .int 0 0), ("last_split", .int 0 0)]

section
variable {W : Wd} {X : Addr → Prop} {A : Around} {σ : NH} {s : Shared} {d : Nat} {env : Env} {ρ : Loc} {Q : Value → NH → Prop} {K : Flow → Loc → NH → Prop}

theorem AI_code : AttrOK W 52 "code" := ⟨by rfl, by rfl, by rfl, by rfl, by rfl⟩
theorem AI_glyph : AttrOK W 52 "glyph" := ⟨by rfl, by rfl, by rfl, by rfl, by rfl⟩
theorem AI_cluster : AttrOK W 52 "cluster" := ⟨by rfl, by rfl, by rfl, by rfl, by rfl⟩
theorem AI_mask : AttrOK W 52 "mask" := ⟨by rfl, by rfl, by rfl, by rfl, by rfl⟩
theorem AI_is_unsafe : AttrOK W 52 "is_unsafe" := ⟨by rfl, by rfl, by rfl, by rfl, by rfl⟩
theorem AI_lig_id : AttrOK W 52 "lig_id" := ⟨by rfl, by rfl, by rfl, by rfl, by rfl⟩
theorem AI_lig_part : AttrOK W 52 "lig_part" := ⟨by rfl, by rfl, by rfl, by rfl, by rfl⟩
theorem AI_lig_count : AttrOK W 52 "lig_count" := ⟨by rfl, by rfl, by rfl, by rfl, by rfl⟩
theorem AI_split_id : AttrOK W 52 "split_id" := ⟨by rfl, by rfl, by rfl, by rfl, by rfl⟩
theorem AI_kind : AttrOK W 52 "kind" := ⟨by rfl, by rfl, by rfl, by rfl, by rfl⟩
theorem AI_x_advance : AttrOK W 52 "x_advance" := ⟨by rfl, by rfl, by rfl, by rfl, by rfl⟩
theorem AI_y_advance : AttrOK W 52 "y_advance" := ⟨by rfl, by rfl, by rfl, by rfl, by rfl⟩
theorem AI_x_offset : AttrOK W 52 "x_offset" := ⟨by rfl, by rfl, by rfl, by rfl, by rfl⟩
theorem AI_y_offset : AttrOK W 52 "y_offset" := ⟨by rfl, by rfl, by rfl, by rfl, by rfl⟩
theorem AI_parent : AttrOK W 52 "parent" := ⟨by rfl, by rfl, by rfl, by rfl, by rfl⟩
theorem AI_bond : AttrOK W 52 "bond" := ⟨by rfl, by rfl, by rfl, by rfl, by rfl⟩
theorem AB_row : AttrOK W 103 "row" := ⟨by rfl, by rfl, by rfl, by rfl, by rfl⟩
theorem AB_is_backward : AttrOK W 103 "is_backward" := ⟨by rfl, by rfl, by rfl, by rfl, by rfl⟩
theorem AB_last_lig : AttrOK W 103 "last_lig" := ⟨by rfl, by rfl, by rfl, by rfl, by rfl⟩
theorem AB_last_split : AttrOK W 103 "last_split" := ⟨by rfl, by rfl, by rfl, by rfl, by rfl⟩
theorem map_four {us : List Value} {x y z t : Value} (h : us.map nz = [x, y, z, t]) : ∃ a b c e, us = [a, b, c, e] ∧ nz a = x ∧ nz b = y ∧ nz c = z ∧ nz e = t := by
  cases us with
  | nil => cases h
  | cons u r =>
    rw [List.map_cons, List.cons.injEq] at h
    obtain ⟨v, w, q, rfl, h1, h2, h3⟩ := map_three h.2
    exact ⟨u, v, w, q, rfl, h.1, h1, h2, h3⟩
theorem FC_fn4 {f : Addr} (F : FnAt f) (x y z q : Str) {v w t r : Value} (hb : ∀ u u' u'' u''' s, Inv W σ s → BindsTo s F.fd ⟨[u, u', u'', u'''], []⟩ [(x, u), (y, u'), (z, u''), (q, u''')]) (hn : okNames F.fd.scope.names [x, y, z, q] = true)
    (h : ∀ L, SC W d (EN F L) (execs F.body (EN F L)) [(x, v), (y, w), (z, t), (q, r)] σ (fun fl _ σ' => Q (match fl with | .ret v => v | _ => .none) σ')) : FC W (d + 1) (.ref f) [v, w, t, r] σ Q := by
  refine FC_fn F (nb := [(x, v), (y, w), (z, t), (q, r)]) (fun vs => [(x, vs.getD 0 .none), (y, vs.getD 1 .none), (z, vs.getD 2 .none), (q, vs.getD 3 .none)]) ?_ ?_ hn h
  · intro vs s e i
    obtain ⟨u, u', u'', u''', rfl, _⟩ := map_four e
    exact hb u u' u'' u''' s i
  · intro vs e
    obtain ⟨u, u', u'', u''', rfl, h1, h2, h3, h4⟩ := map_four e
    simp [h1, h2, h3, h4]

theorem EV_nattr {x name : Str} {p pos : Pos} {a C dd : Addr} {m : List (Str × Value)} {u : Value} (hk : env.kindOf x = some .local) (hv : ρ.lookup x = some (.ref a)) (h1 : σ a = some (.inst C dd)) (h2 : σ dd = some (.dct m)) (ok : AttrOK W C name)
    (hm : m.lookup name = some u) (hh : handedIn u = true) (h : Q u σ) (hd : (x == ("__debug__" : Str)) = false := by decide) (hb : attributeBase (.Name x p) name env (eval (.Name x p) env) = eval (.Name x p) env := by rfl) : EV W d env (eval (.Attribute (.Name x p) name pos) env) ρ σ Q :=
  EV_attr (EV_local hk hv ⟨_, _, _, _, _, rfl, h1, h2, ok, hm, hh, h⟩ hd) hb
theorem AC_nattr {x name : Str} {p pos : Pos} {a C dd : Addr} {m : List (Str × Value)} {v : Value} {L : Loc → NH → Prop} (hk : env.kindOf x = some .local) (hv : ρ.lookup x = some (.ref a)) (h1 : σ a = some (.inst C dd)) (h2 : σ dd = some (.dct m)) (ok : AttrOK W C name)
    (hlen : Nat.ble m.length 900 = true) (h : L ρ (σ.set dd (.dct (putA name v m)))) (hd : (x == ("__debug__" : Str)) = false := by decide) : AC W d env (assign (.Attribute (.Name x p) name pos) env) v ρ σ L :=
  AC_attr (EV_local hk hv ⟨_, _, _, _, rfl, h1, h2, ok, Nat.le_of_ble_eq_true hlen, h⟩ hd)

theorem AC_nattrS {x name : Str} {p pos : Pos} {a C dd : Addr} {m : List (Str × Value)} {v : Value} {L : Loc → NH → Prop} (h1 : σ a = some (.inst C dd)) (hne : a ≠ dd) (hk : env.kindOf x = some .local) (hv : ρ.lookup x = some (.ref a)) (ok : AttrOK W C name)
    (hlen : Nat.ble m.length 900 = true) (h : L ρ (σ.set dd (.dct (putA name v m)))) (hd : (x == ("__debug__" : Str)) = false := by decide) : AC W d env (assign (.Attribute (.Name x p) name pos) env) v ρ (σ.set dd (.dct m)) L :=
  AC_nattr hk hv (by rw [NH.set_ne _ _ hne]; exact h1) (NH.set_self _ _ _) ok hlen (by rw [NH.set_set]; exact h) hd

noncomputable def InfoAt (σ : NH) (a dd : Addr) (r : Row) : Prop := σ a = some (.inst 52 dd) ∧ σ dd = some (.dct (infoD r))

theorem FC_Info_init {c g cl : Int} {x dd : Addr} (h1 : σ x = some (.inst 52 dd)) (hne : x ≠ dd) (h : Q .none (σ.set dd (.dct (infoD ⟨c, cl, 0, g, ""⟩)))) : FC W (d+1) (.ref 35) [.ref x, .int c 0, .int g 0, .int cl 0] (σ.set dd (.dct [])) Q := by
  refine FC_fn4 F35 "self" "code" "glyph" "cluster" (fun _ _ _ _ _ _ => BindsTo.of_eq rfl) (by rfl) ?_
  intro L
  let env := EN F35 L
  show SC _ _ env (execs F35.body env) _ _ _
  dsimp only [F35]
  walk_at "m_go"
  refine AC_nattrS h1 hne (by rfl) (by rfl) AI_code (by rfl) ?_
  walk_at "m_go"
  refine AC_nattrS h1 hne (by rfl) (by rfl) AI_glyph (by rfl) ?_
  walk_at "m_go"
  refine AC_nattrS h1 hne (by rfl) (by rfl) AI_cluster (by rfl) ?_
  walk_at "m_go"
  refine AC_nattrS h1 hne (by rfl) (by rfl) AI_mask (by rfl) ?_
  walk_at "m_go"
  refine AC_nattrS h1 hne (by rfl) (by rfl) AI_is_unsafe (by rfl) ?_
  walk_at "m_go"
  refine AC_nattrS h1 hne (by rfl) (by rfl) AI_lig_id (by rfl) ?_
  walk_at "m_go"
  refine AC_nattrS h1 hne (by rfl) (by rfl) AI_lig_part (by rfl) ?_
  walk_at "m_go"
  refine AC_nattrS h1 hne (by rfl) (by rfl) AI_lig_count (by rfl) ?_
  walk_at "m_go"
  refine AC_nattrS h1 hne (by rfl) (by rfl) AI_split_id (by rfl) ?_
  walk_at "m_go"
  refine AC_nattrS h1 hne (by rfl) (by rfl) AI_kind (by rfl) ?_
  walk_at "m_go"
  refine AC_nattrS h1 hne (by rfl) (by rfl) AI_x_advance (by rfl) ?_
  walk_at "m_go"
  refine AC_nattrS h1 hne (by rfl) (by rfl) AI_y_advance (by rfl) ?_
  walk_at "m_go"
  refine AC_nattrS h1 hne (by rfl) (by rfl) AI_x_offset (by rfl) ?_
  walk_at "m_go"
  refine AC_nattrS h1 hne (by rfl) (by rfl) AI_y_offset (by rfl) ?_
  walk_at "m_go"
  refine AC_nattrS h1 hne (by rfl) (by rfl) AI_parent (by rfl) ?_
  walk_at "m_go"
  refine AC_nattrS h1 hne (by rfl) (by rfl) AI_bond (by rfl) ?_
  walk_at "m_go"
  exact h
theorem FC_Info {c g cl : Int} (h : ∀ x dd, σ x = none → σ dd = none → x ≠ dd → Q (.ref x) ((σ.set x (.inst 52 dd)).set dd (.dct (infoD ⟨c, cl, 0, g, ""⟩)))) : FC W (d+2) (.ref 52) [.int c 0, .int g 0, .int cl 0] σ Q := by
  refine FC_new (fI := 35) (by rfl) (by rfl) (by rfl) fun x dd hx hd hne => ?_
  rw [NH.set_comm (Ne.symm hne)]
  exact FC_Info_init (NH.set_self _ _ _) hne ⟨rfl, h x dd hx hd hne⟩

theorem FC_copied {a da : Addr} {r : Row} (hI : InfoAt σ a da r) (h : ∀ x dd, σ x = none → σ dd = none → x ≠ dd → Q (.ref x) ((σ.set x (.inst 52 dd)).set dd (.dct (infoD r)))) : FC W (d+3) (.ref 42) [.ref a] σ Q := by
  refine FC_fn1 F42 "self" (fun _ _ _ => BindsTo.of_eq rfl) (by rfl) ?_
  intro L
  let env := EN F42 L
  show SC _ _ env (execs F42.body env) _ _ _
  dsimp only [F42]
  obtain ⟨i1, i2⟩ := hI
  walk_at "m_go"
  refine EV_nattr (by rfl) (by rfl) i1 i2 AI_code (by rfl) (by rfl) ?_
  walk_at "m_go"
  refine EV_nattr (by rfl) (by rfl) i1 i2 AI_glyph (by rfl) (by rfl) ?_
  walk_at "m_go"
  refine EV_nattr (by rfl) (by rfl) i1 i2 AI_cluster (by rfl) (by rfl) ?_
  walk_at "m_go"
  refine FC_Info fun x dd hx hd hne => ?_
  have h0 : (σ.set x (.inst 52 dd)) x = some (.inst 52 dd) := NH.set_self _ _ _
  have le1 := NH.le_set _ (.inst 52 dd) hx
  have hd' : (σ.set x (.inst 52 dd)) dd = none := by rw [NH.set_ne _ _ (Ne.symm hne)]; exact hd
  have j1 : ∀ o, ((σ.set x (.inst 52 dd)).set dd o) a = some (.inst 52 da) := fun o => NH.set_old hd' (le1 _ _ i1)
  have j2 : ∀ o, ((σ.set x (.inst 52 dd)).set dd o) da = some (.dct (infoD r)) := fun o => NH.set_old hd' (le1 _ _ i2)
  walk_at "m_go"
  refine EV_nattr (by rfl) (by rfl) (j1 _) (j2 _) AI_mask (by rfl) (by rfl) ?_
  refine AC_nattrS h0 hne (by rfl) (by rfl) AI_mask (by rfl) ?_
  walk_at "m_go"
  refine EV_nattr (by rfl) (by rfl) (j1 _) (j2 _) AI_is_unsafe (by rfl) (by rfl) ?_
  refine AC_nattrS h0 hne (by rfl) (by rfl) AI_is_unsafe (by rfl) ?_
  walk_at "m_go"
  refine EV_nattr (by rfl) (by rfl) (j1 _) (j2 _) AI_lig_id (by rfl) (by rfl) ?_
  refine AC_nattrS h0 hne (by rfl) (by rfl) AI_lig_id (by rfl) ?_
  walk_at "m_go"
  refine EV_nattr (by rfl) (by rfl) (j1 _) (j2 _) AI_lig_part (by rfl) (by rfl) ?_
  refine AC_nattrS h0 hne (by rfl) (by rfl) AI_lig_part (by rfl) ?_
  walk_at "m_go"
  refine EV_nattr (by rfl) (by rfl) (j1 _) (j2 _) AI_lig_count (by rfl) (by rfl) ?_
  refine AC_nattrS h0 hne (by rfl) (by rfl) AI_lig_count (by rfl) ?_
  walk_at "m_go"
  refine EV_nattr (by rfl) (by rfl) (j1 _) (j2 _) AI_split_id (by rfl) (by rfl) ?_
  refine AC_nattrS h0 hne (by rfl) (by rfl) AI_split_id (by rfl) ?_
  walk_at "m_go"
  refine EV_nattr (by rfl) (by rfl) (j1 _) (j2 _) AI_kind (by rfl) (by rfl) ?_
  refine AC_nattrS h0 hne (by rfl) (by rfl) AI_kind (by rfl) ?_
  walk_at "m_go"
  refine EV_nattr (by rfl) (by rfl) (j1 _) (j2 _) AI_x_advance (by rfl) (by rfl) ?_
  refine AC_nattrS h0 hne (by rfl) (by rfl) AI_x_advance (by rfl) ?_
  walk_at "m_go"
  refine EV_nattr (by rfl) (by rfl) (j1 _) (j2 _) AI_y_advance (by rfl) (by rfl) ?_
  refine AC_nattrS h0 hne (by rfl) (by rfl) AI_y_advance (by rfl) ?_
  walk_at "m_go"
  refine EV_nattr (by rfl) (by rfl) (j1 _) (j2 _) AI_x_offset (by rfl) (by rfl) ?_
  refine AC_nattrS h0 hne (by rfl) (by rfl) AI_x_offset (by rfl) ?_
  walk_at "m_go"
  refine EV_nattr (by rfl) (by rfl) (j1 _) (j2 _) AI_y_offset (by rfl) (by rfl) ?_
  refine AC_nattrS h0 hne (by rfl) (by rfl) AI_y_offset (by rfl) ?_
  walk_at "m_go"
  refine EV_nattr (by rfl) (by rfl) (j1 _) (j2 _) AI_parent (by rfl) (by rfl) ?_
  refine AC_nattrS h0 hne (by rfl) (by rfl) AI_parent (by rfl) ?_
  walk_at "m_go"
  refine EV_nattr (by rfl) (by rfl) (j1 _) (j2 _) AI_bond (by rfl) (by rfl) ?_
  refine AC_nattrS h0 hne (by rfl) (by rfl) AI_bond (by rfl) ?_
  walk_at "m_go"
  exact h x dd hx hd hne

theorem FC_set_cluster {a da : Addr} {r : Row} {k : Int} (hI : InfoAt σ a da r) (h : Q .none (σ.set da (.dct (infoD { r with cluster := k })))) : FC W (d+1) (.ref 120) [.ref a, .int k 0] σ Q := by
  refine FC_fn2 F120 "info" "cluster" (fun _ _ _ _ => BindsTo.of_eq rfl) (by rfl) ?_
  intro L
  let env := EN F120 L
  show SC _ _ env (execs F120.body env) _ _ _
  dsimp only [F120]
  obtain ⟨i1, i2⟩ := hI
  have hne : a ≠ da := by rintro rfl; rw [i1] at i2; cases i2
  walk_at "m_go"
  refine EV_nattr (by rfl) (by rfl) i1 i2 AI_cluster (by rfl) (by rfl) ?_
  walk_at "m_go"
  refine ite_b (fun c => ?_) (fun c => ?_)
  · walk_at "m_go"
    refine AC_nattr (by rfl) (by rfl) i1 i2 AI_cluster (by rfl) ?_
    walk_at "m_go"
    refine AC_nattrS i1 hne (by rfl) (by rfl) AI_is_unsafe (by rfl) ?_
    walk_at "m_go"
    exact h
  · walk_at "m_go"
    have e : r.cluster = k := by simpa using c
    subst e
    rw [NH.set_same i2] at h
    exact h

theorem FC_Buffer {l : Addr} (h : ∀ x dd, σ x = none → σ dd = none → x ≠ dd → Q (.ref x) ((σ.set x (.inst 103 dd)).set dd (.dct (bufD l)))) : FC W (d+2) (.ref 103) [.ref l, .bool false] σ Q := by
  refine FC_new (fI := 71) (by rfl) (by rfl) (by rfl) fun x dd hx hd hne => ?_
  rw [NH.set_comm (Ne.symm hne)]
  refine FC_fn3 F71 "self" "infos" "is_backward" (fun _ _ _ _ i => BindsTo.of_defaults rfl (i.KI 64 _ rfl) rfl rfl rfl) (by rfl) ?_
  intro L
  let env := EN F71 L
  show SC _ _ env (execs F71.body env) _ _ _
  dsimp only [F71]
  have h1 : (σ.set x (.inst 103 dd)) x = some (.inst 103 dd) := NH.set_self _ _ _
  walk_at "m_go"
  refine AC_nattrS h1 hne (by rfl) (by rfl) AB_row (by rfl) ?_
  walk_at "m_go"
  refine AC_nattrS h1 hne (by rfl) (by rfl) AB_is_backward (by rfl) ?_
  walk_at "m_go"
  refine AC_nattrS h1 hne (by rfl) (by rfl) AB_last_lig (by rfl) ?_
  walk_at "m_go"
  refine AC_nattrS h1 hne (by rfl) (by rfl) AB_last_split (by rfl) ?_
  walk_at "m_go"
  exact ⟨rfl, h x dd hx hd hne⟩
end

structure Cell where
  a : Addr
  d : Addr
  r : Row
noncomputable def cell0 : Cell := ⟨0, 0, row0⟩
noncomputable def cellV (cells : List Cell) : List Value := cells.map fun c => .ref c.a
noncomputable def rowsC (cells : List Cell) : List Row := cells.map (·.r)
structure Cells (σ : NH) (cells : List Cell) : Prop where
  at_ : ∀ c ∈ cells, InfoAt σ c.a c.d c.r
  nd : (cells.map (·.d)).Nodup

noncomputable def FrD (σ σ' : NH) (cells : List Cell) : Prop := ∀ x o, σ x = some o → (∀ c ∈ cells, x ≠ c.d) → σ' x = some o
theorem cellV_get {cells : List Cell} {i : Nat} (h : i < cells.length) : (cellV cells)[i]? = some (.ref cells[i].a) := by
  unfold cellV; rw [List.getElem?_map, List.getElem?_eq_getElem h]; rfl
theorem cellV_len (cells : List Cell) : (cellV cells).length = cells.length := by simp [cellV]
theorem rowsC_len (cells : List Cell) : (rowsC cells).length = cells.length := by simp [rowsC]
theorem rowsC_cl {cells : List Cell} {i : Nat} (h : i < cells.length) : clF (rowsC cells) i = cells[i].r.cluster := by
  rw [clF_get (by rw [rowsC_len]; exact h)]; simp [rowsC]
theorem Cells.get {σ : NH} {cells : List Cell} (h : Cells σ cells) {i : Nat} (hi : i < cells.length) : InfoAt σ cells[i].a cells[i].d cells[i].r := h.at_ _ (List.getElem_mem hi)
theorem Cells.le {σ τ : NH} {cells : List Cell} (h : Cells σ cells) (k : σ.le τ) : Cells τ cells := ⟨fun c hc => ⟨k _ _ (h.at_ c hc).1, k _ _ (h.at_ c hc).2⟩, h.nd⟩
theorem cellV_at {cells : List Cell} {i : Nat} {v : Value} (h : (cellV cells)[i]? = some v) : ∃ c, cells[i]? = some c ∧ v = .ref c.a := by
  unfold cellV at h
  rw [List.getElem?_map] at h
  obtain ⟨a, h1, h2⟩ := Option.map_eq_some_iff.mp h
  exact ⟨a, h1, h2.symm⟩

section
variable {W : Wd} {X : Addr → Prop} {A : Around} {σ : NH} {s : Shared} {d : Nat} {env : Env} {ρ : Loc} {Q : Value → NH → Prop} {K : Flow → Loc → NH → Prop}

theorem FC_widened {cells : List Cell} {l : Addr} {z y : Int} (b e : Nat) (hz : z = b) (hy : y = e) (hb : b < e) (he : e ≤ cells.length) (hlen : cells.length < 1000000) (hl : σ l = some (.list (cellV cells))) (hc : Cells σ cells)
    (h : ∀ f g t : Nat, f ≤ b → e ≤ g → g ≤ cells.length → (∀ i, f ≤ i → i < b → clF (rowsC cells) i = clF (rowsC cells) b) → (∀ i, e ≤ i → i < g → clF (rowsC cells) i = clF (rowsC cells) (e - 1)) →
      (f = 0 ∨ clF (rowsC cells) (f - 1) ≠ clF (rowsC cells) b) → (g = (rowsC cells).length ∨ clF (rowsC cells) g ≠ clF (rowsC cells) (e - 1)) → σ t = none → Q (.ref t) (σ.set t (.tup [.int f 0, .int g 0]))) :
    FC W (d+1) (.ref 127) [.ref l, .int z 0, .int y 0] σ Q := by
  refine FC_fn3 F127 "row" "begin" "end" (fun _ _ _ _ _ => BindsTo.of_eq rfl) (by rfl) ?_
  intro L
  let env := EN F127 L
  show SC _ _ env (execs F127.body env) _ _ _
  dsimp only [F127]
  subst hz hy
  walk_at "m_go"
  refine SC.sub (l := [("row", .ref l), ("first", .int b 0), ("behind", .int e 0)]) (by walk_at "m_sub") ?_
  refine S_while (fun n ρ' σ' => σ = σ' ∧ ∃ g : Nat, Sub ρ' [("row", .ref l), ("first", .int b 0), ("behind", .int g 0)] ∧ e ≤ g ∧ g ≤ cells.length ∧ (∀ i, e ≤ i → i < g → clF (rowsC cells) i = clF (rowsC cells) (e - 1)) ∧ cells.length - g < n) (cells.length + 1)
    ⟨rfl, e, by walk_at "m_sub", Nat.le_refl _, he, fun i h1 h2 => by omega, by omega⟩ ?_
  rintro n ρ' _ ⟨rfl, g, hsub, hg1, hg2, hg3, hn⟩
  have hprev : clF (rowsC cells) (g - 1) = clF (rowsC cells) (e - 1) := by
    rcases Nat.lt_or_eq_of_le hg1 with h1 | h1
    · exact hg3 (g - 1) (by omega) (by omega)
    · rw [h1]
  
  have second : (g = (rowsC cells).length ∨ clF (rowsC cells) g ≠ clF (rowsC cells) (e - 1)) → SE W d env (List.drop 3 F127.body) ρ' σ (fun fl x σ' => Q (match fl with | .ret v => v | _ => .none) σ') := by
    intro hstop
    show SE W d env (List.drop 3 F127.body) _ _ _
    dsimp only [F127, List.drop]
    refine SC.sub hsub ?_
    refine S_while (fun n ρ' σ' => σ = σ' ∧ ∃ f : Nat, Sub ρ' [("row", .ref l), ("first", .int f 0), ("behind", .int g 0)] ∧ f ≤ b ∧ (∀ i, f ≤ i → i < b → clF (rowsC cells) i = clF (rowsC cells) b) ∧ f < n) (b + 1)
      ⟨rfl, b, by walk_at "m_sub", Nat.le_refl _, fun i h1 h2 => by omega, by omega⟩ ?_
    rintro n ρ' _ ⟨rfl, f, hsub, hf1, hf2, hn⟩
    have hcur : clF (rowsC cells) f = clF (rowsC cells) b := by
      rcases Nat.lt_or_eq_of_le hf1 with h1 | h1
      · exact hf2 f (Nat.le_refl _) h1
      · rw [h1]
    refine EC.sub hsub ?_
    walk_at "m_go"
    refine ite_b (fun c => ?_) (fun c => ?_)
    · have hf : 0 < f := by simpa using c
      walk_at "m_go"
      have i1 := hc.get (i := f - 1) (by omega)
      have i2 := hc.get (i := f) (by omega)
      refine EV_attr (EV_item ?_)
      walk_at "m_go"
      refine ⟨_, _, _, _, rfl, hl, rfl, by omega, by omega, (by rw [show ((f : Int) - 1).toNat = f - 1 by omega]; exact cellV_get (by omega)), ⟨_, _, _, _, _, rfl, i1.1, i1.2, AI_cluster, rfl, rfl, ?_⟩⟩
      walk_at "m_go"
      refine EV_attr (EV_item ?_)
      walk_at "m_go"
      refine ⟨_, _, _, _, rfl, hl, rfl, by omega, by omega, (by rw [show ((f : Int)).toNat = f by omega]; exact cellV_get (by omega)), ⟨_, _, _, _, _, rfl, i2.1, i2.2, AI_cluster, rfl, rfl, ?_⟩⟩
      walk_at "m_go"
      refine ite_b (fun c2 => ?_) (fun c2 => ?_)
      · have c2' : clF (rowsC cells) (f - 1) = clF (rowsC cells) f := by rw [rowsC_cl (by omega), rowsC_cl (by omega)]; simpa using c2
        refine SC.sub hsub ?_
        walk_at "m_go"
        refine ⟨f, hn, rfl, f - 1, ?_, by omega, fun i h1 h2 => ?_, by omega⟩
        · refine Sub.cons (by rfl) (Sub.cons ?_ (Sub.cons (by rfl) Sub.nil))
          show some (Value.int ((f : Int) - 1) 0) = _
          congr 2; omega
        · rcases Nat.lt_or_eq_of_le h1 with h3 | h3
          · exact hf2 i (by omega) h2
          · rw [← h3, c2', hcur]
      · have c2' : clF (rowsC cells) (f - 1) ≠ clF (rowsC cells) b := by rw [← hcur, rowsC_cl (by omega), rowsC_cl (by omega)]; simpa using c2
        refine SC.sub hsub ?_
        walk_at "m_go"
        refine ⟨by simp, fun t ht => ?_⟩
        exact h f g t hf1 hg1 hg2 hf2 hg3 (.inr c2') hstop ht
    · have hf : f = 0 := by simp at c; omega
      rw [if_neg (by decide)]
      refine SC.sub hsub ?_
      walk_at "m_go"
      refine ⟨by simp, fun t ht => ?_⟩
      exact h f g t hf1 hg1 hg2 hf2 hg3 (.inl hf) hstop ht
  refine EC.sub hsub ?_
  walk_at "m_go"
  refine CB_len hl (by rw [cellV_len]; exact hlen) ?_
  walk_at "m_go"
  refine ite_b (fun c => ?_) (fun c => ?_)
  · have hg : g < cells.length := by rw [cellV_len] at c; simp at c; omega
    walk_at "m_go"
    have i1 := hc.get (i := g) hg
    have i2 := hc.get (i := g - 1) (by omega)
    refine EV_attr (EV_item ?_)
    walk_at "m_go"
    refine ⟨_, _, _, _, rfl, hl, rfl, by omega, by omega, (by rw [show ((g : Int)).toNat = g by omega]; exact cellV_get (by omega)), ⟨_, _, _, _, _, rfl, i1.1, i1.2, AI_cluster, rfl, rfl, ?_⟩⟩
    walk_at "m_go"
    refine EV_attr (EV_item ?_)
    walk_at "m_go"
    refine ⟨_, _, _, _, rfl, hl, rfl, by omega, by omega, (by rw [show ((g : Int) - 1).toNat = g - 1 by omega]; exact cellV_get (by omega)), ⟨_, _, _, _, _, rfl, i2.1, i2.2, AI_cluster, rfl, rfl, ?_⟩⟩
    walk_at "m_go"
    refine ite_b (fun c2 => ?_) (fun c2 => ?_)
    · have c2' : clF (rowsC cells) g = clF (rowsC cells) (g - 1) := by rw [rowsC_cl (by omega), rowsC_cl (by omega)]; simpa using c2
      refine SC.sub hsub ?_
      walk_at "m_go"
      refine ⟨cells.length - g, by omega, rfl, g + 1, by walk_at "m_sub", by omega, by omega, fun i h1 h2 => ?_, by omega⟩
      rcases Nat.lt_or_eq_of_le (show i ≤ g by omega) with h3 | h3
      · exact hg3 i h1 h3
      · rw [h3, c2', hprev]
    · have c2' : clF (rowsC cells) g ≠ clF (rowsC cells) (e - 1) := by rw [← hprev, rowsC_cl (by omega), rowsC_cl (by omega)]; simpa using c2
      exact second (.inr c2')
  · have hg : g = cells.length := by rw [cellV_len] at c; simp at c; omega
    rw [if_neg (by decide)]
    exact second (.inl (by rw [rowsC_len]; exact hg))
end

structure BufAt (σ : NH) (b bd l : Addr) (cells : List Cell) : Prop where
  b : σ b = some (.inst 103 bd)
  bd : σ bd = some (.dct (bufD l))
  l : σ l = some (.list (cellV cells))
  c : Cells σ cells
noncomputable def mrgC (lo hi : Int) (c : Cell) : Cell := { c with r := mrgR lo hi c.r }
theorem sliceL_cell (cells : List Cell) (g e : Nat) : sliceL (cellV cells) (some g) (some e) = cellV ((cells.take e).drop g) := by
  simp [sliceL, cellV, List.map_take, List.map_drop]
theorem slice_get {α : Type} {l : List α} {g e i : Nat} {c : α} (h : ((l.take e).drop g)[i]? = some c) : g + i < e ∧ l[g + i]? = some c := by
  rw [List.getElem?_drop, List.getElem?_take] at h
  split at h
  · exact ⟨by assumption, h⟩
  · cases h
theorem slice_len {α : Type} (l : List α) {g e : Nat} (he : e ≤ l.length) : ((l.take e).drop g).length = e - g := by
  rw [List.length_drop, List.length_take, Nat.min_eq_left he]
theorem nodup_d {cells : List Cell} (h : (cells.map (·.d)).Nodup) {i j : Nat} (hi : i < cells.length) (hj : j < cells.length) (hne : i ≠ j) : cells[i].d ≠ cells[j].d := by
  intro e
  rw [List.nodup_iff_pairwise_ne, List.pairwise_iff_getElem] at h
  rcases Nat.lt_or_gt_of_ne hne with h1 | h1
  · exact h i j (by simpa using hi) (by simpa using hj) h1 (by simpa using e)
  · exact h j i (by simpa using hj) (by simpa using hi) h1 (by simpa using e.symm)
theorem Cells.other {σ : NH} {cells : List Cell} (h : Cells σ cells) {x : Addr} {o : NO} (hx : σ x = some o) (ho : ∀ r, o ≠ .dct (infoD r)) : ∀ c ∈ cells, x ≠ c.d := fun c hc e => by
  have := (h.at_ c hc).2
  rw [← e, hx] at this
  cases this
  exact ho _ rfl
theorem buf_ne_info (l : Addr) (r : Row) : NO.dct (bufD l) ≠ .dct (infoD r) := by
  intro h; injection h with h
  have := congrArg List.length h
  simp [bufD, infoD] at this

section
variable {W : Wd} {X : Addr → Prop} {A : Around} {σ : NH} {s : Shared} {d : Nat} {env : Env} {ρ : Loc} {Q : Value → NH → Prop} {K : Flow → Loc → NH → Prop}

theorem FC_merge {cells : List Cell} {b bd l : Addr} {z y : Int} (g last : Nat) (hz : z = g) (hy : y = last) (hg : g < last) (hlast : last ≤ cells.length) (hlen : cells.length < 1000000) (hb : BufAt σ b bd l cells) (hm : Mono (rowsC cells))
    (h : ∀ σ', Cells σ' (cells.map (mrgC (clF (rowsC cells) g) (clF (rowsC cells) (last - 1)))) → FrD σ σ' cells → Q .none σ') : FC W (d+3) (.ref 132) [.ref b, .int z 0, .int y 0] σ Q := by
  refine FC_fn3 F132 "buffer" "begin" "end" (fun _ _ _ _ _ => BindsTo.of_eq rfl) (by rfl) ?_
  intro L
  let env := EN F132 L
  show SC _ _ env (execs F132.body env) _ _ _
  dsimp only [F132]
  subst hz hy
  walk_at "m_go"
  refine ite_b (fun c => ?_) (fun c => ?_)
  · have e1 : last = g + 1 := by simp at c; omega
    subst e1
    walk_at "m_go"
    refine h σ ?_ fun x o hx _ => hx
    have : cells.map (mrgC (clF (rowsC cells) g) (clF (rowsC cells) (g + 1 - 1))) = cells := by
      rw [Nat.add_sub_cancel]
      conv => rhs; rw [← List.map_id cells]
      apply List.map_congr_left
      intro c _
      unfold mrgC
      rw [mrgR_self (by omega)]; rfl
    rw [this]; exact hb.c
  walk_at "m_go"
  refine EV_comp (CompOK.of (by rfl) rfl rfl rfl) (IV_src (EV_slice ?_))
  refine EV_nattr (by rfl) (by rfl) hb.b hb.bd AB_row (by rfl) (by rfl) ?_
  refine EO_some ?_
  walk_at "m_go"
  refine ⟨g, rfl, EO_some ?_⟩
  walk_at "m_go"
  refine ⟨last, rfl, l, _, rfl, hb.l, by rw [cellV_len]; exact hlen, fun L1 hL1 => ?_⟩
  rw [sliceL_cell]
  have le1 := NH.le_set _ (.list (cellV ((cells.take last).drop g))) hL1
  have hsl := NH.set_self σ L1 (.list (cellV ((cells.take last).drop g)))
  refine ⟨_, _, SrcV.list hsl, by rw [cellV_len, slice_len _ hlast]; omega, fun i ys σ' => σ.set L1 (.list (cellV ((cells.take last).drop g))) = σ' ∧ ys = intL (clsF (rowsC (((cells.take last).drop g).take i))), ⟨rfl, rfl⟩, fun i ys σ' hI => by rw [← hI.1]; exact hsl, ?_, ?_⟩
  · rintro C i v ys _ hx ⟨rfl, rfl⟩
    obtain ⟨c', hc', rfl⟩ := cellV_at hx
    have hmem : c' ∈ cells := List.mem_of_getElem? (slice_get hc').2
    have ii := (hb.c.le le1).at_ c' hmem
    refine CT_nil ?_
    refine ite_b (fun _ => ?_) (fun c => by cases c)
    refine EV_nattr (by rfl) (by rfl) ii.1 ii.2 AI_cluster (by rfl) (by rfl) ?_
    refine ⟨rfl, ?_⟩
    rw [take_snoc hc']; simp [rowsC, clsF, intL]
  rintro ys _ ⟨rfl, rfl⟩ D hD
  rw [cellV_len, List.take_length]
  walk_at "m_go"
  have le2 := NH.le_set (σ := σ.set L1 (.list (cellV ((cells.take last).drop g)))) (.list (intL (clsF (rowsC ((cells.take last).drop g))))) hD
  have hslg : ((cells.take last).drop g)[0]? = some cells[g] := by
    rw [List.getElem?_drop, List.getElem?_take, if_pos (by omega)]
    exact List.getElem?_eq_getElem (by omega)
  refine CB_min (NH.set_self _ _ _) (fun e => ?_) fun m hm1 hm2 => ?_
  · have := congrArg List.length e
    rw [clsF_len, rowsC_len, slice_len _ hlast] at this
    simp at this; omega
  have hmg : m = clF (rowsC cells) g := by
    have a1 : m ≤ clF (rowsC cells) g := hm2 _ (by
      rw [rowsC_cl (by omega)]
      exact List.mem_map.mpr ⟨_, List.mem_map.mpr ⟨_, List.mem_of_getElem? hslg, rfl⟩, rfl⟩)
    have a2 : clF (rowsC cells) g ≤ m := by
      obtain ⟨r, hr, rfl⟩ := List.mem_map.mp hm1
      obtain ⟨c', hc', rfl⟩ := List.mem_map.mp hr
      obtain ⟨i, hi⟩ := List.getElem?_of_mem hc'
      obtain ⟨k1, k2⟩ := slice_get hi
      have k3 := lt_of_get k2
      rw [List.getElem?_eq_getElem k3] at k2
      have := mono_get hm (i := g) (j := g + i) (by omega) (by rw [rowsC_len]; exact k3)
      rw [rowsC_cl k3, Option.some.inj k2] at this
      exact this
    omega
  refine AC_local (by rfl) (SC.le (NH.le_trans le1 le2) ?_)
  clear hm1 hm2 hD le2 hsl le1 hL1
  walk_at "m_go"
  refine EV_nattr (by rfl) (by rfl) hb.b hb.bd AB_row (by rfl) (by rfl) ?_
  walk_at "m_go"
  refine FC_widened g last rfl rfl hg hlast hlen hb.l hb.c fun f k t hf hk hk2 h4 h5 h6 h7 ht => ?_
  refine AC_tuple (NH.set_self _ _ _) ?_
  refine AC_local (by rfl) (AC_local (by rfl) (SC.le (NH.le_set _ _ ht) ?_))
  have idx := fun j hj => merge_idx hm hg (by rw [rowsC_len]; exact hlast) hf hk (by rw [rowsC_len]; exact hk2) h4 h5 h6 h7 (k := j) (by rw [rowsC_len]; exact hj)
  refine S_for (IV_src (EV_slice ?_))
  refine EV_nattr (by rfl) (by rfl) hb.b hb.bd AB_row (by rfl) (by rfl) ?_
  refine EO_some ?_
  walk_at "m_go"
  refine ⟨f, rfl, EO_some ?_⟩
  walk_at "m_go"
  refine ⟨k, rfl, l, _, rfl, hb.l, by rw [cellV_len]; exact hlen, fun L1 hL1 => ?_⟩
  rw [sliceL_cell]
  have le1 := NH.le_set _ (.list (cellV ((cells.take k).drop f))) hL1
  have hsl := NH.set_self σ L1 (.list (cellV ((cells.take k).drop f)))
  refine ⟨_, _, SrcV.list hsl, fun i ρ' σ' => Sub ρ' [("least_cluster", .int m 0)] ∧ σ' L1 = some (.list (cellV ((cells.take k).drop f))) ∧
    (∀ (j : Nat) (hj : j < cells.length), InfoAt σ' cells[j].a cells[j].d (if f ≤ j ∧ j < f + i then { cells[j].r with cluster := m } else cells[j].r)) ∧ FrD σ σ' cells, ⟨by walk_at "m_sub", hsl, ?_, ?_⟩, fun i ρ' σ' hI => hI.2.1, ?_, ?_⟩
  · intro j hj
    rw [if_neg (by omega)]
    exact (hb.c.le le1).get hj
  · intro x o hx _; exact le1 _ _ hx
  · rintro i v ρ' σ' hx ⟨hsub, hL, hin, hfr⟩
    obtain ⟨c', hc', rfl⟩ := cellV_at hx
    obtain ⟨k1, k2⟩ := slice_get hc'
    have k3 := lt_of_get k2
    rw [List.getElem?_eq_getElem k3] at k2
    obtain rfl := Option.some.inj k2
    have ii := hin (f + i) k3
    rw [if_neg (by omega)] at ii
    refine AC.sub hsub (AC_local (by rfl) ?_)
    refine S_expr ?_
    walk_at "m_go"
    refine FC_set_cluster ii ⟨rfl, ?_⟩
    walk_at "m_go"
    refine ⟨by walk_at "m_sub", ?_, ?_, ?_⟩
    · exact NH.set_oth ii.2 (by simp) hL
    · intro j hj
      by_cases hji : j = f + i
      · subst hji
        rw [if_pos (by omega)]
        exact ⟨NH.set_oth ii.2 (by simp) ii.1, NH.set_self _ _ _⟩
      · have := hin j hj
        have e1 : (f ≤ j ∧ j < f + (i + 1)) ↔ (f ≤ j ∧ j < f + i) := by omega
        simp only [e1]
        exact ⟨NH.set_oth ii.2 (by simp) this.1, by rw [NH.set_ne _ _ (nodup_d hb.c.nd hj k3 hji)]; exact this.2⟩
    · intro x o hx hne
      rw [NH.set_ne _ _ (hne _ (List.getElem_mem k3))]
      exact hfr x o hx hne
  · rintro ρ' σ' ⟨hsub, hL, hin, hfr⟩
    rw [cellV_len, slice_len _ hk2] at hin
    walk_at "m_go"
    refine h σ' ⟨fun c' hc' => ?_, by rw [List.map_map]; exact hb.c.nd⟩ hfr
    obtain ⟨c0, h0, rfl⟩ := List.mem_map.mp hc'
    obtain ⟨j, hj, rfl⟩ := List.getElem_of_mem h0
    have hh := hin j hj
    have e1 : (f ≤ j ∧ j < f + (k - f)) ↔ (clF (rowsC cells) g ≤ cells[j].r.cluster ∧ cells[j].r.cluster ≤ clF (rowsC cells) (last - 1)) := by
      rw [← rowsC_cl hj, ← idx j hj]; omega
    simp only [e1] at hh
    rw [hmg] at hh
    exact hh
end

theorem range_snoc (p : Nat → Bool) (g k : Nat) : (List.range' g (k + 1)).filter p = (List.range' g k).filter p ++ (if p (g + k) = true then [g + k] else []) := by
  rw [List.range'_concat, List.filter_append]
  simp only [Nat.one_mul, List.filter_cons, List.filter_nil]

theorem slice_split {α : Type} (l : List α) (x0 : α) (f : α → Int) (cs : List Int) {g last : Nat} (hl : last ≤ l.length) (hc : ∀ i, i < l.length → f (l.getD i x0) = cs.getD i 0) :
    ((l.take last).drop g).filter (fun x => f x == 2367) = (spotsF cs g last).map (fun i => l.getD i x0) ∧
    ((l.take last).drop g).filter (fun x => !(f x == 2367)) = ((List.range' g (last - g)).filter fun i => !decide (i ∈ spotsF cs g last)).map fun i => l.getD i x0 := by
  rw [slice_map l x0 g last hl]
  constructor
  · rw [List.filter_map]
    unfold spotsF
    congr 1
    apply List.filter_congr
    intro i hi
    rw [List.mem_range'_1] at hi
    show (f (l.getD i x0) == 2367) = _
    rw [hc i (by omega)]
  · rw [List.filter_map]
    congr 1
    apply List.filter_congr
    intro i hi
    rw [List.mem_range'_1] at hi
    show (!(f (l.getD i x0) == 2367)) = _
    rw [hc i (by omega)]
    congr 1
    rw [Bool.eq_iff_iff, decide_eq_true_eq, spotsF_mem, beq_iff_eq]
    constructor
    · intro h; exact ⟨hi.1, by omega, h⟩
    · intro h; exact h.2.2

section
variable {W : Wd} {X : Addr → Prop} {A : Around} {σ : NH} {s : Shared} {d : Nat} {env : Env} {ρ : Loc} {Q : Value → NH → Prop} {K : Flow → Loc → NH → Prop}

noncomputable def FrL (σ σ' : NH) : Prop := ∀ x o, σ x = some o → (∀ m, o ≠ .dct m) → σ' x = some o
theorem FrL.refl (σ : NH) : FrL σ σ := fun _ _ h _ => h
theorem FrL.of_le {σ τ : NH} (h : σ.le τ) : FrL σ τ := fun x o hx _ => h x o hx
theorem FrL.trans {a b c : NH} (h : FrL a b) (k : FrL b c) : FrL a c := fun x o hx ho => k x o (h x o hx ho) ho

noncomputable def natL (ns : List Nat) : List Value := ns.map fun (n : Nat) => .int (n : Int) 0
theorem natL_len (ns : List Nat) : (natL ns).length = ns.length := by simp [natL]
theorem natL_at {ns : List Nat} {i : Nat} {v : Value} (h : (natL ns)[i]? = some v) : ∃ n, ns[i]? = some n ∧ v = .int (n : Int) 0 := by
  unfold natL at h
  rw [List.getElem?_map] at h
  obtain ⟨a, h1, h2⟩ := Option.map_eq_some_iff.mp h
  exact ⟨a, h1, h2.symm⟩
theorem natL_any (S : List Nat) (i : Nat) : (natL S).any (eqb (.int (i : Int) 0)) = decide (i ∈ S) := by
  rw [Bool.eq_iff_iff, List.any_eq_true, decide_eq_true_eq]
  constructor
  · rintro ⟨v, hv, h⟩
    obtain ⟨n, hn, rfl⟩ := List.mem_map.mp hv
    rw [eqb_int, beq_iff_eq] at h
    rw [show i = n by omega]; exact hn
  · intro h
    exact ⟨_, List.mem_map.mpr ⟨i, h, rfl⟩, by rw [eqb_int, beq_iff_eq]⟩
noncomputable def spotC (C : List Cell) (i : Nat) : Value := .ref (C.getD i cell0).a
theorem spotC_get {C : List Cell} {i : Nat} (h : i < C.length) : (cellV C)[i]? = some (spotC C i) := by
  rw [cellV_get h]; unfold spotC; rw [List.getD_eq_getElem?_getD, List.getElem?_eq_getElem h]; rfl
theorem cellV_append (a b : List Cell) : cellV (a ++ b) = cellV a ++ cellV b := by simp [cellV]
theorem cellV_mrg (C : List Cell) (lo hi : Int) : cellV (C.map (mrgC lo hi)) = cellV C := by
  unfold cellV; rw [List.map_map]; rfl
theorem rowsC_mrg (C : List Cell) (g last : Nat) : rowsC (C.map (mrgC (clF (rowsC C) g) (clF (rowsC C) (last - 1)))) = mergeF (rowsC C) g last := by
  unfold rowsC mergeF; rw [List.map_map, List.map_map]; rfl
theorem cell_nodup_perm {C C' : List Cell} (h : C'.Perm C) (k : (C.map (·.d)).Nodup) : (C'.map (·.d)).Nodup := (h.map _).nodup_iff.mpr k
theorem stir_cells {C : List Cell} {cs : List Int} {g last : Nat} (hl : last ≤ C.length) (hc : cs = codesF (rowsC C)) :
    cellV (stirG (fun c => isI c.r) C g last) = ((cellV (C.take g) ++ (spotsF cs g last).map (spotC C)) ++ ((List.range' g (last - g)).filter fun i => !decide (i ∈ spotsF cs g last)).map (spotC C)) ++ cellV (C.drop last) := by
  obtain ⟨h1, h2⟩ := slice_split C cell0 (fun c => c.r.code) cs (g := g) hl fun i hi => by
    rw [hc, codesF_get (by rw [rowsC_len]; exact hi), List.getD_eq_getElem?_getD, List.getElem?_eq_getElem hi]; simp [rowsC]
  unfold stirG isI
  rw [h1, h2]
  simp only [cellV_append]
  simp only [cellV, List.map_map, List.append_assoc]
  rfl

theorem rangeL_getN {g n i : Nat} {x : Value} (h : (rangeL (g : Int) n)[i]? = some x) : i < n ∧ x = .int ((g + i : Nat) : Int) 0 := by
  obtain ⟨h1, h2⟩ := rangeL_get h
  exact ⟨h1, by rw [h2]; congr 1⟩
theorem AO_row {σ : NH} {b bd l : Addr} {cells : List Cell} (h : BufAt σ b bd l cells) {τ : NH} (k : σ.le τ) : BufAt τ b bd l cells := ⟨k _ _ h.b, k _ _ h.bd, k _ _ h.l, h.c.le k⟩

theorem FC_move_matras {cells : List Cell} {b bd l : Addr} {z y : Int} (i e : Nat) (hz : z = i) (hy : y = e) (hi : i < e) (he : e ≤ cells.length) (hlen : cells.length < 100000) (hb : BufAt σ b bd l cells) (hm : Mono (rowsC cells))
    (h : ∀ σ' l' cells', BufAt σ' b bd l' cells' → rowsC cells' = movedF (rowsC cells) i e → FrL σ σ' → (l' = l ∨ σ l' = none) → Q .none σ') : FC W (d+4) (.ref 211) [.ref b, .int z 0, .int y 0] σ Q := by
  refine FC_fn3 F211 "buffer" "begin" "end" (fun _ _ _ _ _ => BindsTo.of_eq rfl) (by rfl) ?_
  intro L
  let env := EN F211 L
  show SC _ _ env (execs F211.body env) _ _ _
  dsimp only [F211]
  subst hz hy
  generalize hcs : codesF (rowsC cells) = cs
  have hcn : cs.length = cells.length := by rw [← hcs, codesF_len, rowsC_len]
  unfold movedF at h
  rw [hcs] at h
  have hgb := goalF_bd (cs := cs) hi
  generalize hg0 : goalF cs i e = g0 at h hgb
  generalize hG : skipF cs g0 e = G at h
  have hGb : g0 ≤ G ∧ G ≤ e := by rw [← hG]; exact ⟨skipF_ge _ _ _, skipF_le hgb.2 (by omega)⟩
  
  walk_at "m_go"
  refine EV_comp (CompOK.of (by rfl) rfl rfl rfl) (IV_src (EV_attr ?_))
  walk_at "m_go"
  refine ⟨_, _, _, _, _, rfl, hb.b, hb.bd, AB_row, rfl, rfl, _, _, SrcV.list hb.l, by rw [cellV_len]; omega, fun k ys σ' => σ = σ' ∧ ys = intL (codesF (rowsC (cells.take k))), ⟨rfl, rfl⟩, fun k ys σ' hI => by rw [← hI.1]; exact hb.l, ?_, ?_⟩
  · rintro C k v ys _ hx ⟨rfl, rfl⟩
    obtain ⟨c', hc', rfl⟩ := cellV_at hx
    have ii := hb.c.at_ c' (List.mem_of_getElem? hc')
    refine CT_nil ?_
    refine ite_b (fun _ => ?_) (fun c => by cases c)
    refine EV_nattr (by rfl) (by rfl) ii.1 ii.2 AI_code (by rfl) (by rfl) ?_
    refine ⟨rfl, ?_⟩
    rw [take_snoc hc']; simp [rowsC, codesF, intL]
  rintro ys _ ⟨rfl, rfl⟩ D1 hD1
  rw [cellV_len, List.take_length, hcs]
  have le1 := NH.le_set _ (.list (intL cs)) hD1
  have k1 := NH.set_self σ D1 (.list (intL cs))
  generalize σ.set D1 (.list (intL cs)) = τ at le1 k1
  
  walk_at "m_go"
  refine FC_matra_goal i e rfl rfl hi (by omega) k1 (by omega) ?_
  rw [hg0]
  walk_at "m_go"
  refine EV_comp (CompOK.of (by rfl) rfl rfl rfl) (IV_src ?_)
  walk_at "m_go"
  refine CB_range2 fun r hr => ?_
  have le2 := NH.le_set _ (.rng (g0 : Int) (e : Int) 1) hr
  have k2 := NH.set_self τ r (.rng (g0 : Int) (e : Int) 1)
  generalize τ.set r (.rng (g0 : Int) (e : Int) 1) = τ2 at le2 k2
  have hn : ((e : Int) - (g0 : Int)).toNat = e - g0 := by omega
  refine ⟨_, _, SrcV.rng k2 (by omega) (by omega) (by omega) (by omega), by rw [rangeL_len]; omega, fun k ys σ' => τ2 = σ' ∧ ys = natL ((List.range' g0 k).filter fun j => cs.getD j 0 == 2367), ⟨rfl, rfl⟩, fun _ _ _ _ => trivial, ?_, ?_⟩
  · rintro C k v ys _ hx ⟨rfl, rfl⟩
    obtain ⟨hk, rfl⟩ := rangeL_get hx
    rw [hn] at hk
    refine CT_one ?_
    walk_at "m_go"
    refine ⟨_, _, _, _, rfl, le2 _ _ k1, rfl, by omega, by omega, (by rw [show ((g0 : Int) + (k : Int)).toNat = g0 + k by omega]; exact intL_get (i := g0 + k) (by omega)), ?_⟩
    have e1 : cs.getD (g0 + k) 0 = cs[g0 + k] := by rw [List.getD_eq_getElem?_getD, List.getElem?_eq_getElem (by omega)]; rfl
    walk_at "m_go"
    refine ite_b (fun c => ?_) (fun c => ?_)
    · walk_at "m_go"
      refine ⟨rfl, ?_⟩
      rw [range_snoc, e1, if_pos c]; simp [natL]
    · refine ⟨rfl, ?_⟩
      rw [range_snoc, e1, if_neg (by rw [c]; decide)]; simp
  rintro ys _ ⟨rfl, rfl⟩ D2 hD2
  rw [rangeL_len, hn]
  have le3 := NH.le_set _ (.list (natL (spotsF cs g0 e))) hD2
  have k3 := NH.set_self τ2 D2 (.list (natL (spotsF cs g0 e)))
  show AC W _ env _ _ _ (τ2.set D2 (.list (natL (spotsF cs g0 e)))) _
  generalize τ2.set D2 (.list (natL (spotsF cs g0 e))) = τ3 at le3 k3
  have leA := NH.le_trans le1 (NH.le_trans le2 le3)
  clear le1 le2 le3 k1 k2 hr hD2 hD1
  walk_at "m_go"
  refine SC.sub (l := [("buffer", .ref b), ("goal", .int g0 0), ("spots", .ref D2)]) (by walk_at "m_sub") ?_
  refine S_while (fun n ρ' σ' => ∃ (g : Nat) (D : Addr), Sub ρ' [("buffer", .ref b), ("goal", .int g 0), ("spots", .ref D)] ∧ σ.le σ' ∧ σ' D = some (.list (natL (spotsF cs g e))) ∧ skipF cs g e = G ∧ g ≤ e ∧ e - g < n) (e + 1)
    ⟨g0, D2, by walk_at "m_sub", leA, k3, hG, hgb.2, by omega⟩ ?_
  clear k3 leA
  rintro n ρ' σ1 ⟨g, D, hsub, leA, hD, hsk, hge, hn1⟩
  have hslen : (spotsF cs g e).length ≤ e := by
    unfold spotsF
    refine Nat.le_trans (List.length_filter_le _ _) ?_
    rw [List.length_range']; omega
  have cont : ¬ (g < e ∧ cs.getD g 0 = 2367) → SE W (d + 3) env (List.drop 4 F211.body) ρ' σ1 (fun fl x σ' => Q (match fl with | .ret v => v | _ => .none) σ') := by
    intro hstop
    have hgG : g = G := by rw [← hsk]; exact (skipF_stop hstop (by omega)).symm
    subst hgG
    have hb1 := AO_row hb leA
    show SE W (d + 3) env (List.drop 4 F211.body) _ _ _
    dsimp only [F211, List.drop]
    refine SC.sub hsub ?_
    walk_at "m_go"
    refine TV_list hD (by rw [natL_len]; omega) ?_
    cases hS : (spotsF cs g e).getLast? with
    | none =>
      have hnil : spotsF cs g e = [] := by simpa using hS
      rw [hnil]
      refine ite_b (fun _ => ?_) (fun c => by simp [natL] at c)
      walk_at "m_go"
      rw [hS] at h
      exact h σ1 l cells hb1 rfl (FrL.of_le leA) (.inl rfl)
    | some p =>
      obtain ⟨p1, p2, p3, p4⟩ := spotsF_last hS
      rw [hS] at h
      dsimp only at h
      have hne : spotsF cs g e ≠ [] := fun h0 => by rw [h0] at hS; cases hS
      have hl0 : 0 < (spotsF cs g e).length := List.length_pos_iff.mpr hne
      refine ite_b (fun c => ?_) (fun _ => ?_)
      · exfalso
        cases hS2 : spotsF cs g e with
        | nil => exact hne hS2
        | cons a r => rw [hS2] at c; simp [natL] at c
      walk_at "m_go"
      refine EV_itemneg ?_
      walk_at "m_go"
      refine EV_neg ⟨_, _, _, _, rfl, hD, rfl, by omega, by omega, by rw [natL_len]; omega, (?_ : _ = some (Value.int (p : Int) 0)), ?_⟩
      · rw [natL_len, show (-1 + ((spotsF cs g e).length : Int)).toNat = (spotsF cs g e).length - 1 by omega]
        unfold natL
        rw [List.getElem?_map, ← List.getLast?_eq_getElem?, hS]; rfl
      walk_at "m_go"
      refine S_expr ?_
      walk_at "m_go"
      refine FC_merge g (p + 1) rfl (by omega) (by omega) (by omega) (by omega) hb1 hm fun σ2 hc2 hfr => ⟨rfl, ?_⟩
      have fr12 : FrL σ1 σ2 := fun x o hx ho => hfr x o hx (hb1.c.other hx fun r => ho _)
      have hb2 : BufAt σ2 b bd l (cells.map (mrgC (clF (rowsC cells) g) (clF (rowsC cells) (p + 1 - 1)))) :=
        ⟨hfr _ _ hb1.b (hb1.c.other hb1.b (by simp)), hfr _ _ hb1.bd (hb1.c.other hb1.bd fun r => buf_ne_info _ _), by rw [cellV_mrg]; exact hfr _ _ hb1.l (hb1.c.other hb1.l (by simp)), hc2⟩
      have hD2 : σ2 D = some (.list (natL (spotsF cs g e))) := hfr _ _ hD (hb1.c.other hD (by simp))
      have hrows : rowsC (cells.map (mrgC (clF (rowsC cells) g) (clF (rowsC cells) (p + 1 - 1)))) = mergeF (rowsC cells) g (p + 1) := rowsC_mrg _ _ _
      have hcl2 : (cells.map (mrgC (clF (rowsC cells) g) (clF (rowsC cells) (p + 1 - 1)))).length = cells.length := by simp
      have fr02 : FrL σ σ2 := (FrL.of_le leA).trans fr12
      have hnone : ∀ x, σ2 x = none → σ x = none := fun x hx => by
        cases hq : σ x with
        | none => rfl
        | some o =>
          exfalso
          have := leA _ _ hq
          by_cases hxc : ∀ c ∈ cells, x ≠ c.d
          · rw [hfr _ _ this hxc] at hx; cases hx
          · have : ∃ c ∈ cells, x = c.d := by
              refine Classical.byContradiction fun hh => hxc fun c hc e => hh ⟨c, hc, e⟩
            obtain ⟨c, hc, rfl⟩ := this
            have := (hc2.at_ _ (List.mem_map_of_mem (f := mrgC _ _) hc)).2
            rw [show (mrgC (clF (rowsC cells) g) (clF (rowsC cells) (p + 1 - 1)) c).d = c.d from rfl, hx] at this
            cases this
      generalize cells.map (mrgC (clF (rowsC cells) g) (clF (rowsC cells) (p + 1 - 1))) = C at hb2 hrows hcl2
      clear hc2 hfr fr12 hb1 hD leA
      
      walk_at "m_go"
      refine S_comp (CompOK.of (by rfl) rfl rfl rfl) (by rfl) (IV_src ?_)
      walk_at "m_go"
      refine ⟨_, _, SrcV.list hD2, by rw [natL_len]; omega, fun k ys σ' => σ2 = σ' ∧ ys = ((spotsF cs g e).take k).map (spotC C), ⟨rfl, rfl⟩, fun k ys σ' hI => by rw [← hI.1]; exact hD2, ?_, ?_⟩
      · rintro F k v ys _ hx ⟨rfl, rfl⟩
        obtain ⟨n, hn, rfl⟩ := natL_at hx
        have hnm := spotsF_mem.mp (List.mem_of_getElem? hn)
        refine CT_nil ?_
        refine ite_b (fun _ => ?_) (fun c => by cases c)
        walk_at "m_go"
        refine EV_attr ?_
        walk_at "m_go"
        refine ⟨_, _, _, _, _, rfl, hb2.b, hb2.bd, AB_row, rfl, rfl, ?_⟩
        walk_at "m_go"
        refine ⟨_, _, _, _, rfl, hb2.l, rfl, by omega, by omega, (by rw [show ((n : Int)).toNat = n by omega]; exact spotC_get (by omega)), rfl, ?_⟩
        rw [take_snoc hn]; simp
      rintro ys _ ⟨rfl, rfl⟩ D3 hD3
      rw [natL_len, List.take_length]
      have le1 := NH.le_set _ (.list ((spotsF cs g e).map (spotC C))) hD3
      have k3 := NH.set_self σ2 D3 (.list ((spotsF cs g e).map (spotC C)))
      generalize σ2.set D3 (.list ((spotsF cs g e).map (spotC C))) = σ3 at le1 k3
      
      refine S_comp (CompOK.of (by rfl) rfl rfl rfl) (by rfl) (IV_src ?_)
      walk_at "m_go"
      refine CB_range2 fun r hr => ?_
      have le2 := NH.le_set _ (.rng (g : Int) ((p : Int) + 1) 1) hr
      have k4 := NH.set_self σ3 r (.rng (g : Int) ((p : Int) + 1) 1)
      generalize σ3.set r (.rng (g : Int) ((p : Int) + 1) 1) = σ4 at le2 k4
      have hn : (((p : Int) + 1) - (g : Int)).toNat = p + 1 - g := by omega
      have hb4 := AO_row hb2 (NH.le_trans le1 le2)
      have hD4 := le2 _ _ (le1 _ _ hD2)
      refine ⟨_, _, SrcV.rng k4 (by omega) (by omega) (by omega) (by omega), by rw [rangeL_len]; omega, fun k ys σ' => σ4 = σ' ∧ ys = ((List.range' g k).filter fun j => !decide (j ∈ spotsF cs g e)).map (spotC C), ⟨rfl, rfl⟩, fun _ _ _ _ => trivial, ?_, ?_⟩
      · rintro F k v ys _ hx ⟨rfl, rfl⟩
        obtain ⟨hk, rfl⟩ := rangeL_getN hx
        rw [hn] at hk
        refine CT_one ?_
        walk_at "m_go"
        refine op_notin_list hD4 (fun y hy => by obtain ⟨n, _, rfl⟩ := List.mem_map.mp hy; rfl) rfl ?_
        rw [natL_any]
        walk_at "m_go"
        refine ite_b (fun c => ?_) (fun c => ?_)
        · walk_at "m_go"
          refine EV_attr ?_
          walk_at "m_go"
          refine ⟨_, _, _, _, _, rfl, hb4.b, hb4.bd, AB_row, rfl, rfl, ?_⟩
          walk_at "m_go"
          refine ⟨_, _, _, _, rfl, hb4.l, rfl, by omega, by omega, (by rw [show (((g + k : Nat) : Int)).toNat = g + k by omega]; exact spotC_get (by omega)), rfl, ?_⟩
          rw [range_snoc, if_pos c, List.map_append]; rfl
        · refine ⟨rfl, ?_⟩
          rw [range_snoc, if_neg (by rw [c]; decide), List.append_nil]
      rintro ys _ ⟨rfl, rfl⟩ D4 hD4'
      rw [rangeL_len, hn]
      have le3 := NH.le_set _ (.list (((List.range' g (p + 1 - g)).filter fun j => !decide (j ∈ spotsF cs g e)).map (spotC C))) hD4'
      have k5 := NH.set_self σ4 D4 (.list (((List.range' g (p + 1 - g)).filter fun j => !decide (j ∈ spotsF cs g e)).map (spotC C)))
      generalize σ4.set D4 (.list (((List.range' g (p + 1 - g)).filter fun j => !decide (j ∈ spotsF cs g e)).map (spotC C))) = σ5 at le3 k5
      have hb5 := AO_row hb4 le3
      have k3' := le3 _ _ (le2 _ _ k3)
      have fr05 : FrL σ σ5 := fr02.trans (FrL.of_le (NH.le_trans le1 (NH.le_trans le2 le3)))
      have hnone5 : ∀ x, σ5 x = none → σ x = none := fun x hx => hnone x (NH.le_none le1 (NH.le_none le2 (NH.le_none le3 hx)))
      clear hnone le1 le2 le3 k4 hD4 hr hD3 hD4' k3 hb4 hb2 fr02 hD2
      
      walk_at "m_go"
      refine EV_slice ?_
      refine EV_attr ?_
      walk_at "m_go"
      refine ⟨_, _, _, _, _, rfl, hb5.b, hb5.bd, AB_row, rfl, rfl, ?_⟩
      refine EO_none (EO_some ?_)
      walk_at "m_go"
      refine ⟨g, rfl, l, _, rfl, hb5.l, by rw [cellV_len]; omega, fun D5 hD5 => ?_⟩
      have le1 := NH.le_set _ (.list (sliceL (cellV C) none (some g))) hD5
      have k6 := NH.set_self σ5 D5 (.list (sliceL (cellV C) none (some g)))
      generalize σ5.set D5 (.list (sliceL (cellV C) none (some g))) = σ6 at le1 k6
      walk_at "m_go"
      have hsp : (spotsF cs g e).length ≤ 100000 := by omega
      have ht1 : (sliceL (cellV C) none (some g)).length ≤ 100000 := by simp [sliceL, cellV]; omega
      have hot : (((List.range' g (p + 1 - g)).filter fun j => !decide (j ∈ spotsF cs g e)).map (spotC C)).length ≤ 100000 := by
        rw [List.length_map]
        refine Nat.le_trans (List.length_filter_le _ _) ?_
        rw [List.length_range']; omega
      have ht2 : (sliceL (cellV C) (some (p + 1)) none).length ≤ 100000 := by simp [sliceL, cellV]; omega
      refine op_cat k6 (le1 _ _ k3') (by rw [List.length_map]; omega) fun D6 hD6 => ?_
      have le2 := NH.le_set _ (.list (sliceL (cellV C) none (some g) ++ (spotsF cs g e).map (spotC C))) hD6
      have k7 := NH.set_self σ6 D6 (.list (sliceL (cellV C) none (some g) ++ (spotsF cs g e).map (spotC C)))
      generalize σ6.set D6 (.list (sliceL (cellV C) none (some g) ++ (spotsF cs g e).map (spotC C))) = σ7 at le2 k7
      walk_at "m_go"
      refine op_cat k7 (le2 _ _ (le1 _ _ k5)) (by rw [List.length_append, List.length_map]; omega) fun D7 hD7 => ?_
      have le3 := NH.le_set _ (.list (sliceL (cellV C) none (some g) ++ (spotsF cs g e).map (spotC C) ++ (((List.range' g (p + 1 - g)).filter fun j => !decide (j ∈ spotsF cs g e)).map (spotC C)))) hD7
      have k8 := NH.set_self σ7 D7 (.list (sliceL (cellV C) none (some g) ++ (spotsF cs g e).map (spotC C) ++ (((List.range' g (p + 1 - g)).filter fun j => !decide (j ∈ spotsF cs g e)).map (spotC C))))
      generalize σ7.set D7 (.list (sliceL (cellV C) none (some g) ++ (spotsF cs g e).map (spotC C) ++ (((List.range' g (p + 1 - g)).filter fun j => !decide (j ∈ spotsF cs g e)).map (spotC C)))) = σ8 at le3 k8
      have leX := NH.le_trans le1 (NH.le_trans le2 le3)
      have hb8 := AO_row hb5 leX
      refine EV_slice ?_
      refine EV_attr ?_
      walk_at "m_go"
      refine ⟨_, _, _, _, _, rfl, hb8.b, hb8.bd, AB_row, rfl, rfl, ?_⟩
      refine EO_some ?_
      walk_at "m_go"
      refine ⟨p + 1, rfl, EO_none ⟨l, _, rfl, hb8.l, by rw [cellV_len]; omega, fun D8 hD8 => ?_⟩⟩
      have le4 := NH.le_set _ (.list (sliceL (cellV C) (some (p + 1)) none)) hD8
      have k9 := NH.set_self σ8 D8 (.list (sliceL (cellV C) (some (p + 1)) none))
      generalize σ8.set D8 (.list (sliceL (cellV C) (some (p + 1)) none)) = σ9 at le4 k9
      refine op_cat (le4 _ _ k8) k9 (by rw [List.length_append, List.length_append, List.length_map]; omega) fun D9 hD9 => ?_
      have hfin : sliceL (cellV C) none (some g) ++ (spotsF cs g e).map (spotC C) ++ (((List.range' g (p + 1 - g)).filter fun j => !decide (j ∈ spotsF cs g e)).map (spotC C)) ++ sliceL (cellV C) (some (p + 1)) none = cellV (stirG (fun c => isI c.r) C g (p + 1)) := by
        rw [p4, stir_cells (cs := cs) (by omega) (by rw [hrows, mergeF_codes, hcs])]
        simp [sliceL, cellV, List.map_take, List.map_drop]
      rw [hfin]
      have le5 := NH.le_set _ (.list (cellV (stirG (fun c => isI c.r) C g (p + 1)))) hD9
      have k10 := NH.set_self σ9 D9 (.list (cellV (stirG (fun c => isI c.r) C g (p + 1))))
      have hn9 : σ D9 = none := hnone5 _ (NH.le_none leX (NH.le_none le4 hD9))
      generalize σ9.set D9 (.list (cellV (stirG (fun c => isI c.r) C g (p + 1)))) = τ at le5 k10
      have leY := NH.le_trans leX (NH.le_trans le4 le5)
      have hbT := AO_row hb5 leY
      refine AC_attr ?_
      walk_at "m_go"
      refine ⟨_, _, _, _, rfl, hbT.b, hbT.bd, AB_row, by simp [bufD], ?_⟩
      walk_at "m_go"
      have hperm := stir_perm (fun c : Cell => isI c.r) C g (p + 1) (by omega)
      refine h (τ.set bd (.dct (bufD D9))) D9 (stirG (fun c => isI c.r) C g (p + 1)) ⟨NH.set_oth hbT.bd (by simp) hbT.b, NH.set_self _ _ _, NH.set_oth hbT.bd (by simp) k10, ⟨fun c hc => ?_, cell_nodup_perm hperm hbT.c.nd⟩⟩ ?_ ?_ (.inr hn9)
      · have ii := hbT.c.at_ c (hperm.mem_iff.mp hc)
        exact ⟨NH.set_oth hbT.bd (by simp) ii.1, by
          rw [NH.set_ne _ _ (by rintro e0; have := ii.2; rw [e0, hbT.bd] at this; exact buf_ne_info _ _ (Option.some.inj this))]; exact ii.2⟩
      · show (stirG (fun c => isI c.r) C g (p + 1)).map (·.r) = _
        rw [stir_map (fun c : Cell => c.r) isI (fun c => isI c.r) (fun _ => rfl)]
        show stirG isI (rowsC C) g (p + 1) = _
        rw [hrows]
      · refine (fr05.trans (FrL.of_le leY)).trans fun x o hx ho => ?_
        exact NH.set_oth hbT.bd (ho _) hx
  refine EC.sub hsub ?_
  walk_at "m_go"
  refine TV_list hD (by rw [natL_len]; omega) ?_
  refine ite_b (fun c => ?_) (fun c => ?_)
  · cases hS : spotsF cs g e with
    | nil => rw [hS] at c; simp [natL] at c
    | cons s0 S =>
      rw [hS] at hD
      obtain ⟨hh1, hh2⟩ := spotsF_head hS
      walk_at "m_go"
      refine EV_item ?_
      walk_at "m_go"
      refine ⟨_, _, _, _, rfl, hD, rfl, by omega, by omega, rfl, ?_⟩
      walk_at "m_go"
      refine ite_b (fun c2 => ?_) (fun c2 => ?_)
      · have hsg : s0 = g := by simp at c2; omega
        obtain ⟨h3, h4⟩ := hh1.mp hsg
        have hst := spotsF_step h3 h4
        have hSe : S = spotsF cs (g + 1) e := by rw [hS] at hst; exact (List.cons.inj hst).2
        refine SC.sub hsub ?_
        walk_at "m_go"
        refine EV_slice ?_
        walk_at "m_go"
        refine EO_some ?_
        walk_at "m_go"
        refine ⟨1, rfl, EO_none ⟨D, _, rfl, hD, ?_, fun D' hD' => ?_⟩⟩
        · rw [natL_len, ← hS]; omega
        walk_at "m_go"
        refine ⟨e - g, by omega, g + 1, D', by walk_at "m_sub", NH.le_trans leA (NH.le_set _ _ hD'), ?_, ?_, by omega, by omega⟩
        · rw [NH.set_self, ← hSe]; rfl
        · rw [← hsk, skipF_step h3 (by omega) h4]
      · refine cont fun hh => ?_
        have := hh1.mpr hh
        rw [this] at c2; simp at c2
  · have hS : spotsF cs g e = [] := by
      cases hS : spotsF cs g e with
      | nil => rfl
      | cons s0 S => rw [hS] at c; simp [natL] at c
    rw [if_neg (by decide)]
    exact cont (spotsF_nil hS)
end

section
variable {W : Wd} {X : Addr → Prop} {A : Around} {σ : NH} {s : Shared} {d : Nat} {env : Env} {ρ : Loc} {Q : Value → NH → Prop} {K : Flow → Loc → NH → Prop}

theorem cells_put {C : List Cell} {i : Nat} (hi : i < C.length) (c : Cell) (hr : c.r = circleR ((rowsC C).getD i row0)) : rowsC (C.take i ++ c :: C.drop i) = circleF (rowsC C) i := by
  unfold circleF
  rw [← hr]
  simp [rowsC, List.map_take, List.map_drop]
theorem rowsC_getD {C : List Cell} {i : Nat} (hi : i < C.length) : (rowsC C).getD i row0 = C[i].r := by
  rw [List.getD_eq_getElem?_getD, List.getElem?_eq_getElem (by rw [rowsC_len]; exact hi)]; simp [rowsC]

theorem FC_put_circle {cells : List Cell} {b bd l : Addr} {z : Int} (i : Nat) (hz : z = i) (hi : i < cells.length) (hlen : cells.length < 100000) (hb : BufAt σ b bd l cells)
    (h : ∀ σ' c, BufAt σ' b bd l (cells.take i ++ c :: cells.drop i) → c.r = circleR ((rowsC cells).getD i row0) → (∀ y o, σ y = some o → y ≠ l → σ' y = some o) → Q .none σ') : FC W (d+4) (.ref 218) [.ref b, .int z 0] σ Q := by
  refine FC_fn2 F218 "buffer" "at" (fun _ _ _ _ => BindsTo.of_eq rfl) (by rfl) ?_
  intro L
  let env := EN F218 L
  show SC _ _ env (execs F218.body env) _ _ _
  dsimp only [F218]
  subst hz
  rw [rowsC_getD hi] at h
  have ii := hb.c.get hi
  walk_at "m_go"
  refine EV_method ?_
  walk_at "m_go"
  refine EV_attr ?_
  walk_at "m_go"
  refine ⟨_, _, _, _, _, rfl, hb.b, hb.bd, AB_row, rfl, rfl, ?_⟩
  walk_at "m_go"
  refine ⟨_, _, _, _, rfl, hb.l, rfl, by omega, by omega, (by rw [show ((i : Int)).toNat = i by omega]; exact cellV_get hi), _, 52, _, _, 42, rfl, ii.1, ii.2, by rfl, by rfl, by rfl, by rfl, by rfl, ?_⟩
  walk_at "m_go"
  refine FC_copied ii fun x dd hx hd hne => ?_
  have h0 : (σ.set x (.inst 52 dd)) x = some (.inst 52 dd) := NH.set_self _ _ _
  have le1 := NH.le_set _ (.inst 52 dd) hx
  have hd' : (σ.set x (.inst 52 dd)) dd = none := by rw [NH.set_ne _ _ (Ne.symm hne)]; exact hd
  walk_at "m_go"
  refine AC_nattrS h0 hne (by rfl) (by rfl) AI_code (by rfl) ?_
  walk_at "m_go"
  refine AC_nattrS h0 hne (by rfl) (by rfl) AI_glyph (by rfl) ?_
  walk_at "m_go"
  refine AC_nattrS h0 hne (by rfl) (by rfl) AI_kind (by rfl) ?_
  show SE W _ env _ _ ((σ.set x (.inst 52 dd)).set dd (.dct (infoD (circleR cells[i].r)))) _
  have le2 := NH.le_set _ (.dct (infoD (circleR cells[i].r))) hd'
  have k1 : ((σ.set x (.inst 52 dd)).set dd (.dct (infoD (circleR cells[i].r)))) x = some (.inst 52 dd) := by rw [NH.set_ne _ _ hne]; exact h0
  have k2 := NH.set_self (σ.set x (.inst 52 dd)) dd (.dct (infoD (circleR cells[i].r)))
  have leT := NH.le_trans le1 le2
  generalize (σ.set x (.inst 52 dd)).set dd (.dct (infoD (circleR cells[i].r))) = τ at k1 k2 leT
  have hbT := AO_row hb leT
  refine S_expr (EV_insert ?_)
  refine EV_attr ?_
  walk_at "m_go"
  refine ⟨_, _, _, _, _, rfl, hbT.b, hbT.bd, AB_row, rfl, rfl, l, _, rfl, hbT.l, ?_⟩
  walk_at "m_go"
  refine CB_insert (k := i) hbT.l (by rw [cellV_len]; omega) (by rw [cellV_len]; omega) ⟨rfl, ?_⟩
  walk_at "m_go"
  have hxl : x ≠ l := by rintro rfl; rw [hb.l] at hx; cases hx
  have hdl : dd ≠ l := by rintro rfl; rw [hb.l] at hd; cases hd
  have hfr : ∀ y o, τ y = some o → y ≠ l → (τ.set l (.list ((cellV cells).take i ++ .ref x :: (cellV cells).drop i))) y = some o := fun y o hy hne => by rw [NH.set_ne _ _ hne]; exact hy
  have hbl : b ≠ l := by rintro rfl; have := hb.b; rw [hb.l] at this; cases this
  have hbdl : bd ≠ l := by rintro rfl; have := hb.bd; rw [hb.l] at this; cases this
  refine h _ ⟨x, dd, circleR cells[i].r⟩ ⟨hfr _ _ hbT.b hbl, hfr _ _ hbT.bd hbdl, ?_, ?_, ?_⟩ rfl fun y o hy hne => hfr _ _ (leT _ _ hy) hne
  · rw [NH.set_self]; simp [cellV, List.map_take, List.map_drop]
  · have old : ∀ c ∈ cells, InfoAt (τ.set l (.list ((cellV cells).take i ++ .ref x :: (cellV cells).drop i))) c.a c.d c.r := fun c hc => by
      have := hbT.c.at_ c hc
      refine ⟨hfr _ _ this.1 ?_, hfr _ _ this.2 ?_⟩
      · intro e0; have := this.1; rw [e0, hbT.l] at this; cases this
      · intro e0; have := this.2; rw [e0, hbT.l] at this; cases this
    intro c hc
    rcases List.mem_append.mp hc with hc | hc
    · exact old c (List.mem_of_mem_take hc)
    · rcases List.mem_cons.mp hc with rfl | hc
      · exact ⟨hfr _ _ k1 hxl, hfr _ _ k2 hdl⟩
      · exact old c (List.mem_of_mem_drop hc)
  · have hp : (cells.take i ++ ⟨x, dd, circleR cells[i].r⟩ :: cells.drop i).Perm (⟨x, dd, circleR cells[i].r⟩ :: cells) := by
      have := List.perm_middle (a := (⟨x, dd, circleR cells[i].r⟩ : Cell)) (l₁ := cells.take i) (l₂ := cells.drop i)
      rwa [List.take_append_drop] at this
    refine cell_nodup_perm hp ?_
    rw [List.map_cons]
    refine List.nodup_cons.mpr ⟨fun hm => ?_, hb.c.nd⟩
    obtain ⟨c, hc, e0⟩ := List.mem_map.mp hm
    have e1 : c.d = dd := e0
    have := (hb.c.at_ c hc).2
    rw [e1, hd] at this; cases this

theorem FC_clusters {cells : List Cell} {b bd l : Addr} (hlen : cells.length < 100000) (hb : BufAt σ b bd l cells) (h : ∀ D, σ D = none → Q (.ref D) (σ.set D (.list (intL (clsF (rowsC cells)))))) : FC W (d+1) (.ref 81) [.ref b] σ Q := by
  refine FC_fn1 F81 "self" (fun _ _ _ => BindsTo.of_eq rfl) (by rfl) ?_
  intro L
  let env := EN F81 L
  show SC _ _ env (execs F81.body env) _ _ _
  dsimp only [F81]
  walk_at "m_go"
  refine EV_comp (CompOK.of (by rfl) rfl rfl rfl) (IV_src (EV_attr ?_))
  walk_at "m_go"
  refine ⟨_, _, _, _, _, rfl, hb.b, hb.bd, AB_row, rfl, rfl, _, _, SrcV.list hb.l, by rw [cellV_len]; omega, fun k ys σ' => σ = σ' ∧ ys = intL (clsF (rowsC (cells.take k))), ⟨rfl, rfl⟩, fun k ys σ' hI => by rw [← hI.1]; exact hb.l, ?_, ?_⟩
  · rintro C k v ys _ hx ⟨rfl, rfl⟩
    obtain ⟨c', hc', rfl⟩ := cellV_at hx
    have ii := hb.c.at_ c' (List.mem_of_getElem? hc')
    refine CT_nil ?_
    refine ite_b (fun _ => ?_) (fun c => by cases c)
    refine EV_nattr (by rfl) (by rfl) ii.1 ii.2 AI_cluster (by rfl) (by rfl) ?_
    refine ⟨rfl, ?_⟩
    rw [take_snoc hc']; simp [rowsC, clsF, intL]
  rintro ys _ ⟨rfl, rfl⟩ D1 hD1
  rw [cellV_len, List.take_length]
  exact h D1 hD1

noncomputable def initR (cs : List Int) (i : Nat) : Row := ⟨cs.getD i 0, i, 0, 0, ""⟩
theorem FC_buffer_of {cs : List Int} {l : Addr} (hl : σ l = some (.list (intL cs))) (hlen : cs.length < 100000)
    (h : ∀ σ' x dd l' cells, BufAt σ' x dd l' cells → σ.le σ' → σ l' = none → rowsC cells = (List.range cs.length).map (initR cs) → Q (.ref x) σ') : FC W (d+3) (.ref 113) [.ref l] σ Q := by
  refine FC_fn F113 (nb := [("codes", .ref l), ("is_backward", .bool false)]) (fun vs => [("codes", vs.getD 0 .none), ("is_backward", .bool false)]) ?_ ?_ (by rfl) ?_
  · intro vs s e i
    obtain ⟨u, rfl, hu⟩ := map_one e
    exact BindsTo.of_defaults rfl (i.KI 108 _ rfl) rfl rfl rfl
  · intro vs e
    obtain ⟨u, rfl, hu⟩ := map_one e
    show [(Str.ofString "codes", nz u), (Str.ofString "is_backward", Value.bool false)] = _
    rw [hu]
  intro L
  let env := EN F113 L
  show SC _ _ env (execs F113.body env) _ _ _
  dsimp only [F113]
  walk_at "m_go"
  refine EV_comp (CompOK.of (by rfl) rfl rfl rfl) (IV_src ?_)
  walk_at "m_go"
  refine CB_len hl (by rw [intL_len]; omega) ?_
  walk_at "m_go"
  refine CB_range1 fun r hr => ?_
  have le2 := NH.le_set _ (.rng 0 ((intL cs).length : Int) 1) hr
  have k2 := NH.set_self σ r (.rng 0 ((intL cs).length : Int) 1)
  generalize σ.set r (.rng 0 ((intL cs).length : Int) 1) = τ at le2 k2
  rw [intL_len] at k2
  have hn : ((cs.length : Int) - 0).toNat = cs.length := by omega
  refine ⟨_, _, SrcV.rng k2 (by omega) (by omega) (by omega) (by omega), by rw [rangeL_len]; omega, fun k ys σ' => τ.le σ' ∧ ∃ cells, ys = cellV cells ∧ Cells σ' cells ∧ rowsC cells = (List.range k).map (initR cs), ⟨NH.le_refl _, [], rfl, ⟨fun c hc => (nomatch hc), List.nodup_nil⟩, rfl⟩, fun _ _ _ _ => trivial, ?_, ?_⟩
  · rintro C k v ys σ' hx ⟨hle, cells, rfl, hc, hrows⟩
    obtain ⟨hk, rfl⟩ := rangeL_getN (g := 0) hx
    rw [hn] at hk
    rw [Nat.zero_add]
    refine CT_nil ?_
    refine ite_b (fun _ => ?_) (fun c => by cases c)
    walk_at "m_go"
    refine ⟨_, _, _, _, rfl, hle _ _ (le2 _ _ hl), rfl, by omega, by omega, (by rw [show ((k : Int)).toNat = k by omega]; exact intL_get (i := k) (by omega)), ?_⟩
    walk_at "m_go"
    refine FC_Info fun x dd hx hd hne => ?_
    have le3 := NH.le_set _ (.inst 52 dd) hx
    have hd' : (σ'.set x (.inst 52 dd)) dd = none := by rw [NH.set_ne _ _ (Ne.symm hne)]; exact hd
    have le4 := NH.le_set _ (.dct (infoD ⟨cs[k], k, 0, 0, ""⟩)) hd'
    refine ⟨NH.le_trans hle (NH.le_trans le3 le4), cells ++ [⟨x, dd, ⟨cs[k], k, 0, 0, ""⟩⟩], by simp [cellV], ⟨fun c hcm => ?_, ?_⟩, ?_⟩
    · rcases List.mem_append.mp hcm with hcm | hcm
      · exact (hc.le (NH.le_trans le3 le4)).at_ c hcm
      · rw [List.mem_singleton.mp hcm]
        exact ⟨le4 _ _ (NH.set_self _ _ _), NH.set_self _ _ _⟩
    · rw [List.map_append, List.nodup_append]
      refine ⟨hc.nd, by simp, fun a ha c hcm => ?_⟩
      obtain ⟨c', hc', rfl⟩ := List.mem_map.mp ha
      have e1 : c = dd := by simpa using hcm
      rw [e1]
      intro e2
      have := (hc.at_ c' hc').2
      rw [e2, hd] at this; cases this
    · rw [List.range_succ, List.map_append]
      unfold rowsC at hrows ⊢
      rw [List.map_append, hrows]
      have : cs.getD k 0 = cs[k] := by rw [List.getD_eq_getElem?_getD, List.getElem?_eq_getElem (by omega)]; rfl
      show _ = _ ++ [initR cs k]
      unfold initR
      rw [this]; rfl
  rintro ys σ' ⟨hle, cells, rfl, hc, hrows⟩ D hD
  rw [rangeL_len, hn] at hrows
  have le5 := NH.le_set _ (.list (cellV cells)) hD
  walk_at "m_go"
  refine FC_Buffer fun x dd hx hd hne => ?_
  have le3 := NH.le_set _ (.inst 103 dd) hx
  have hd' : ((σ'.set D (.list (cellV cells))).set x (.inst 103 dd)) dd = none := by rw [NH.set_ne _ _ (Ne.symm hne)]; exact hd
  have le4 := NH.le_set _ (.dct (bufD D)) hd'
  have leZ := NH.le_trans le5 (NH.le_trans le3 le4)
  refine h _ x dd D cells ⟨le4 _ _ (NH.set_self _ _ _), NH.set_self _ _ _, le4 _ _ (le3 _ _ (NH.set_self _ _ _)), hc.le leZ⟩ (NH.le_trans le2 (NH.le_trans hle leZ)) (NH.le_none le2 (NH.le_none hle hD)) hrows
end

section
variable {W : Wd} {X : Addr → Prop} {A : Around} {σ : NH} {s : Shared} {d : Nat} {env : Env} {ρ : Loc} {Q : Value → NH → Prop} {K : Flow → Loc → NH → Prop}

noncomputable def FrX (l : Addr) (σ σ' : NH) : Prop := ∀ x o, σ x = some o → x ≠ l → (∀ m, o ≠ .dct m) → σ' x = some o

theorem FC_reorder {hc : Bool} {cells : List Cell} {b bd l : Addr} (hlen : cells.length < 30000) (hb : BufAt σ b bd l cells) (hm : Mono (rowsC cells))
    (h : ∀ σ' l' cells', BufAt σ' b bd l' cells' → rowsC cells' = allF hc (rowsC cells) → FrX l σ σ' → Q .none σ') : FC W (d+6) (.ref 224) [.ref b, .bool hc] σ Q := by
  refine FC_fn2 F224 "buffer" "has_circle" (fun _ _ _ i => BindsTo.of_defaults rfl (i.KI 219 _ rfl) rfl rfl rfl) (by rfl) ?_
  intro L
  let env := EN F224 L
  show SC _ _ env (execs F224.body env) _ _ _
  dsimp only [F224]
  generalize hcs : codesF (rowsC cells) = cs
  have hcn : cs.length = cells.length := by rw [← hcs, codesF_len, rowsC_len]
  unfold allF at h
  rw [hcs] at h
  obtain ⟨sy1, sy2⟩ := syls_ok cs
  refine S_comp (CompOK.of (by rfl) rfl rfl rfl) (by rfl) (IV_src (EV_attr ?_))
  walk_at "m_go"
  refine ⟨_, _, _, _, _, rfl, hb.b, hb.bd, AB_row, rfl, rfl, _, _, SrcV.list hb.l, by rw [cellV_len]; omega, fun k ys σ' => σ = σ' ∧ ys = intL (codesF (rowsC (cells.take k))), ⟨rfl, rfl⟩, fun k ys σ' hI => by rw [← hI.1]; exact hb.l, ?_, ?_⟩
  · rintro C k v ys _ hx ⟨rfl, rfl⟩
    obtain ⟨c', hc', rfl⟩ := cellV_at hx
    have ii := hb.c.at_ c' (List.mem_of_getElem? hc')
    refine CT_nil ?_
    refine ite_b (fun _ => ?_) (fun c => by cases c)
    refine EV_nattr (by rfl) (by rfl) ii.1 ii.2 AI_code (by rfl) (by rfl) ?_
    refine ⟨rfl, ?_⟩
    rw [take_snoc hc']; simp [rowsC, codesF, intL]
  rintro ys _ ⟨rfl, rfl⟩ D1 hD1
  rw [cellV_len, List.take_length, hcs]
  have le1 := NH.le_set _ (.list (intL cs)) hD1
  have k1 := NH.set_self σ D1 (.list (intL cs))
  have hD1l : D1 ≠ l := by rintro rfl; rw [hb.l] at hD1; cases hD1
  generalize σ.set D1 (.list (intL cs)) = τ at le1 k1
  refine S_for (IV_rev (by rfl) (by rfl) b_reversed ?_)
  walk_at "m_go"
  refine FC_syllables k1 (by omega) fun τ2 r as le2 hr kr hS => ⟨r, _, rfl, kr, ?_⟩
  have leA := NH.le_trans le1 le2
  have hb2 := AO_row hb leA
  have k2 := le2 _ _ k1
  have hrl : r ≠ l := by rintro rfl; have := le1 _ _ hb.l; rw [hr] at this; cases this
  refine ⟨fun k ρ' σ' => ∃ l' cells', Sub ρ' [("buffer", .ref b), ("has_circle", .bool hc), ("codes", .ref D1)] ∧ BufAt σ' b bd l' cells' ∧ rowsC cells' = ((syls cs).reverse.take k).foldl (stepF hc cs) (rowsC cells) ∧ FrX l τ2 σ' ∧ (l' = l ∨ ∀ o, τ2 l' = some o → ∃ m, o = .dct m),
    ⟨l, cells, by walk_at "m_sub", hb2, rfl, fun x o hx _ _ => hx, .inl rfl⟩, fun k ρ' σ' ⟨l', cells', _, _, _, hf, _⟩ => hf _ _ kr hrl (by simp), ?_, ?_⟩
  · rintro k v ρ' σ' hx ⟨l', C, hsub, hbC, hrows, hfr, hl'⟩
    rw [← List.map_reverse] at hx
    obtain ⟨a, ha, rfl⟩ := refs_get hx
    have hk : k < as.length := by have := lt_of_get ha; simpa using this
    have hlr : (syls cs).length = as.length := hS.len.symm
    rw [List.getElem?_reverse hk] at ha
    obtain ⟨p, hp, hpa⟩ := hS.get ha
    have hp2 : (syls cs).reverse[k]? = some p := by rw [List.getElem?_reverse (by omega), hlr]; exact hp
    obtain ⟨pb, pe⟩ := p
    have hpm := sy1 _ (List.mem_of_getElem? hp)
    dsimp only at hpm
    have hal : a ≠ l := by
      rintro rfl
      have := hb2.l
      unfold NPair at hpa
      rw [hpa] at this; cases this
    have hpa' := hfr _ _ hpa hal (by simp)
    have hkept := foldF_kept (hc := hc) (cs := cs) ((syls cs).reverse.take k) (rowsC cells) hm fun q hq => by
      have := sy1 q (List.mem_reverse.mp (List.mem_of_mem_take hq))
      rw [rowsC_len, ← hcn]; exact this
    rw [← hrows, rowsC_len, rowsC_len, List.length_take, List.length_reverse] at hkept
    obtain ⟨km, kl1, kl2, _, _⟩ := hkept
    have kD := hfr _ _ k2 hD1l (by simp)
    refine AC.sub hsub (AC_tuple hpa' ?_)
    walk_at "m_go"
    have hstep : ((syls cs).reverse.take (k + 1)).foldl (stepF hc cs) (rowsC cells) = stepF hc cs (rowsC C) (pb, pe) := by
      rw [take_snoc hp2, List.foldl_append, ← hrows]; rfl
    have hclen : C.length < 100000 := by omega
    have nl : ∀ x o, τ2 x = some o → x ≠ l → (∀ m, o ≠ .dct m) → x ≠ l' := fun x o hx hne hnd => by
      rcases hl' with e0 | e0
      · rw [e0]; exact hne
      · rintro rfl
        obtain ⟨m, hm⟩ := e0 o hx
        exact hnd m hm
    have nl4 : ∀ σ2 : NH, FrX l τ2 σ2 → ∀ l4, (l4 = l' ∨ σ2 l4 = none) → l4 = l ∨ ∀ o, τ2 l4 = some o → ∃ m, o = .dct m := fun σ2 hfr2 l4 hl4 => by
      rcases hl4 with rfl | hl4
      · exact hl'
      · by_cases e0 : l4 = l
        · exact .inl e0
        · refine .inr fun o hq => Classical.byContradiction fun hn => ?_
          have := hfr2 _ _ hq e0 (fun m e1 => hn ⟨m, e1⟩)
          rw [hl4] at this; cases this
    
    have lone : ∀ lo : Bool, lo = (hc && brokenF (cs.getD pb 0)) → SE W (d + 5) env (match F224.body with | [_, Stmt.For _ _ (_ :: more) _ _] => more | _ => [])
        [("is_lone", .bool lo), ("end", .int (pe : Int) 0), ("begin", .int (pb : Int) 0), ("buffer", .ref b), ("has_circle", .bool hc), ("codes", .ref D1)] σ'
        (fun f ρ₃ σ₃ => match f with
          | .next | .cont => ∃ l' cells', Sub ρ₃ [("buffer", .ref b), ("has_circle", .bool hc), ("codes", .ref D1)] ∧ BufAt σ₃ b bd l' cells' ∧ rowsC cells' = ((syls cs).reverse.take (k + 1)).foldl (stepF hc cs) (rowsC cells) ∧ FrX l τ2 σ₃ ∧ (l' = l ∨ ∀ o, τ2 l' = some o → ∃ m, o = .dct m)
          | .brk => SE W (d + 5) env [] ρ₃ σ₃ (fun fl _ σ' => Q (match fl with | .ret v => v | _ => .none) σ')
          | .ret v => Q v σ₃) := by
      intro lo hlo
      dsimp only [F224]
      rw [hstep]
      unfold stepF
      rw [← hlo]
      dsimp only
      cases lo with
      | true =>
        rw [if_pos rfl]
        walk_at "m_go"
        refine ite_b (fun _ => ?_) (fun c => by cases c)
        refine S_expr ?_
        walk_at "m_go"
        refine FC_put_circle pb rfl (by omega) hclen hbC fun σ2 cc hb3 hcr hfr2 => ⟨rfl, ?_⟩
        have hrows3 := cells_put (C := C) (i := pb) (by omega) cc hcr
        have hl3 : (C.take pb ++ cc :: C.drop pb).length = C.length + 1 := by simp; omega
        generalize C.take pb ++ cc :: C.drop pb = C3 at hb3 hrows3 hl3
        have km3 := circleF_mono km (b := pb) (by rw [rowsC_len]; omega)
        rw [← hrows3] at km3 ⊢
        walk_at "m_go"
        refine S_expr ?_
        walk_at "m_go"
        refine ite_b (fun _ => ?_) (fun c => by cases c)
        walk_at "m_go"
        refine FC_move_matras pb (pe + 1) rfl (by omega) (by omega) (by omega) (by omega) hb3 km3 fun σ4 l4 C4 hb4 hr4 hf4 hl4 => ⟨rfl, ?_⟩
        walk_at "m_go"
        exact ⟨l4, C4, by walk_at "m_sub", hb4, hr4, fun x o hx hne hnd => hf4 _ _ (hfr2 _ _ (hfr x o hx hne hnd) (nl x o hx hne hnd)) hnd,
          nl4 σ2 (fun x o hx hne hnd => hfr2 _ _ (hfr x o hx hne hnd) (nl x o hx hne hnd)) l4 hl4⟩
      | false =>
        rw [if_neg (by decide)]
        walk_at "m_go"
        refine ite_b (fun c => by cases c) (fun _ => ?_)
        walk_at "m_go"
        refine S_expr ?_
        walk_at "m_go"
        refine ite_b (fun c => by cases c) (fun _ => ?_)
        walk_at "m_go"
        refine FC_move_matras pb pe rfl rfl hpm.1 (by omega) hclen hbC km fun σ4 l4 C4 hb4 hr4 hf4 hl4 => ⟨rfl, ?_⟩
        walk_at "m_go"
        exact ⟨l4, C4, by walk_at "m_sub", hb4, hr4, fun x o hx hne hnd => hf4 _ _ (hfr x o hx hne hnd) hnd, nl4 σ' hfr l4 hl4⟩
    refine EV_and ?_
    walk_at "m_go"
    cases hhc : hc with
    | true =>
      rw [hhc] at lone
      refine ite_b (fun _ => ?_) (fun c => by cases c)
      walk_at "m_go"
      refine FC_is_broken pb rfl (by omega) kD (by omega) ?_
      refine AC_local (by rfl) ?_
      exact lone _ (by rw [Bool.true_and])
    | false =>
      rw [hhc] at lone
      refine ite_b (fun c => by cases c) (fun _ => ?_)
      refine AC_local (by rfl) ?_
      exact lone _ rfl
  · rintro ρ' σ' ⟨l', C, hsub, hbC, hrows, hfr, hl'⟩
    rw [List.length_reverse, List.length_map, hS.len] at hrows
    rw [← List.length_reverse, List.take_length] at hrows
    walk_at "m_go"
    exact h σ' l' C hbC hrows fun x o hx hne hnd => hfr _ _ (leA _ _ hx) hne hnd
end

theorem goal_shift {cs : List Int} {b e : Nat} (hb : b < e) (he : e ≤ cs.length) : b + goalF ((cs.take e).drop b) 0 (e - b) = goalF cs b e := by
  unfold goalF
  have key : ∀ n, n ≤ e - 1 - b → b + (List.range' 0 n).foldl (goalS ((cs.take e).drop b)) 0 = (List.range' b n).foldl (goalS cs) b := by
    intro n
    induction n with
    | zero => intro _; rfl
    | succ n ih =>
      intro hn
      have h1 := ih (by omega)
      rw [goalF_snoc, goalF_snoc, ← h1, Nat.zero_add]
      have e1 : ((cs.take e).drop b).getD n 0 = cs.getD (b + n) 0 := by
        rw [List.getD_eq_getElem?_getD, List.getElem?_drop, List.getElem?_take, if_pos (by omega), List.getD_eq_getElem?_getD]
      have e2 : ((cs.take e).drop b).getD (n + 1) 0 = cs.getD (b + n + 1) 0 := by
        rw [List.getD_eq_getElem?_getD, List.getElem?_drop, List.getElem?_take, if_pos (by omega), List.getD_eq_getElem?_getD]; rfl
      unfold goalS
      rw [e1, e2]
      split <;> omega
  have := key (e - 1 - b) (Nat.le_refl _)
  rw [show e - b - 1 - 0 = e - 1 - b by omega]
  exact this
noncomputable def okC (c : Int) : Prop := brokenF c = ((decide (2364 ≤ c) && decide (c ≤ 2381) && decide (c ≠ 2365)) || decide (c = 2306))
theorem merge_cond {rs : List Row} (hm : Mono rs) {g last k : Nat} (hg : g < last) (hl : last ≤ rs.length) (hk : k < rs.length) :
    ((g ≤ k ∧ k < last) ∨ clF rs k = clF rs g ∨ clF rs k = clF rs (last - 1)) ↔ (clF rs g ≤ clF rs k ∧ clF rs k ≤ clF rs (last - 1)) := by
  have a0 := mono_get hm (i := g) (j := last - 1) (by omega) (by omega)
  constructor
  · rintro (⟨k1, k2⟩ | k1 | k1)
    · exact ⟨mono_get hm (by omega) hk, mono_get hm (by omega) (by omega)⟩
    · rw [k1]; exact ⟨Int.le_refl _, a0⟩
    · rw [k1]; exact ⟨a0, Int.le_refl _⟩
  · rintro ⟨k1, k2⟩
    by_cases c1 : k < g
    · have := mono_get hm (i := k) (j := g) (by omega) (by omega)
      exact .inr (.inl (by omega))
    · by_cases c2 : k < last
      · exact .inl ⟨by omega, c2⟩
      · have := mono_get hm (i := last - 1) (j := k) (by omega) hk
        exact .inr (.inr (by omega))
theorem okC_con {c : Int} (h1 : 2325 ≤ c) (h2 : c ≤ 2361) : okC c := by
  have : ∀ n : Nat, n < 37 → okC (2325 + (n : Int)) := by unfold okC; decide
  have := this (c - 2325).toNat (by omega)
  rwa [show 2325 + (((c - 2325).toNat : Nat) : Int) = c by omega] at this
theorem okC_oth {c : Int} (h : c ∈ ([2381, 2367, 8204, 8205, 2364, 2306, 2309, 2366] : List Int)) : okC c := by
  have : ∀ c ∈ ([2381, 2367, 8204, 8205, 2364, 2306, 2309, 2366] : List Int), okC c := by unfold okC; decide
  exact this c h

structure RC where
  a : Addr
  r : Row
noncomputable def rc0 : RC := ⟨0, row0⟩
noncomputable def refsR (rc : List RC) : List Value := rc.map fun c => .ref c.a
noncomputable def rowsR (rc : List RC) : List Row := rc.map (·.r)
noncomputable def rowV (r : Row) : List Value := [.int r.code 0, .int r.cluster 0, .int r.mask 0, .int r.glyph 0, .str r.kind 0]
structure RRows (σ : NH) (rc : List RC) : Prop where
  at_ : ∀ c ∈ rc, σ c.a = some (.list (rowV c.r))
  nd : (rc.map (·.a)).Nodup
noncomputable def FrR (σ σ' : NH) (rc : List RC) : Prop := ∀ x o, σ x = some o → (∀ c ∈ rc, x ≠ c.a) → σ' x = some o
noncomputable def mrgRC (lo hi : Int) (c : RC) : RC := { c with r := mrgR lo hi c.r }
theorem refsR_get {rc : List RC} {i : Nat} (h : i < rc.length) : (refsR rc)[i]? = some (.ref rc[i].a) := by
  unfold refsR; rw [List.getElem?_map, List.getElem?_eq_getElem h]; rfl
theorem refsR_len (rc : List RC) : (refsR rc).length = rc.length := by simp [refsR]
theorem rowsR_len (rc : List RC) : (rowsR rc).length = rc.length := by simp [rowsR]
theorem rowsR_cl {rc : List RC} {i : Nat} (h : i < rc.length) : clF (rowsR rc) i = rc[i].r.cluster := by
  rw [clF_get (by rw [rowsR_len]; exact h)]; simp [rowsR]
theorem rowsR_code {rc : List RC} {i : Nat} (h : i < rc.length) : (codesF (rowsR rc)).getD i 0 = rc[i].r.code := by
  rw [codesF_get (by rw [rowsR_len]; exact h)]; simp [rowsR]
theorem RRows.get {σ : NH} {rc : List RC} (h : RRows σ rc) {i : Nat} (hi : i < rc.length) : σ rc[i].a = some (.list (rowV rc[i].r)) := h.at_ _ (List.getElem_mem hi)
theorem RRows.le {σ τ : NH} {rc : List RC} (h : RRows σ rc) (k : σ.le τ) : RRows τ rc := ⟨fun c hc => k _ _ (h.at_ c hc), h.nd⟩
theorem refsR_at {rc : List RC} {i : Nat} {v : Value} (h : (refsR rc)[i]? = some v) : ∃ c, rc[i]? = some c ∧ v = .ref c.a := by
  unfold refsR at h
  rw [List.getElem?_map] at h
  obtain ⟨a, h1, h2⟩ := Option.map_eq_some_iff.mp h
  exact ⟨a, h1, h2.symm⟩
theorem nodup_a {rc : List RC} (h : (rc.map (·.a)).Nodup) {i j : Nat} (hi : i < rc.length) (hj : j < rc.length) (hne : i ≠ j) : rc[i].a ≠ rc[j].a := by
  intro e
  rw [List.nodup_iff_pairwise_ne, List.pairwise_iff_getElem] at h
  rcases Nat.lt_or_gt_of_ne hne with h1 | h1
  · exact h i j (by simpa using hi) (by simpa using hj) h1 (by simpa using e)
  · exact h j i (by simpa using hj) (by simpa using hi) h1 (by simpa using e.symm)
theorem rowV_ne (r : Row) (rc : List RC) : rowV r ≠ refsR rc := by
  intro h
  cases rc with
  | nil => cases h
  | cons c t => injection h with h1 _; cases h1
theorem rowV_ne_i (r : Row) (ns : List Nat) : rowV r ≠ natL ns := by
  intro h
  have h4 : (rowV r)[4]? = some (.str r.kind 0) := rfl
  rw [h] at h4
  obtain ⟨n, _, h5⟩ := natL_at h4
  cases h5
theorem RRows.other {σ : NH} {rc : List RC} (h : RRows σ rc) {x : Addr} {o : NO} (hx : σ x = some o) (ho : ∀ r, o ≠ .list (rowV r)) : ∀ c ∈ rc, x ≠ c.a := fun c hc e => by
  have := h.at_ c hc
  rw [← e, hx] at this
  cases this
  exact ho _ rfl
theorem sliceL_refs (rc : List RC) (g e : Nat) : sliceL (refsR rc) (some g) (some e) = refsR ((rc.take e).drop g) := by
  simp [sliceL, refsR, List.map_take, List.map_drop]

section
variable {W : Wd} {X : Addr → Prop} {A : Around} {σ : NH} {s : Shared} {d : Nat} {env : Env} {ρ : Loc} {Q : Value → NH → Prop} {K : Flow → Loc → NH → Prop}

theorem FC_law_goal {rc : List RC} {l : Addr} (hl : σ l = some (.list (refsR rc))) (hr : RRows σ rc) (hlen : rc.length < 100000) (h : Q (.int (goalF (codesF (rowsR rc)) 0 rc.length : Nat) 0) σ) : FC W (d+1) (.ref 250) [.ref l] σ Q := by
  refine FC.forget ?_
  refine FC_fn1 F250 "rows" (fun _ _ _ => BindsTo.of_eq rfl) (by rfl) ?_
  intro L
  let env := EN F250 L
  show SC _ _ env (execs F250.body env) _ _ _
  dsimp only [F250]
  walk_at "m_go"
  refine S_for (IV_src ?_)
  walk_at "m_go"
  refine CB_len hl (by rw [refsR_len]; omega) ?_
  walk_at "m_go"
  refine CB_range1 fun r hr0 => ?_
  rw [refsR_len]
  have le1 := NH.le_set _ (.rng 0 ((rc.length : Int) - 1) 1) hr0
  have hn : (((rc.length : Int) - 1) - 0).toNat = rc.length - 1 - 0 := by omega
  refine ⟨_, _, SrcV.rng (NH.set_self _ _ _) (by omega) (by omega) (by omega) (by omega), fun i ρ' σ' => σ.set r (.rng 0 ((rc.length : Int) - 1) 1) = σ' ∧ Sub ρ' [("rows", .ref l), ("goal", .int ((List.range' 0 i).foldl (goalS (codesF (rowsR rc))) 0 : Nat) 0)], ?_, fun _ _ _ _ => trivial, ?_, ?_⟩
  · exact ⟨rfl, by walk_at "m_sub"⟩
  · rintro i v ρ' _ hx ⟨rfl, hsub⟩
    obtain ⟨hi, rfl⟩ := rangeL_getN (g := 0) hx
    rw [hn] at hi
    rw [Nat.zero_add]
    have hl' := le1 _ _ hl
    have i1 := le1 _ _ (hr.get (i := i) (by omega))
    have i2 := le1 _ _ (hr.get (i := i + 1) (by omega))
    have hg := goalF_snoc (codesF (rowsR rc)) 0 i
    unfold goalS at hg
    rw [Nat.zero_add, rowsR_code (i := i) (by omega), rowsR_code (i := i + 1) (by omega)] at hg
    refine AC.sub hsub ?_
    walk_at "m_go"
    refine EV_item (EV_item ?_)
    walk_at "m_go"
    refine ⟨_, _, _, _, rfl, hl', rfl, by omega, by omega, (by rw [show ((i : Int)).toNat = i by omega]; exact refsR_get (by omega)), ?_⟩
    walk_at "m_go"
    refine ⟨_, _, _, _, rfl, i1, rfl, by omega, by omega, rfl, ?_⟩
    walk_at "m_go"
    refine ite_b (fun c1 => ?_) (fun c1 => ?_)
    · walk_at "m_go"
      refine EV_item (EV_item ?_)
      walk_at "m_go"
      refine ⟨_, _, _, _, rfl, hl', rfl, by omega, by omega, (by rw [show ((i : Int) + 1).toNat = i + 1 by omega]; exact refsR_get (by omega)), ?_⟩
      walk_at "m_go"
      refine ⟨_, _, _, _, rfl, i2, rfl, by omega, by omega, rfl, ?_⟩
      walk_at "m_go"
      refine ite_b (fun c2 => ?_) (fun c2 => ?_)
      · walk_at "m_go"
        rw [if_pos ⟨by simpa using c1, by simpa using c2⟩] at hg
        refine ⟨rfl, Sub.cons (by rfl) (Sub.cons ?_ Sub.nil)⟩
        show some _ = some _
        congr 2
        unfold goalS
        rw [hg]; push_cast; rfl
      · walk_at "m_go"
        rw [if_neg (fun hh => by rw [hh.2] at c2; simp at c2)] at hg
        refine ⟨rfl, Sub.cons (by rfl) (Sub.cons ?_ Sub.nil)⟩
        show some _ = some _
        congr 2
        unfold goalS
        rw [hg]
    · rw [if_neg (by decide)]
      walk_at "m_go"
      rw [if_neg (fun hh => by rw [hh.1] at c1; simp at c1)] at hg
      refine ⟨rfl, Sub.cons (by rfl) (Sub.cons ?_ Sub.nil)⟩
      show some _ = some _
      congr 2
      unfold goalS
      rw [hg]
  · rintro ρ' _ ⟨rfl, hsub⟩
    refine SC.sub hsub ?_
    walk_at "m_go"
    refine ⟨σ, le1, ?_⟩
    rw [rangeL_len, hn]
    exact h

theorem FC_law_merge {rc : List RC} {l : Addr} {z y : Int} (g last : Nat) (hz : z = g) (hy : y = last) (hg : g < last) (hlast : last ≤ rc.length) (hlen : rc.length < 100000) (hl : σ l = some (.list (refsR rc))) (hr : RRows σ rc) (hm : Mono (rowsR rc))
    (h : ∀ σ', RRows σ' (rc.map (mrgRC (clF (rowsR rc) g) (clF (rowsR rc) (last - 1)))) → FrR σ σ' rc → Q .none σ') : FC W (d+1) (.ref 255) [.ref l, .int z 0, .int y 0] σ Q := by
  refine FC_fn3 F255 "rows" "begin" "end" (fun _ _ _ _ _ => BindsTo.of_eq rfl) (by rfl) ?_
  intro L
  let env := EN F255 L
  show SC _ _ env (execs F255.body env) _ _ _
  dsimp only [F255]
  subst hz hy
  walk_at "m_go"
  refine ite_b (fun c => ?_) (fun c => ?_)
  · have e1 : last = g + 1 := by simp at c; omega
    subst e1
    walk_at "m_go"
    refine h σ ?_ fun x o hx _ => hx
    have : rc.map (mrgRC (clF (rowsR rc) g) (clF (rowsR rc) (g + 1 - 1))) = rc := by
      rw [Nat.add_sub_cancel]
      conv => rhs; rw [← List.map_id rc]
      apply List.map_congr_left
      intro c _
      unfold mrgRC
      rw [mrgR_self (by omega)]; rfl
    rw [this]; exact hr
  walk_at "m_go"
  refine EV_comp (CompOK.of (by rfl) rfl rfl rfl) (IV_src (EV_slice ?_))
  walk_at "m_go"
  refine EO_some ?_
  walk_at "m_go"
  refine ⟨g, rfl, EO_some ?_⟩
  walk_at "m_go"
  refine ⟨last, rfl, l, _, rfl, hl, by rw [refsR_len]; omega, fun L1 hL1 => ?_⟩
  rw [sliceL_refs]
  have le1 := NH.le_set _ (.list (refsR ((rc.take last).drop g))) hL1
  have hsl := NH.set_self σ L1 (.list (refsR ((rc.take last).drop g)))
  refine ⟨_, _, SrcV.list hsl, by rw [refsR_len, slice_len _ hlast]; omega, fun i ys σ' => σ.set L1 (.list (refsR ((rc.take last).drop g))) = σ' ∧ ys = intL (clsF (rowsR (((rc.take last).drop g).take i))), ⟨rfl, rfl⟩, fun i ys σ' hI => by rw [← hI.1]; exact hsl, ?_, ?_⟩
  · rintro C i v ys _ hx ⟨rfl, rfl⟩
    obtain ⟨c', hc', rfl⟩ := refsR_at hx
    have ii := (hr.le le1).at_ c' (List.mem_of_getElem? (slice_get hc').2)
    refine CT_nil ?_
    refine ite_b (fun _ => ?_) (fun c => by cases c)
    refine EV_item ?_
    walk_at "m_go"
    refine ⟨_, _, _, _, rfl, ii, rfl, by omega, by omega, rfl, rfl, ?_⟩
    rw [take_snoc hc']; simp [rowsR, clsF, intL]
  rintro ys _ ⟨rfl, rfl⟩ D hD
  rw [refsR_len, List.take_length]
  walk_at "m_go"
  have le2 := NH.le_set (σ := σ.set L1 (.list (refsR ((rc.take last).drop g)))) (.list (intL (clsF (rowsR ((rc.take last).drop g))))) hD
  have hslg : ((rc.take last).drop g)[0]? = some rc[g] := by
    rw [List.getElem?_drop, List.getElem?_take, if_pos (by omega)]
    exact List.getElem?_eq_getElem (by omega)
  refine CB_min (NH.set_self _ _ _) (fun e => ?_) fun m hm1 hm2 => ?_
  · have := congrArg List.length e
    rw [clsF_len, rowsR_len, slice_len _ hlast] at this
    simp at this; omega
  have hmg : m = clF (rowsR rc) g := by
    have a1 : m ≤ clF (rowsR rc) g := hm2 _ (by
      rw [rowsR_cl (by omega)]
      exact List.mem_map.mpr ⟨_, List.mem_map.mpr ⟨_, List.mem_of_getElem? hslg, rfl⟩, rfl⟩)
    have a2 : clF (rowsR rc) g ≤ m := by
      obtain ⟨r, hr', rfl⟩ := List.mem_map.mp hm1
      obtain ⟨c', hc', rfl⟩ := List.mem_map.mp hr'
      obtain ⟨i, hi⟩ := List.getElem?_of_mem hc'
      obtain ⟨k1, k2⟩ := slice_get hi
      have k3 := lt_of_get k2
      rw [List.getElem?_eq_getElem k3] at k2
      have := mono_get hm (i := g) (j := g + i) (by omega) (by rw [rowsR_len]; exact k3)
      rw [rowsR_cl k3, Option.some.inj k2] at this
      exact this
    omega
  refine AC_local (by rfl) (SC.le (NH.le_trans le1 le2) ?_)
  clear hm1 hm2 hD le2 hsl le1 hL1
  have cond := fun k (hk : k < rc.length) => merge_cond hm hg (by rw [rowsR_len]; exact hlast) (k := k) (by rw [rowsR_len]; exact hk)
  have ig := hr.get (i := g) (by omega)
  have il := hr.get (i := last - 1) (by omega)
  rw [rowsR_cl (i := g) (by omega), rowsR_cl (i := last - 1) (by omega)] at h cond
  rw [rowsR_cl (i := g) (by omega)] at hmg
  walk_at "m_go"
  refine EV_item (EV_item ?_)
  walk_at "m_go"
  refine ⟨_, _, _, _, rfl, hl, rfl, by omega, by omega, (by rw [show ((g : Int)).toNat = g by omega]; exact refsR_get (by omega)), ?_⟩
  walk_at "m_go"
  refine ⟨_, _, _, _, rfl, ig, rfl, by omega, by omega, rfl, ?_⟩
  walk_at "m_go"
  refine EV_item (EV_item ?_)
  walk_at "m_go"
  refine ⟨_, _, _, _, rfl, hl, rfl, by omega, by omega, (by rw [show ((last : Int) - 1).toNat = last - 1 by omega]; exact refsR_get (by omega)), ?_⟩
  walk_at "m_go"
  refine ⟨_, _, _, _, rfl, il, rfl, by omega, by omega, rfl, ?_⟩
  walk_at "m_go"
  refine ⟨by simp, fun D hD => ?_⟩
  have le1 := NH.le_set _ (.list [.int rc[g].r.cluster 0, .int rc[last - 1].r.cluster 0]) hD
  have kD := NH.set_self σ D (.list [.int rc[g].r.cluster 0, .int rc[last - 1].r.cluster 0])
  walk_at "m_go"
  refine S_for (IV_src ?_)
  walk_at "m_go"
  refine CB_len (le1 _ _ hl) (by rw [refsR_len]; omega) ?_
  walk_at "m_go"
  refine CB_range1 fun r hr0 => ?_
  rw [refsR_len]
  have le2 := NH.le_set _ (.rng 0 (rc.length : Int) 1) hr0
  have kR := NH.set_self (σ.set D (.list [.int rc[g].r.cluster 0, .int rc[last - 1].r.cluster 0])) r (.rng 0 (rc.length : Int) 1)
  have hn : ((rc.length : Int) - 0).toNat = rc.length := by omega
  have kD2 := le2 _ _ kD
  have leT := NH.le_trans le1 le2
  generalize (σ.set D (.list [.int rc[g].r.cluster 0, .int rc[last - 1].r.cluster 0])).set r (.rng 0 (rc.length : Int) 1) = τ at kR kD2 leT
  clear le1 le2 kD hr0 hD
  have hrT := hr.le leT
  refine ⟨_, _, SrcV.rng kR (by omega) (by omega) (by omega) (by omega), fun k ρ' σ' => Sub ρ' [("rows", .ref l), ("begin", .int g 0), ("end", .int last 0), ("least_cluster", .int m 0), ("ends", .ref D)] ∧
    (∀ (j : Nat) (hj : j < rc.length), σ' rc[j].a = some (.list (rowV (if j < k then mrgR rc[g].r.cluster rc[last - 1].r.cluster rc[j].r else rc[j].r)))) ∧ FrR τ σ' rc, ⟨by walk_at "m_sub", ?_, fun x o hx _ => hx⟩, fun _ _ _ _ => trivial, ?_, ?_⟩
  · intro j hj
    rw [if_neg (by omega)]
    exact hrT.get hj
  · rintro k v ρ' σ' hx ⟨hsub, hin, hfr⟩
    obtain ⟨hk, rfl⟩ := rangeL_getN (g := 0) hx
    rw [hn] at hk
    rw [Nat.zero_add]
    have hl' := hfr _ _ (leT _ _ hl) (hrT.other (leT _ _ hl) fun r e => rowV_ne r rc (by injection e with e; exact e.symm))
    have hD' := hfr _ _ kD2 (hrT.other kD2 fun r e => by injection e with e; have := congrArg List.length e; simp [rowV] at this)
    have ik := hin k hk
    rw [if_neg (Nat.lt_irrefl _)] at ik
    have ck := cond k hk
    rw [rowsR_cl hk] at ck
    have hset : ∀ σ2, σ2 = σ'.set rc[k].a (.list (rowV (mrgR rc[g].r.cluster rc[last - 1].r.cluster rc[k].r))) →
        (∀ (j : Nat) (hj : j < rc.length), σ2 rc[j].a = some (.list (rowV (if j < k + 1 then mrgR rc[g].r.cluster rc[last - 1].r.cluster rc[j].r else rc[j].r)))) ∧ FrR τ σ2 rc := by
      rintro _ rfl
      refine ⟨fun j hj => ?_, fun x o hx hne => ?_⟩
      · by_cases hjk : j = k
        · subst hjk
          rw [if_pos (by omega)]
          exact NH.set_self _ _ _
        · have := hin j hj
          rw [NH.set_ne _ _ (nodup_a hr.nd hj hk hjk), this]
          have e1 : (j < k + 1) ↔ (j < k) := by omega
          simp only [e1]
      · rw [NH.set_ne _ _ (hne _ (List.getElem_mem hk))]
        exact hfr x o hx hne
    have hno : ¬ (rc[g].r.cluster ≤ rc[k].r.cluster ∧ rc[k].r.cluster ≤ rc[last - 1].r.cluster) → σ' = σ'.set rc[k].a (.list (rowV (mrgR rc[g].r.cluster rc[last - 1].r.cluster rc[k].r))) := fun hh => by
      unfold mrgR
      rw [if_neg hh, NH.set_same ik]
    have hyes : (rc[g].r.cluster ≤ rc[k].r.cluster ∧ rc[k].r.cluster ≤ rc[last - 1].r.cluster) → rowV (mrgR rc[g].r.cluster rc[last - 1].r.cluster rc[k].r) = (rowV rc[k].r).set 1 (.int m 0) := fun hh => by
      unfold mrgR
      rw [if_pos hh, hmg]; rfl
    refine AC.sub hsub (AC_local (by rfl) (S_if ?_))
    have store : (rc[g].r.cluster ≤ rc[k].r.cluster ∧ rc[k].r.cluster ≤ rc[last - 1].r.cluster) → ∀ K, (∀ ρ2 σ2, Sub ρ2 [("rows", .ref l), ("begin", .int g 0), ("end", .int last 0), ("least_cluster", .int m 0), ("ends", .ref D)] → σ2 = σ'.set rc[k].a (.list (rowV (mrgR rc[g].r.cluster rc[last - 1].r.cluster rc[k].r))) → K Flow.next ρ2 σ2) →
        SE W d env (match F255.body with | [_, _, _, Stmt.For _ _ [Stmt.If _ b _ _] _ _] => b | _ => []) [("at", .int (k : Int) 0), ("rows", .ref l), ("begin", .int g 0), ("end", .int last 0), ("least_cluster", .int m 0), ("ends", .ref D)] σ' K := by
      intro hh K hK
      dsimp only [F255]
      walk_at "m_go"
      refine AC_item (EV_item ?_)
      walk_at "m_go"
      refine ⟨_, _, _, _, rfl, hl', rfl, by omega, by omega, (by rw [show ((k : Int)).toNat = k by omega]; exact refsR_get (by omega)), ?_⟩
      walk_at "m_go"
      refine ⟨_, _, _, rfl, ik, rfl, by omega, by omega, by simp [rowV], ?_⟩
      walk_at "m_go"
      exact hK _ _ (by walk_at "m_sub") (by rw [hyes hh]; rfl)
    walk_at "m_go"
    refine ite_b (fun c1 => ?_) (fun c1 => ?_)
    · walk_at "m_go"
      refine ite_b (fun c2 => ?_) (fun c2 => ?_)
      · refine ite_b (fun _ => ?_) (fun c => by cases c)
        refine store (ck.mp (.inl ⟨by simp at c1; omega, by simp at c2; omega⟩)) _ fun ρ2 σ2 h1 h2 => ?_
        walk_at "m_go"
        exact ⟨h1, hset _ h2⟩
      · have hnin : ¬ (g ≤ k ∧ k < last) := fun hh => by simp at c2; omega
        walk_at "m_go"
        refine EV_item (EV_item ?_)
        walk_at "m_go"
        refine ⟨_, _, _, _, rfl, hl', rfl, by omega, by omega, (by rw [show ((k : Int)).toNat = k by omega]; exact refsR_get (by omega)), ?_⟩
        walk_at "m_go"
        refine ⟨_, _, _, _, rfl, ik, rfl, by omega, by omega, rfl, ?_⟩
        walk_at "m_go"
        refine op_in_list hD' (by intro y hy; simp at hy; rcases hy with rfl | rfl <;> rfl) rfl ?_
        walk_at "m_go"
        simp only [List.any_cons, List.any_nil, eqb_int]
        refine ite_b (fun c3 => ?_) (fun c3 => ?_)
        · refine store (ck.mp ?_) _ fun ρ2 σ2 h1 h2 => ?_
          · simp at c3
            rcases c3 with c3 | c3
            · exact .inr (.inl c3.symm)
            · exact .inr (.inr c3.symm)
          · walk_at "m_go"
            exact ⟨h1, hset _ h2⟩
        · walk_at "m_go"
          refine ⟨by walk_at "m_sub", hset _ (hno fun hh => ?_)⟩
          simp at c3
          rcases ck.mpr hh with h5 | h5 | h5
          · exact hnin h5
          · exact c3.1 h5.symm
          · exact c3.2 h5.symm
    · rw [if_neg (by decide)]
      have hnin : ¬ (g ≤ k ∧ k < last) := fun hh => by simp at c1; omega
      walk_at "m_go"
      refine EV_item (EV_item ?_)
      walk_at "m_go"
      refine ⟨_, _, _, _, rfl, hl', rfl, by omega, by omega, (by rw [show ((k : Int)).toNat = k by omega]; exact refsR_get (by omega)), ?_⟩
      walk_at "m_go"
      refine ⟨_, _, _, _, rfl, ik, rfl, by omega, by omega, rfl, ?_⟩
      walk_at "m_go"
      refine op_in_list hD' (by intro y hy; simp at hy; rcases hy with rfl | rfl <;> rfl) rfl ?_
      walk_at "m_go"
      simp only [List.any_cons, List.any_nil, eqb_int]
      refine ite_b (fun c3 => ?_) (fun c3 => ?_)
      · refine store (ck.mp ?_) _ fun ρ2 σ2 h1 h2 => ?_
        · simp at c3
          rcases c3 with c3 | c3
          · exact .inr (.inl c3.symm)
          · exact .inr (.inr c3.symm)
        · walk_at "m_go"
          exact ⟨h1, hset _ h2⟩
      · walk_at "m_go"
        refine ⟨by walk_at "m_sub", hset _ (hno fun hh => ?_)⟩
        simp at c3
        rcases ck.mpr hh with h5 | h5 | h5
        · exact hnin h5
        · exact c3.1 h5.symm
        · exact c3.2 h5.symm
  · rintro ρ' σ' ⟨hsub, hin, hfr⟩
    rw [rangeL_len, hn] at hin
    walk_at "m_go"
    refine h σ' ⟨fun c' hc' => ?_, by rw [List.map_map]; exact hr.nd⟩ fun x o hx hne => hfr _ _ (leT _ _ hx) hne
    obtain ⟨c0, h0, rfl⟩ := List.mem_map.mp hc'
    obtain ⟨j, hj, rfl⟩ := List.getElem_of_mem h0
    have hh := hin j hj
    rw [if_pos hj] at hh
    exact hh
end

theorem RRows.part {σ : NH} {rc rc' : List RC} (h : RRows σ rc) (k : rc'.Sublist rc) : RRows σ rc' := ⟨fun c hc => h.at_ c (k.subset hc), h.nd.sublist (k.map _)⟩
theorem slice_sub {α : Type} (l : List α) (g e : Nat) : ((l.take e).drop g).Sublist l := (List.drop_sublist _ _).trans (List.take_sublist _ _)
theorem refsR_append (a b : List RC) : refsR (a ++ b) = refsR a ++ refsR b := by simp [refsR]
theorem refsR_mrg (C : List RC) (lo hi : Int) : refsR (C.map (mrgRC lo hi)) = refsR C := by
  unfold refsR; rw [List.map_map]; rfl
theorem rowsR_mrg (C : List RC) (g last : Nat) : rowsR (C.map (mrgRC (clF (rowsR C) g) (clF (rowsR C) (last - 1)))) = mergeF (rowsR C) g last := by
  unfold rowsR mergeF; rw [List.map_map, List.map_map]; rfl
theorem filter_snoc {α : Type} {l : List α} {k : Nat} {c : α} (p : α → Bool) (h : l[k]? = some c) : (l.take (k + 1)).filter p = (l.take k).filter p ++ (if p c = true then [c] else []) := by
  rw [take_snoc h, List.filter_append]
  simp only [List.filter_cons, List.filter_nil]
theorem natL_last {S : List Nat} {p : Nat} (hS : S.getLast? = some p) : (natL S)[(-1 + ((natL S).length : Int)).toNat]? = some (.int (p : Int) 0) := by
  have hl0 : 0 < S.length := List.length_pos_iff.mpr fun h0 => by rw [h0] at hS; cases hS
  rw [natL_len, show (-1 + (S.length : Int)).toNat = S.length - 1 by omega]
  unfold natL
  rw [List.getElem?_map, ← List.getLast?_eq_getElem?, hS]; rfl

section
variable {W : Wd} {X : Addr → Prop} {A : Around} {σ : NH} {s : Shared} {d : Nat} {env : Env} {ρ : Loc} {Q : Value → NH → Prop} {K : Flow → Loc → NH → Prop}

theorem FC_law_moved {rc : List RC} {l : Addr} {z y : Int} (i e : Nat) (hz : z = i) (hy : y = e) (hi : i < e) (he : e ≤ rc.length) (hlen : rc.length < 30000) (hl : σ l = some (.list (refsR rc))) (hr : RRows σ rc) (hm : Mono (rowsR rc))
    (h : ∀ σ' l' rc', σ' l' = some (.list (refsR rc')) → RRows σ' rc' → rowsR rc' = movedF (rowsR rc) i e → FrR σ σ' rc → (∀ c ∈ rc', ∃ c0 ∈ rc, c.a = c0.a) → Q (.ref l') σ') : FC W (d+2) (.ref 260) [.ref l, .int z 0, .int y 0] σ Q := by
  refine FC_fn3 F260 "rows" "begin" "end" (fun _ _ _ _ _ => BindsTo.of_eq rfl) (by rfl) ?_
  intro L
  let env := EN F260 L
  show SC _ _ env (execs F260.body env) _ _ _
  dsimp only [F260]
  subst hz hy
  generalize hcs : codesF (rowsR rc) = cs
  have hcn : cs.length = rc.length := by rw [← hcs, codesF_len, rowsR_len]
  have hcode : ∀ j (hj : j < rc.length), cs.getD j 0 = rc[j].r.code := fun j hj => by rw [← hcs]; exact rowsR_code hj
  unfold movedF at h
  rw [hcs] at h
  have hgb := goalF_bd (cs := cs) hi
  have hshift := goal_shift (cs := cs) hi (by omega)
  generalize hg0 : goalF cs i e = g0 at h hgb hshift
  generalize hG : skipF cs g0 e = G at h
  have hGb : g0 ≤ G ∧ G ≤ e := by rw [← hG]; exact ⟨skipF_ge _ _ _, skipF_le hgb.2 (by omega)⟩
  walk_at "m_go"
  refine EV_slice ?_
  walk_at "m_go"
  refine EO_some ?_
  walk_at "m_go"
  refine ⟨i, rfl, EO_some ?_⟩
  walk_at "m_go"
  refine ⟨e, rfl, l, _, rfl, hl, by rw [refsR_len]; omega, fun L1 hL1 => ?_⟩
  rw [sliceL_refs]
  have le1 := NH.le_set _ (.list (refsR ((rc.take e).drop i))) hL1
  walk_at "m_go"
  refine FC_law_goal (rc := (rc.take e).drop i) (NH.set_self _ _ _) ((hr.le le1).part (slice_sub _ _ _)) (by rw [slice_len _ he]; omega) ?_
  have hsc : codesF (rowsR ((rc.take e).drop i)) = (cs.take e).drop i := by rw [← hcs]; simp [codesF, rowsR, List.map_take, List.map_drop]
  rw [hsc, slice_len _ he]
  walk_at "m_ev"
  rw [show (i : Int) + ((goalF ((cs.take e).drop i) 0 (e - i) : Nat) : Int) = (g0 : Int) by omega]
  refine AC_local (by rfl) (SC.le le1 ?_)
  clear le1 hL1
  refine SC.sub (l := [("rows", .ref l), ("end", .int e 0), ("goal", .int g0 0)]) (by walk_at "m_sub") ?_
  refine S_while (fun n ρ' σ' => σ = σ' ∧ ∃ g : Nat, Sub ρ' [("rows", .ref l), ("end", .int e 0), ("goal", .int g 0)] ∧ skipF cs g e = G ∧ g ≤ e ∧ e - g < n) (e + 1)
    ⟨rfl, g0, by walk_at "m_sub", hG, hgb.2, by omega⟩ ?_
  rintro n ρ' _ ⟨rfl, g, hsub, hsk, hge, hn1⟩
  have cont : ¬ (g < e ∧ cs.getD g 0 = 2367) → SE W (d + 1) env (List.drop 2 F260.body) ρ' σ (fun fl x σ' => Q (match fl with | .ret v => v | _ => .none) σ') := by
    intro hstop
    have hgG : g = G := by rw [← hsk]; exact (skipF_stop hstop (by omega)).symm
    subst hgG
    show SE W (d + 1) env (List.drop 2 F260.body) _ _ _
    dsimp only [F260, List.drop]
    refine SC.sub hsub ?_
    refine S_comp (CompOK.of (by rfl) rfl rfl rfl) (by rfl) (IV_src ?_)
    walk_at "m_go"
    refine CB_range2 fun r hr0 => ?_
    have le2 := NH.le_set _ (.rng (g : Int) (e : Int) 1) hr0
    have k2 := NH.set_self σ r (.rng (g : Int) (e : Int) 1)
    generalize σ.set r (.rng (g : Int) (e : Int) 1) = τ2 at le2 k2
    have hn : ((e : Int) - (g : Int)).toNat = e - g := by omega
    refine ⟨_, _, SrcV.rng k2 (by omega) (by omega) (by omega) (by omega), by rw [rangeL_len]; omega, fun k ys σ' => τ2 = σ' ∧ ys = natL ((List.range' g k).filter fun j => cs.getD j 0 == 2367), ⟨rfl, rfl⟩, fun _ _ _ _ => trivial, ?_, ?_⟩
    · rintro C k v ys _ hx ⟨rfl, rfl⟩
      obtain ⟨hk, rfl⟩ := rangeL_getN hx
      rw [hn] at hk
      have ik := le2 _ _ (hr.get (i := g + k) (by omega))
      have ck := hcode (g + k) (by omega)
      refine CT_one ?_
      walk_at "m_go"
      refine EV_item (EV_item ?_)
      walk_at "m_go"
      refine ⟨_, _, _, _, rfl, le2 _ _ hl, rfl, by omega, by omega, (by rw [show (((g + k : Nat) : Int)).toNat = g + k by omega]; exact refsR_get (by omega)), ?_⟩
      walk_at "m_go"
      refine ⟨_, _, _, _, rfl, ik, rfl, by omega, by omega, rfl, ?_⟩
      walk_at "m_go"
      refine ite_b (fun c => ?_) (fun c => ?_)
      · walk_at "m_go"
        refine ⟨rfl, ?_⟩
        rw [range_snoc, ck, if_pos c]; simp [natL]
      · refine ⟨rfl, ?_⟩
        rw [range_snoc, ck, if_neg (by rw [c]; decide)]; simp
    rintro ys _ ⟨rfl, rfl⟩ D2 hD2
    rw [rangeL_len, hn]
    have le3 := NH.le_set _ (.list (natL (spotsF cs g e))) hD2
    have hD := NH.set_self τ2 D2 (.list (natL (spotsF cs g e)))
    show SE W _ env _ _ (τ2.set D2 (.list (natL (spotsF cs g e)))) _
    generalize τ2.set D2 (.list (natL (spotsF cs g e))) = σ1 at le3 hD
    have leA := NH.le_trans le2 le3
    have hslen : (spotsF cs g e).length ≤ e := by
      unfold spotsF
      refine Nat.le_trans (List.length_filter_le _ _) ?_
      rw [List.length_range']; omega
    walk_at "m_go"
    refine TV_list hD (by rw [natL_len]; omega) ?_
    cases hS : (spotsF cs g e).getLast? with
    | none =>
      have hnil : spotsF cs g e = [] := by simpa using hS
      rw [hnil]
      refine ite_b (fun _ => ?_) (fun c => by simp [natL] at c)
      walk_at "m_go"
      rw [hS] at h
      exact h σ1 l rc (leA _ _ hl) (hr.le leA) rfl (fun x o hx _ => leA _ _ hx) fun c hc => ⟨c, hc, rfl⟩
    | some p =>
      obtain ⟨p1, p2, p3, p4⟩ := spotsF_last hS
      rw [hS] at h
      dsimp only at h
      have hl0 : 0 < (spotsF cs g e).length := List.length_pos_iff.mpr fun h0 => by rw [h0] at hS; cases hS
      refine ite_b (fun c => ?_) (fun _ => ?_)
      · exfalso
        cases hS2 : spotsF cs g e with
        | nil => rw [hS2] at hl0; exact Nat.lt_irrefl _ hl0
        | cons a r => rw [hS2] at c; simp [natL] at c
      walk_at "m_go"
      refine EV_itemneg ?_
      walk_at "m_go"
      refine EV_neg ⟨_, _, _, _, rfl, hD, rfl, by omega, by omega, by rw [natL_len]; omega, natL_last hS, ?_⟩
      walk_at "m_go"
      refine S_expr ?_
      walk_at "m_go"
      have hr1 := hr.le leA
      refine FC_law_merge g (p + 1) rfl (by omega) (by omega) (by omega) (by omega) (leA _ _ hl) hr1 hm fun σ2 hc2 hfr => ⟨rfl, ?_⟩
      have hl2 : σ2 l = some (.list (refsR (rc.map (mrgRC (clF (rowsR rc) g) (clF (rowsR rc) (p + 1 - 1)))))) := by
        rw [refsR_mrg]
        exact hfr _ _ (leA _ _ hl) (hr1.other (leA _ _ hl) fun r e => rowV_ne r rc (by injection e with e; exact e.symm))
      have hrows : rowsR (rc.map (mrgRC (clF (rowsR rc) g) (clF (rowsR rc) (p + 1 - 1)))) = mergeF (rowsR rc) g (p + 1) := rowsR_mrg _ _ _
      have hcl2 : (rc.map (mrgRC (clF (rowsR rc) g) (clF (rowsR rc) (p + 1 - 1)))).length = rc.length := by simp
      have haddr : ∀ c ∈ rc.map (mrgRC (clF (rowsR rc) g) (clF (rowsR rc) (p + 1 - 1))), ∃ c0 ∈ rc, c.a = c0.a := fun c hc => by
        obtain ⟨c0, h0, rfl⟩ := List.mem_map.mp hc
        exact ⟨c0, h0, rfl⟩
      have fr02 : FrR σ σ2 rc := fun x o hx hne => hfr _ _ (leA _ _ hx) hne
      generalize rc.map (mrgRC (clF (rowsR rc) g) (clF (rowsR rc) (p + 1 - 1))) = C at hc2 hl2 hrows hcl2 haddr
      have hcodeC : codesF (rowsR C) = cs := by rw [hrows, mergeF_codes, hcs]
      clear hfr hr1 hD leA le3 le2 k2 hr0 hD2
      walk_at "m_go"
      refine EV_slice ?_
      walk_at "m_go"
      refine EO_some ?_
      walk_at "m_go"
      refine ⟨g, rfl, EO_some ?_⟩
      walk_at "m_go"
      refine ⟨p + 1, rfl, l, _, rfl, hl2, by rw [refsR_len]; omega, fun L1 hL1 => ?_⟩
      rw [sliceL_refs]
      generalize hsl : (C.take (p + 1)).drop g = sl
      have hslm : ∀ c ∈ sl, c ∈ C := fun c hc => by rw [← hsl] at hc; exact (slice_sub _ _ _).subset hc
      have hsll : sl.length ≤ 100000 := by rw [← hsl, slice_len _ (by omega)]; omega
      have le1 := NH.le_set _ (.list (refsR sl)) hL1
      have k1 := NH.set_self σ2 L1 (.list (refsR sl))
      generalize σ2.set L1 (.list (refsR sl)) = σ3 at le1 k1
      have hc3 := hc2.le le1
      walk_at "m_go"
      refine S_comp (CompOK.of (by rfl) rfl rfl rfl) (by rfl) (IV_src ?_)
      walk_at "m_go"
      refine ⟨_, _, SrcV.list k1, by rw [refsR_len]; omega, fun k ys σ' => σ3 = σ' ∧ ys = refsR ((sl.take k).filter fun c => isI c.r), ⟨rfl, rfl⟩, fun k ys σ' hI => by rw [← hI.1]; exact k1, ?_, ?_⟩
      · rintro F k v ys _ hx ⟨rfl, rfl⟩
        obtain ⟨c', hc', rfl⟩ := refsR_at hx
        have ic := hc3.at_ c' (hslm _ (List.mem_of_getElem? hc'))
        refine CT_one ?_
        walk_at "m_go"
        refine EV_item ?_
        walk_at "m_go"
        refine ⟨_, _, _, _, rfl, ic, rfl, by omega, by omega, rfl, ?_⟩
        walk_at "m_go"
        refine ite_b (fun c => ?_) (fun c => ?_)
        · walk_at "m_go"
          refine ⟨rfl, ?_⟩
          rw [filter_snoc _ hc', if_pos (show isI c'.r = true from c), refsR_append]; rfl
        · refine ⟨rfl, ?_⟩
          rw [filter_snoc _ hc', if_neg (by rw [show isI c'.r = false from c]; decide), List.append_nil]
      rintro ys _ ⟨rfl, rfl⟩ D3 hD3
      rw [refsR_len, List.take_length]
      have le2 := NH.le_set _ (.list (refsR (sl.filter fun c => isI c.r))) hD3
      have k3 := NH.set_self σ3 D3 (.list (refsR (sl.filter fun c => isI c.r)))
      generalize σ3.set D3 (.list (refsR (sl.filter fun c => isI c.r))) = σ4 at le2 k3
      have hc4 := hc3.le le2
      have k1' := le2 _ _ k1
      refine S_comp (CompOK.of (by rfl) rfl rfl rfl) (by rfl) (IV_src ?_)
      walk_at "m_go"
      refine ⟨_, _, SrcV.list k1', by rw [refsR_len]; omega, fun k ys σ' => σ4 = σ' ∧ ys = refsR ((sl.take k).filter fun c => !isI c.r), ⟨rfl, rfl⟩, fun k ys σ' hI => by rw [← hI.1]; exact k1', ?_, ?_⟩
      · rintro F k v ys _ hx ⟨rfl, rfl⟩
        obtain ⟨c', hc', rfl⟩ := refsR_at hx
        have ic := hc4.at_ c' (hslm _ (List.mem_of_getElem? hc'))
        refine CT_one ?_
        walk_at "m_go"
        refine EV_item ?_
        walk_at "m_go"
        refine ⟨_, _, _, _, rfl, ic, rfl, by omega, by omega, rfl, ?_⟩
        walk_at "m_go"
        refine ite_b (fun c => ?_) (fun c => ?_)
        · walk_at "m_go"
          refine ⟨rfl, ?_⟩
          rw [filter_snoc _ hc', if_pos (show (!isI c'.r) = true from c), refsR_append]; rfl
        · refine ⟨rfl, ?_⟩
          rw [filter_snoc _ hc', if_neg (by rw [show (!isI c'.r) = false from c]; decide), List.append_nil]
      rintro ys _ ⟨rfl, rfl⟩ D4 hD4
      rw [refsR_len, List.take_length]
      have le3 := NH.le_set _ (.list (refsR (sl.filter fun c => !isI c.r))) hD4
      have k4 := NH.set_self σ4 D4 (.list (refsR (sl.filter fun c => !isI c.r)))
      generalize σ4.set D4 (.list (refsR (sl.filter fun c => !isI c.r))) = σ5 at le3 k4
      have leB := NH.le_trans le1 (NH.le_trans le2 le3)
      have hl5 := leB _ _ hl2
      have k3' := le3 _ _ k3
      clear le1 le2 le3 hc3 hc4 k1 k1' hD4 hD3 hL1
      walk_at "m_go"
      refine EV_slice ?_
      walk_at "m_go"
      refine EO_none (EO_some ?_)
      walk_at "m_go"
      refine ⟨g, rfl, l, _, rfl, hl5, by rw [refsR_len]; omega, fun D5 hD5 => ?_⟩
      have ht1 : (sliceL (refsR C) none (some g)).length ≤ 100000 := by simp [sliceL, refsR]; omega
      have ht2 : (sliceL (refsR C) (some (p + 1)) none).length ≤ 100000 := by simp [sliceL, refsR]; omega
      have hf1 : (refsR (sl.filter fun c => isI c.r)).length ≤ 100000 := by rw [refsR_len]; exact Nat.le_trans (List.length_filter_le _ _) hsll
      have hf2 : (refsR (sl.filter fun c => !isI c.r)).length ≤ 100000 := by rw [refsR_len]; exact Nat.le_trans (List.length_filter_le _ _) hsll
      have le1 := NH.le_set _ (.list (sliceL (refsR C) none (some g))) hD5
      have k6 := NH.set_self σ5 D5 (.list (sliceL (refsR C) none (some g)))
      generalize σ5.set D5 (.list (sliceL (refsR C) none (some g))) = σ6 at le1 k6
      walk_at "m_go"
      refine op_cat k6 (le1 _ _ k3') (by omega) fun D6 hD6 => ?_
      have le2 := NH.le_set _ (.list (sliceL (refsR C) none (some g) ++ refsR (sl.filter fun c => isI c.r))) hD6
      have k7 := NH.set_self σ6 D6 (.list (sliceL (refsR C) none (some g) ++ refsR (sl.filter fun c => isI c.r)))
      generalize σ6.set D6 (.list (sliceL (refsR C) none (some g) ++ refsR (sl.filter fun c => isI c.r))) = σ7 at le2 k7
      walk_at "m_go"
      refine op_cat k7 (le2 _ _ (le1 _ _ k4)) (by rw [List.length_append]; omega) fun D7 hD7 => ?_
      have le3 := NH.le_set _ (.list (sliceL (refsR C) none (some g) ++ refsR (sl.filter fun c => isI c.r) ++ refsR (sl.filter fun c => !isI c.r))) hD7
      have k8 := NH.set_self σ7 D7 (.list (sliceL (refsR C) none (some g) ++ refsR (sl.filter fun c => isI c.r) ++ refsR (sl.filter fun c => !isI c.r)))
      generalize σ7.set D7 (.list (sliceL (refsR C) none (some g) ++ refsR (sl.filter fun c => isI c.r) ++ refsR (sl.filter fun c => !isI c.r))) = σ8 at le3 k8
      have leX := NH.le_trans le1 (NH.le_trans le2 le3)
      refine EV_slice ?_
      walk_at "m_go"
      refine EO_some ?_
      walk_at "m_go"
      refine ⟨p + 1, rfl, EO_none ⟨l, _, rfl, leX _ _ hl5, by rw [refsR_len]; omega, fun D8 hD8 => ?_⟩⟩
      have le4 := NH.le_set _ (.list (sliceL (refsR C) (some (p + 1)) none)) hD8
      have k9 := NH.set_self σ8 D8 (.list (sliceL (refsR C) (some (p + 1)) none))
      generalize σ8.set D8 (.list (sliceL (refsR C) (some (p + 1)) none)) = σ9 at le4 k9
      refine op_cat (le4 _ _ k8) k9 (by rw [List.length_append, List.length_append]; omega) fun D9 hD9 => ?_
      have hfin : sliceL (refsR C) none (some g) ++ refsR (sl.filter fun c => isI c.r) ++ refsR (sl.filter fun c => !isI c.r) ++ sliceL (refsR C) (some (p + 1)) none = refsR (stirG (fun c => isI c.r) C g (p + 1)) := by
        unfold stirG
        rw [hsl]
        simp [sliceL, refsR, List.map_take, List.map_drop]
      rw [hfin]
      have le5 := NH.le_set _ (.list (refsR (stirG (fun c => isI c.r) C g (p + 1)))) hD9
      have k10 := NH.set_self σ9 D9 (.list (refsR (stirG (fun c => isI c.r) C g (p + 1))))
      generalize σ9.set D9 (.list (refsR (stirG (fun c => isI c.r) C g (p + 1)))) = τ at le5 k10
      have leY := NH.le_trans leB (NH.le_trans leX (NH.le_trans le4 le5))
      have hperm := stir_perm (fun c : RC => isI c.r) C g (p + 1) (by omega)
      have hcT := hc2.le leY
      refine h τ D9 _ k10 ⟨fun c hc => hcT.at_ c (hperm.mem_iff.mp hc), (hperm.map _).nodup_iff.mpr hcT.nd⟩ ?_ (fun x o hx hne => leY _ _ (fr02 x o hx hne)) fun c hc => haddr c (hperm.mem_iff.mp hc)
      show (stirG (fun c => isI c.r) C g (p + 1)).map (·.r) = _
      rw [stir_map (fun c : RC => c.r) isI (fun c => isI c.r) (fun _ => rfl)]
      show stirG isI (rowsR C) g (p + 1) = _
      rw [hrows]
  refine EC.sub hsub ?_
  walk_at "m_go"
  refine ite_b (fun c => ?_) (fun c => ?_)
  · have hlt : g < e := by simp at c; omega
    have ik := hr.get (i := g) (by omega)
    have ck := hcode g (by omega)
    walk_at "m_go"
    refine EV_item (EV_item ?_)
    walk_at "m_go"
    refine ⟨_, _, _, _, rfl, hl, rfl, by omega, by omega, (by rw [show ((g : Int)).toNat = g by omega]; exact refsR_get (by omega)), ?_⟩
    walk_at "m_go"
    refine ⟨_, _, _, _, rfl, ik, rfl, by omega, by omega, rfl, ?_⟩
    walk_at "m_go"
    refine ite_b (fun c2 => ?_) (fun c2 => ?_)
    · have h4 : cs.getD g 0 = 2367 := by rw [ck]; simpa using c2
      refine SC.sub hsub ?_
      walk_at "m_go"
      exact ⟨e - g, by omega, rfl, g + 1, by walk_at "m_sub", by rw [← hsk, skipF_step hlt (by omega) h4], by omega, by omega⟩
    · refine cont fun hh => ?_
      rw [ck] at hh
      rw [hh.2] at c2; simp at c2
  · rw [if_neg (by decide)]
    refine cont fun hh => ?_
    simp at c; omega
end

noncomputable def NH.hide (σ : NH) (as : List Addr) : NH := fun x => if x ∈ as then none else σ x
theorem NH.hide_le (σ : NH) (as : List Addr) : (σ.hide as).le σ := fun x o h => by
  unfold NH.hide at h
  split at h
  · cases h
  · exact h
theorem NH.hide_in {σ : NH} {as : List Addr} {x : Addr} (h : x ∈ as) : σ.hide as x = none := if_pos h
theorem NH.le_hide {σ τ : NH} {as : List Addr} (h : σ.le τ) (k : ∀ a ∈ as, σ a = none) : σ.le (τ.hide as) := fun x o hx => by
  unfold NH.hide
  split
  · rename_i hm; rw [k x hm] at hx; cases hx
  · exact h x o hx
theorem rows_put {C : List RC} {i : Nat} (c : RC) (hr : c.r = circleR ((rowsR C).getD i row0)) : rowsR (C.take i ++ c :: C.drop i) = circleF (rowsR C) i := by
  unfold circleF
  rw [← hr]
  simp [rowsR, List.map_take, List.map_drop]
theorem rowsR_getD {C : List RC} {i : Nat} (hi : i < C.length) : (rowsR C).getD i row0 = C[i].r := by
  rw [List.getD_eq_getElem?_getD, List.getElem?_eq_getElem (by rw [rowsR_len]; exact hi)]; simp [rowsR]

section
variable {W : Wd} {X : Addr → Prop} {A : Around} {σ : NH} {s : Shared} {d : Nat} {env : Env} {ρ : Loc} {Q : Value → NH → Prop} {K : Flow → Loc → NH → Prop}

theorem FC_law_due {hc : Bool} {rc : List RC} {l : Addr} (hlen : rc.length < 10000) (hl : σ l = some (.list (refsR rc))) (hr : RRows σ rc) (hm : Mono (rowsR rc)) (hok : ∀ c ∈ codesF (rowsR rc), okC c)
    (h : ∀ σ' l' rc', σ.le σ' → σ' l' = some (.list (refsR rc')) → RRows σ' rc' → rowsR rc' = allF hc (rowsR rc) → Q (.ref l') σ') : FC W (d+6) (.ref 265) [.ref l, .bool hc] σ Q := by
  refine FC_fn2 F265 "rows" "has_circle" (fun _ _ _ _ => BindsTo.of_eq rfl) (by rfl) ?_
  intro L
  let env := EN F265 L
  show SC _ _ env (execs F265.body env) _ _ _
  dsimp only [F265]
  generalize hcs : codesF (rowsR rc) = cs at hok
  have hcn : cs.length = rc.length := by rw [← hcs, codesF_len, rowsR_len]
  have hcode : ∀ j (hj : j < rc.length), cs.getD j 0 = rc[j].r.code := fun j hj => by rw [← hcs]; exact rowsR_code hj
  unfold allF at h
  rw [hcs] at h
  obtain ⟨sy1, sy2⟩ := syls_ok cs
  refine S_comp (CompOK.of (by rfl) rfl rfl rfl) (by rfl) (IV_src ?_)
  walk_at "m_go"
  refine ⟨_, _, SrcV.list hl, by rw [refsR_len]; omega, fun k ys σ' => σ.le σ' ∧ ∃ rc', ys = refsR rc' ∧ RRows σ' rc' ∧ rowsR rc' = (rowsR rc).take k ∧ ∀ a ∈ rc'.map (·.a), σ a = none,
    ⟨NH.le_refl _, [], rfl, ⟨fun c hc => (nomatch hc), List.nodup_nil⟩, by simp [rowsR], fun a ha => (nomatch ha)⟩, fun k ys σ' hI => hI.1 _ _ hl, ?_, ?_⟩
  · rintro F k v ys σ' hx ⟨hle, rc', rfl, hrr, hrows, hn⟩
    obtain ⟨c', hc', rfl⟩ := refsR_at hx
    have ic := hle _ _ (hr.at_ c' (List.mem_of_getElem? hc'))
    refine CT_nil ?_
    refine ite_b (fun _ => ?_) (fun c => by cases c)
    walk_at "m_go"
    refine CB_list ic (by simp [rowV]) fun N hN => ?_
    have le1 := NH.le_set _ (.list (rowV c'.r)) hN
    refine ⟨NH.le_trans hle le1, rc' ++ [⟨N, c'.r⟩], by simp [refsR], ⟨fun c hcm => ?_, ?_⟩, ?_, fun a ha => ?_⟩
    · rcases List.mem_append.mp hcm with hcm | hcm
      · exact le1 _ _ (hrr.at_ c hcm)
      · rw [List.mem_singleton.mp hcm]; exact NH.set_self _ _ _
    · rw [List.map_append, List.nodup_append]
      refine ⟨hrr.nd, by simp, fun a ha b hb => ?_⟩
      obtain ⟨c1, h1, rfl⟩ := List.mem_map.mp ha
      have e1 : b = N := by simpa using hb
      rw [e1]
      intro e2
      have := hrr.at_ c1 h1
      rw [e2, hN] at this; cases this
    · have hr2 : (rowsR rc)[k]? = some c'.r := by unfold rowsR; rw [List.getElem?_map, hc']; rfl
      rw [take_snoc hr2, ← hrows]; simp [rowsR]
    · rw [List.map_append] at ha
      rcases List.mem_append.mp ha with ha | ha
      · exact hn a ha
      · have e1 : a = N := by simpa using ha
        rw [e1]; exact NH.le_none hle hN
  rintro ys σ1 ⟨hle, rcF, rfl, hrF, hrowsF, hnF⟩ DF hDF
  rw [refsR_len, ← rowsR_len, List.take_length] at hrowsF
  have le1 := NH.le_set _ (.list (refsR rcF)) hDF
  have kF := NH.set_self σ1 DF (.list (refsR rcF))
  generalize σ1.set DF (.list (refsR rcF)) = σ2 at le1 kF
  have hle2 := NH.le_trans hle le1
  have hrF2 := hrF.le le1
  have hl2 := hle2 _ _ hl
  refine S_for (IV_src (EV_reverse ?_))
  walk_at "m_go"
  refine EV_comp (CompOK.of (by rfl) rfl rfl rfl) (IV_src ?_)
  walk_at "m_go"
  refine ⟨_, _, SrcV.list hl2, by rw [refsR_len]; omega, fun k ys σ' => σ2 = σ' ∧ ys = intL (codesF (rowsR (rc.take k))), ⟨rfl, rfl⟩, fun k ys σ' hI => by rw [← hI.1]; exact hl2, ?_, ?_⟩
  · rintro F k v ys _ hx ⟨rfl, rfl⟩
    obtain ⟨c', hc', rfl⟩ := refsR_at hx
    have ic := hle2 _ _ (hr.at_ c' (List.mem_of_getElem? hc'))
    refine CT_nil ?_
    refine ite_b (fun _ => ?_) (fun c => by cases c)
    refine EV_item ?_
    walk_at "m_go"
    refine ⟨_, _, _, _, rfl, ic, rfl, by omega, by omega, rfl, rfl, ?_⟩
    rw [take_snoc hc']; simp [rowsR, codesF, intL]
  rintro ys _ ⟨rfl, rfl⟩ D1 hD1
  rw [refsR_len, List.take_length, hcs]
  have le2 := NH.le_set _ (.list (intL cs)) hD1
  have k1 := NH.set_self σ2 D1 (.list (intL cs))
  generalize σ2.set D1 (.list (intL cs)) = σ3 at le2 k1
  walk_at "m_go"
  refine FC_syllables k1 (by omega) fun σ4 r as le3 hr0 kr hS => ?_
  walk_at "m_go"
  have hal : as.length ≤ cs.length := by rw [hS.len]; exact sy2
  refine CB_list kr (by rw [List.length_map]; omega) fun r2 hr2 => ?_
  have le4 := NH.le_set _ (.list (as.map .ref)) hr2
  have k2 := NH.set_self σ4 r2 (.list (as.map .ref))
  generalize σ4.set r2 (.list (as.map .ref)) = σ5 at le4 k2
  refine ⟨r2, _, rfl, k2, by rw [List.length_map]; omega, fun r3 hr3 => ?_⟩
  have le5 := NH.le_set _ (.list (as.map Value.ref).reverse) hr3
  have k3 := NH.set_self σ5 r3 (.list (as.map Value.ref).reverse)
  generalize σ5.set r3 (.list (as.map Value.ref).reverse) = σ6 at le5 k3
  have leB := NH.le_trans le2 (NH.le_trans le3 (NH.le_trans le4 le5))
  have leA := NH.le_trans hle2 leB
  have hS6 := hS.imp fun a p h => (NH.le_trans le4 le5) _ _ h
  
  have hτσ : σ.le (σ6.hide (rcF.map (·.a))) := NH.le_hide leA hnF
  have hkeep : ∀ x o, σ6 x = some o → (∀ r, o ≠ .list (rowV r)) → (σ6.hide (rcF.map (·.a))) x = some o := fun x o hx ho => by
    unfold NH.hide
    rw [if_neg]
    · exact hx
    · intro hm
      obtain ⟨c, hcm, e0⟩ := List.mem_map.mp hm
      exact (hrF2.le leB).other hx ho c hcm e0.symm
  have kτ := hkeep _ _ k3 fun r e => by
    injection e with e
    cases has : as.reverse with
    | nil => rw [← List.map_reverse, has] at e; cases e
    | cons a t => rw [← List.map_reverse, has] at e; injection e with e1 _; cases e1
  have hSτ : Sides (NPair (σ6.hide (rcF.map (·.a)))) as (syls cs) := hS6.imp fun a p h => hkeep _ _ h (by simp)
  have hnτ : ∀ c ∈ rcF, (σ6.hide (rcF.map (·.a))) c.a = none := fun c hcm => NH.hide_in (List.mem_map_of_mem hcm)
  have leT := NH.hide_le σ6 (rcF.map (·.a))
  have kF6 := leB _ _ kF
  have hrF6 := hrF2.le leB
  generalize σ6.hide (rcF.map (·.a)) = τ at hτσ kτ hSτ hnτ leT
  clear hkeep hS6 hS k2 k1 kr hr0 hr2 hr3 hD1 le2 le3 le4 le5 leA hl2 hrF2 kF hDF le1 hle2 hle hrF hnF
  refine ⟨_, _, SrcV.list k3, fun k ρ' σ' => ∃ l' rc', Sub ρ' [("rows", .ref l), ("has_circle", .bool hc), ("found", .ref l')] ∧ σ' l' = some (.list (refsR rc')) ∧ RRows σ' rc' ∧
      rowsR rc' = ((syls cs).reverse.take k).foldl (stepF hc cs) (rowsR rc) ∧ τ.le σ' ∧ ∀ c ∈ rc', τ c.a = none,
    ⟨DF, rcF, by walk_at "m_sub", kF6, hrF6, hrowsF, leT, hnτ⟩, fun k ρ' σ' ⟨l', rc', _, _, _, _, hf, _⟩ => hf _ _ kτ, ?_, ?_⟩
  · rintro k v ρ' σ' hx ⟨l', C, hsub, hlC, hrC, hrows, hfr, hnC⟩
    rw [← List.map_reverse] at hx
    obtain ⟨a, ha, rfl⟩ := refs_get hx
    have hk : k < as.length := by have := lt_of_get ha; simpa using this
    have hlr : (syls cs).length = as.length := hSτ.len.symm
    rw [List.getElem?_reverse hk] at ha
    obtain ⟨p, hp, hpa⟩ := hSτ.get ha
    have hp2 : (syls cs).reverse[k]? = some p := by rw [List.getElem?_reverse (by omega), hlr]; exact hp
    obtain ⟨pb, pe⟩ := p
    have hpm := sy1 _ (List.mem_of_getElem? hp)
    dsimp only at hpm
    have hkept := foldF_kept (hc := hc) (cs := cs) ((syls cs).reverse.take k) (rowsR rc) hm fun q hq => by
      have := sy1 q (List.mem_reverse.mp (List.mem_of_mem_take hq))
      rw [rowsR_len, ← hcn]; exact this
    rw [← hrows, rowsR_len, rowsR_len, List.length_take, List.length_reverse] at hkept
    obtain ⟨km, kl1, kl2, _, _⟩ := hkept
    have hstep : ((syls cs).reverse.take (k + 1)).foldl (stepF hc cs) (rowsR rc) = stepF hc cs (rowsR C) (pb, pe) := by
      rw [take_snoc hp2, List.foldl_append, ← hrows]; rfl
    have hclen : C.length < 25000 := by omega
    have hpb : pb < rc.length := by omega
    have irow := hfr _ _ (hτσ _ _ (hr.get hpb))
    have hl' := hfr _ _ (hτσ _ _ hl)
    have hok1 : brokenF (cs.getD pb 0) = ((decide (2364 ≤ rc[pb].r.code) && decide (rc[pb].r.code ≤ 2381) && decide (rc[pb].r.code ≠ 2365)) || decide (rc[pb].r.code = 2306)) := by
      have := hok (cs.getD pb 0) (by rw [List.getD_eq_getElem?_getD, List.getElem?_eq_getElem (by omega)]; exact List.getElem_mem _)
      unfold okC at this
      rw [this, hcode pb hpb]
    refine AC.sub hsub (AC_tuple (hfr _ _ hpa) ?_)
    walk_at "m_go"
    refine EV_item (EV_item ?_)
    walk_at "m_go"
    refine ⟨_, _, _, _, rfl, hl', rfl, by omega, by omega, (by rw [show ((pb : Int)).toNat = pb by omega]; exact refsR_get hpb), ?_⟩
    walk_at "m_go"
    refine ⟨_, _, _, _, rfl, irow, rfl, by omega, by omega, rfl, ?_⟩
    refine AC_local (by rfl) (S_if ?_)
    have rest : ∀ ρ2 σ2 l2 C2 (y : Nat), Sub ρ2 [("rows", .ref l), ("has_circle", .bool hc), ("found", .ref l2), ("begin", .int (pb : Int) 0), ("end", .int (y : Int) 0)] → σ2 l2 = some (.list (refsR C2)) → RRows σ2 C2 → Mono (rowsR C2) → τ.le σ2 → (∀ c ∈ C2, τ c.a = none) → pb < y → y ≤ C2.length → C2.length < 30000 →
        movedF (rowsR C2) pb y = stepF hc cs (rowsR C) (pb, pe) → SE W (d + 5) env (match F265.body with | [_, Stmt.For _ _ (_ :: Stmt.If _ _ _ _ :: more) _ _, _] => more | _ => []) ρ2 σ2
        (fun f ρ₃ σ₃ => match f with
          | .next | .cont => ∃ l' rc', Sub ρ₃ [("rows", .ref l), ("has_circle", .bool hc), ("found", .ref l')] ∧ σ₃ l' = some (.list (refsR rc')) ∧ RRows σ₃ rc' ∧
              rowsR rc' = ((syls cs).reverse.take (k + 1)).foldl (stepF hc cs) (rowsR rc) ∧ τ.le σ₃ ∧ ∀ c ∈ rc', τ c.a = none
          | .brk => SE W (d + 5) env (List.drop 2 F265.body) ρ₃ σ₃ (fun fl _ σ' => Q (match fl with | .ret v => v | _ => .none) σ')
          | .ret v => Q v σ₃) := by
      intro ρ2 σ2 l2 C2 y hs2 hl2 hr2 hm2 hle2 hn2 hy1 hy2 hy3 hst
      dsimp only [F265]
      refine SC.sub hs2 ?_
      walk_at "m_go"
      refine FC_law_moved pb y rfl rfl hy1 hy2 hy3 hl2 hr2 hm2 fun σ3 l3 C3 hl3 hr3 hrow3 hf3 ha3 => ?_
      walk_at "m_go"
      refine ⟨l3, C3, by walk_at "m_sub", hl3, hr3, by rw [hstep, ← hst]; exact hrow3, fun x o hx => hf3 _ _ (hle2 _ _ hx) fun c hcm e0 => ?_, fun c hcm => ?_⟩
      · rw [e0, hn2 c hcm] at hx; cases hx
      · obtain ⟨c0, h0, e0⟩ := ha3 c hcm
        rw [e0]; exact hn2 c0 h0
    have iC := hrC.get (i := pb) (by omega)
    have thenP : ∀ (more : List Stmt) (K : Flow → Loc → NH → Prop), hc = true → brokenF (cs.getD pb 0) = true →
        (∀ ρ2 σ2 l2 C2 (y : Nat), Sub ρ2 [("rows", .ref l), ("has_circle", .bool hc), ("found", .ref l2), ("begin", .int (pb : Int) 0), ("end", .int (y : Int) 0)] → σ2 l2 = some (.list (refsR C2)) → RRows σ2 C2 → Mono (rowsR C2) → τ.le σ2 → (∀ c ∈ C2, τ c.a = none) → pb < y → y ≤ C2.length → C2.length < 30000 →
          movedF (rowsR C2) pb y = stepF hc cs (rowsR C) (pb, pe) → SE W (d + 5) env more ρ2 σ2 K) →
        SE W (d + 5) env (match F265.body with | [_, Stmt.For _ _ (_ :: Stmt.If _ b _ _ :: _) _ _, _] => b | _ => [])
          [("lead", .int rc[pb].r.code 0), ("end", .int (pe : Int) 0), ("begin", .int (pb : Int) 0), ("rows", .ref l), ("has_circle", .bool hc), ("found", .ref l')] σ' (Kont W (d + 5) env more K) := by
      intro more K hc1 hbr rest
      dsimp only [F265]
      walk_at "m_go"
      refine EV_slice ?_
      walk_at "m_go"
      refine EO_none (EO_some ?_)
      walk_at "m_go"
      refine ⟨pb, rfl, l', _, rfl, hlC, by rw [refsR_len]; omega, fun D5 hD5 => ?_⟩
      have le1 := NH.le_set _ (.list (sliceL (refsR C) none (some pb))) hD5
      have k5 := NH.set_self σ' D5 (.list (sliceL (refsR C) none (some pb)))
      generalize σ'.set D5 (.list (sliceL (refsR C) none (some pb))) = σ5 at le1 k5
      walk_at "m_go"
      refine EV_item (EV_item ?_)
      walk_at "m_go"
      refine ⟨_, _, _, _, rfl, le1 _ _ hlC, rfl, by omega, by omega, (by rw [show ((pb : Int)).toNat = pb by omega]; exact refsR_get (by omega)), ?_⟩
      walk_at "m_go"
      refine ⟨_, _, _, _, rfl, le1 _ _ iC, rfl, by omega, by omega, rfl, ?_⟩
      walk_at "m_go"
      refine EV_item (EV_item ?_)
      walk_at "m_go"
      refine ⟨_, _, _, _, rfl, le1 _ _ hlC, rfl, by omega, by omega, (by rw [show ((pb : Int)).toNat = pb by omega]; exact refsR_get (by omega)), ?_⟩
      walk_at "m_go"
      refine ⟨_, _, _, _, rfl, le1 _ _ iC, rfl, by omega, by omega, rfl, ?_⟩
      walk_at "m_go"
      refine ⟨by simp, fun N hN => ?_⟩
      show LC W _ env _ _ _ (σ5.set N (.list (rowV (circleR C[pb].r)))) _
      obtain ⟨cr, hcr⟩ : ∃ cr, cr = circleR C[pb].r := ⟨_, rfl⟩
      rw [← hcr]
      have le2 := NH.le_set _ (.list (rowV (cr))) hN
      have kN := NH.set_self σ5 N (.list (rowV (cr)))
      generalize σ5.set N (.list (rowV (cr))) = σ6 at le2 kN
      walk_at "m_go"
      refine ⟨by simp, fun O hO => ?_⟩
      have le3 := NH.le_set _ (.list [Value.ref N]) hO
      have kO := NH.set_self σ6 O (.list [Value.ref N])
      generalize σ6.set O (.list [Value.ref N]) = σ7 at le3 kO
      have ht1 : (sliceL (refsR C) none (some pb)).length ≤ 100000 := by simp [sliceL, refsR]; omega
      have ht2 : (sliceL (refsR C) (some pb) none).length ≤ 100000 := by simp [sliceL, refsR]; omega
      refine op_cat (le3 _ _ (le2 _ _ k5)) kO (by simp only [List.length_cons, List.length_nil]; omega) fun D6 hD6 => ?_
      have le4 := NH.le_set _ (.list (sliceL (refsR C) none (some pb) ++ [Value.ref N])) hD6
      have k6 := NH.set_self σ7 D6 (.list (sliceL (refsR C) none (some pb) ++ [Value.ref N]))
      generalize σ7.set D6 (.list (sliceL (refsR C) none (some pb) ++ [Value.ref N])) = σ8 at le4 k6
      have leX := NH.le_trans le1 (NH.le_trans le2 (NH.le_trans le3 le4))
      refine EV_slice ?_
      walk_at "m_go"
      refine EO_some ?_
      walk_at "m_go"
      refine ⟨pb, rfl, EO_none ⟨l', _, rfl, leX _ _ hlC, by rw [refsR_len]; omega, fun D7 hD7 => ?_⟩⟩
      have le5 := NH.le_set _ (.list (sliceL (refsR C) (some pb) none)) hD7
      have k7 := NH.set_self σ8 D7 (.list (sliceL (refsR C) (some pb) none))
      generalize σ8.set D7 (.list (sliceL (refsR C) (some pb) none)) = σ9 at le5 k7
      refine op_cat (le5 _ _ k6) k7 (by simp only [List.length_append, List.length_cons, List.length_nil]; omega) fun D8 hD8 => ?_
      have hfin : sliceL (refsR C) none (some pb) ++ [Value.ref N] ++ sliceL (refsR C) (some pb) none = refsR (C.take pb ++ (⟨N, cr⟩ : RC) :: C.drop pb) := by
        simp [sliceL, refsR, List.map_take, List.map_drop]
      rw [hfin]
      have hput := rows_put (C := C) (i := pb) ⟨N, cr⟩ (by rw [rowsR_getD (by omega)]; exact hcr)
      have hclen3 : (C.take pb ++ (⟨N, cr⟩ : RC) :: C.drop pb).length = C.length + 1 := by simp; omega
      have hmem3 : ∀ c ∈ C.take pb ++ (⟨N, cr⟩ : RC) :: C.drop pb, c ∈ C ∨ c = ⟨N, cr⟩ := fun c hcm => by
        rcases List.mem_append.mp hcm with hcm | hcm
        · exact .inl (List.mem_of_mem_take hcm)
        · rcases List.mem_cons.mp hcm with hcm | hcm
          · exact .inr hcm
          · exact .inl (List.mem_of_mem_drop hcm)
      have hN0 : σ' N = none := NH.le_none le1 hN
      have hnd3 : ((C.take pb ++ (⟨N, cr⟩ : RC) :: C.drop pb).map (·.a)).Nodup := by
        have hp : (C.take pb ++ (⟨N, cr⟩ : RC) :: C.drop pb).Perm (⟨N, cr⟩ :: C) := by
          have := List.perm_middle (a := (⟨N, cr⟩ : RC)) (l₁ := C.take pb) (l₂ := C.drop pb)
          rwa [List.take_append_drop] at this
        refine (hp.map _).nodup_iff.mpr ?_
        rw [List.map_cons]
        refine List.nodup_cons.mpr ⟨fun hm => ?_, hrC.nd⟩
        obtain ⟨c, hcm, e0⟩ := List.mem_map.mp hm
        have e1 : c.a = N := e0
        have := hrC.at_ c hcm
        rw [e1, hN0] at this; cases this
      generalize C.take pb ++ (⟨N, cr⟩ : RC) :: C.drop pb = C3 at hput hclen3 hmem3 hnd3
      have le6 := NH.le_set _ (.list (refsR C3)) hD8
      have k8 := NH.set_self σ9 D8 (.list (refsR C3))
      generalize σ9.set D8 (.list (refsR C3)) = σ10 at le6 k8
      have leY := NH.le_trans leX (NH.le_trans le5 le6)
      have kN' := le6 _ _ (le5 _ _ (le4 _ _ (le3 _ _ kN)))
      have km3 := circleF_mono km (b := pb) (by rw [rowsR_len]; omega)
      rw [← hput] at km3
      walk_at "m_go"
      refine rest _ σ10 D8 C3 (pe + 1) (Sub.cons (by rfl) (Sub.cons (by rfl) (Sub.cons (by rfl) (Sub.cons (by rfl) (Sub.cons (by rfl) Sub.nil))))) k8 ⟨fun c hcm => ?_, hnd3⟩ km3 (NH.le_trans hfr leY) (fun c hcm => ?_) (by omega) (by omega) (by omega) ?_
      · rcases hmem3 c hcm with hcm | rfl
        · exact leY _ _ (hrC.at_ c hcm)
        · exact kN'
      · rcases hmem3 c hcm with hcm | rfl
        · exact hnC c hcm
        · exact NH.le_none hfr hN0
      · unfold stepF
        rw [if_pos (by rw [hc1]; exact hbr), hput]
    have elseP : ∀ ρ2, Sub ρ2 [("rows", .ref l), ("has_circle", .bool hc), ("found", .ref l'), ("begin", .int (pb : Int) 0), ("end", .int (pe : Int) 0)] → (hc && brokenF (cs.getD pb 0)) = false → _ := fun ρ2 hs2 hno => rest ρ2 σ' l' C pe hs2 hlC hrC km hfr hnC hpm.1 (by omega) (by omega) (by unfold stepF; rw [if_neg (by rw [hno]; decide)])
    refine BC_and ?_
    walk_at "m_go"
    cases hhc : hc with
    | false =>
      rw [hhc] at rest elseP
      refine ite_b (fun c => by cases c) (fun _ => ?_)
      rw [if_neg (by decide)]
      refine S_nil (Kont_next ?_)
      exact elseP _ (by walk_at "m_sub") rfl
    | true =>
      rw [hhc] at rest elseP thenP
      rw [Bool.true_and] at elseP
      refine ite_b (fun _ => ?_) (fun c => by cases c)
      walk_at "m_go"
      refine ite_b (fun c1 => ?_) (fun c1 => ?_)
      · walk_at "m_go"
        refine ite_b (fun c2 => ?_) (fun c2 => ?_)
        · walk_at "m_go"
          refine ite_b (fun c3 => ?_) (fun c3 => ?_)
          · refine ite_b (fun _ => ?_) (fun c => by cases c)
            exact thenP _ _ rfl (by rw [hok1]; simp at c1 c2 c3; simp [c1, c2, c3]) rest
          · walk_at "m_go"
            refine ite_b (fun c4 => ?_) (fun c4 => ?_)
            · exact thenP _ _ rfl (by rw [hok1]; simp at c4; simp [c4]) rest
            · refine S_nil (Kont_next ?_)
              exact elseP _ (by walk_at "m_sub") (by rw [hok1]; simp at c1 c2 c3 c4; simp [c4]; intros; omega)
        · rw [if_neg (by decide)]
          walk_at "m_go"
          refine ite_b (fun c4 => ?_) (fun c4 => ?_)
          · exact thenP _ _ rfl (by rw [hok1]; simp at c4; simp [c4]) rest
          · refine S_nil (Kont_next ?_)
            exact elseP _ (by walk_at "m_sub") (by rw [hok1]; simp at c1 c2 c4; simp [c4]; intros; omega)
      · rw [if_neg (by decide), if_neg (by decide)]
        walk_at "m_go"
        refine ite_b (fun c4 => ?_) (fun c4 => ?_)
        · exact thenP _ _ rfl (by rw [hok1]; simp at c4; simp [c4]) rest
        · refine S_nil (Kont_next ?_)
          exact elseP _ (by walk_at "m_sub") (by rw [hok1]; simp at c1 c4; simp [c4]; intros; omega)
  · rintro ρ' σ' ⟨l', C, hsub, hlC, hrC, hrows, hfr, hnC⟩
    rw [List.length_reverse, List.length_map, hSτ.len] at hrows
    rw [← List.length_reverse, List.take_length] at hrows
    refine SC.sub hsub ?_
    walk_at "m_go"
    exact h σ' l' C (fun x o hx => hfr _ _ (hτσ _ _ hx)) hlC hrC hrows
end

theorem mul_ok {a b : Int} (ha : a.natAbs < 2 ^ 40) (hb : b.natAbs < 2 ^ 40) : IntMulOk a b := PyProof.Rows.mulOk_of_bits (m := 40) (n := 40) (intBits_le_iff.mpr ha) (intBits_le_iff.mpr hb) (by decide)
theorem fmod_bd {a b : Int} (hb : 0 < b) : 0 ≤ a.fmod b ∧ a.fmod b < b := ⟨Int.fmod_nonneg_of_pos a hb, Int.fmod_lt_of_pos a hb⟩

structure Pot (σ : NH) (p cl : Addr) (k : Nat) : Prop where
  body : ∃ st pl ms, σ p = some (.list [.ref cl, .int st 0, .int pl 0]) ∧ σ cl = some (.list (intL ms)) ∧ 0 ≤ st ∧ st < 2147483647 ∧ 0 ≤ pl ∧ pl ≤ k ∧ ms.length ≤ 64
theorem Pot.ne {σ : NH} {p cl : Addr} {k : Nat} (h : Pot σ p cl k) : p ≠ cl := by
  obtain ⟨st, pl, ms, h1, h2, _⟩ := h.body
  rintro rfl
  rw [h1] at h2
  injection h2 with h2
  injection h2 with h2
  cases ms with
  | nil => cases h2
  | cons a t => injection h2 with h3 _; cases h3
theorem Pot.up {σ : NH} {p cl : Addr} {k k' : Nat} (h : Pot σ p cl k) (hk : k ≤ k') : Pot σ p cl k' := by
  obtain ⟨st, pl, ms, h1, h2, h3, h4, h5, h6, h7⟩ := h.body
  exact ⟨st, pl, ms, h1, h2, h3, h4, h5, by omega, h7⟩
theorem Pot.le {σ τ : NH} {p cl : Addr} {k : Nat} (h : Pot σ p cl k) (hk : σ.le τ) : Pot τ p cl k := by
  obtain ⟨st, pl, ms, h1, h2, h3⟩ := h.body
  exact ⟨st, pl, ms, hk _ _ h1, hk _ _ h2, h3⟩
noncomputable def FrP (p cl : Addr) (σ σ' : NH) : Prop := ∀ x o, σ x = some o → x ≠ p → x ≠ cl → σ' x = some o
theorem FrP.trans {p cl : Addr} {a b c : NH} (h : FrP p cl a b) (k : FrP p cl b c) : FrP p cl a c := fun x o hx h1 h2 => k x o (h x o hx h1 h2) h1 h2
theorem FrP.of_le {p cl : Addr} {a b : NH} (h : a.le b) : FrP p cl a b := fun x o hx _ _ => h x o hx

noncomputable def Drawn (c : Int) : Prop := (2325 ≤ c ∧ c ≤ 2361) ∨ c ∈ ([2381, 2367, 8204, 8205, 2364, 2306, 2309, 2366] : List Int)

section
variable {W : Wd} {X : Addr → Prop} {A : Around} {σ : NH} {s : Shared} {d : Nat} {env : Env} {ρ : Loc} {Q : Value → NH → Prop} {K : Flow → Loc → NH → Prop}

theorem FC_law_draw {p cl : Addr} {k : Nat} {lim : Int} (hp : Pot σ p cl k) (hk : k < 5000) (hl0 : 0 < lim) (hl1 : lim < 1000000)
    (h : ∀ σ' v, 0 ≤ v → v < lim → Pot σ' p cl (k + 1) → FrP p cl σ σ' → Q (.int v 0) σ') : FC W (d+1) (.ref 236) [.ref p, .int lim 0] σ Q := by
  refine FC_fn2 F236 "pot" "limit" (fun _ _ _ _ => BindsTo.of_eq rfl) (by rfl) ?_
  intro L
  let env := EN F236 L
  show SC _ _ env (execs F236.body env) _ _ _
  dsimp only [F236]
  have hne := hp.ne
  obtain ⟨st, pl, ms, h1, h2, s0, s1, p0, p1, hm⟩ := hp.body
  have m5 : (5 : Int) ≠ 0 := by decide
  refine S_assign (EV_item ?_)
  walk_at "m_go"
  refine ⟨_, _, _, _, rfl, h1, rfl, by omega, by omega, rfl, ?_⟩
  walk_at "m_go"
  refine AC_item ?_
  walk_at "m_go"
  refine ⟨_, _, _, rfl, h1, rfl, by omega, by omega, by simp, ?_⟩
  show SE W _ env _ _ (σ.set p (.list [.ref cl, .int st 0, .int (pl + 1) 0])) _
  have k1 := NH.set_self σ p (.list [.ref cl, .int st 0, .int (pl + 1) 0])
  have k2 : (σ.set p (.list [.ref cl, .int st 0, .int (pl + 1) 0])) cl = some (.list (intL ms)) := by rw [NH.set_ne _ _ (Ne.symm hne)]; exact h2
  have fr1 : FrP p cl σ (σ.set p (.list [.ref cl, .int st 0, .int (pl + 1) 0])) := fun x o hx h3 _ => by rw [NH.set_ne _ _ h3]; exact hx
  generalize σ.set p (.list [.ref cl, .int st 0, .int (pl + 1) 0]) = τ at k1 k2 fr1
  have tail : ∀ ρ', Sub ρ' [("pot", .ref p), ("limit", .int lim 0), ("place", .int pl 0)] → SE W d env (List.drop 3 F236.body) ρ' τ (fun fl x σ' => Q (match fl with | .ret v => v | _ => .none) σ') := by
    intro ρ' hsub
    show SE W d env (List.drop 3 F236.body) _ _ _
    dsimp only [F236, List.drop]
    refine SC.sub hsub ?_
    walk_at "m_go"
    refine EV_item ?_
    walk_at "m_go"
    refine ⟨_, _, _, _, rfl, k1, rfl, by omega, by omega, rfl, ?_⟩
    walk_at "m_go"
    refine op_mul (mul_ok (by omega) (by decide)) ?_
    walk_at "m_go"
    refine op_mul (mul_ok (by omega) (by omega)) ?_
    walk_at "m_go"
    refine op_mod (by decide) ?_
    have hb := fmod_bd (a := st * 16807 + pl * pl + 7) (b := 2147483647) (by decide)
    generalize (st * 16807 + pl * pl + 7).fmod 2147483647 = st' at hb
    refine AC_item ?_
    walk_at "m_go"
    refine ⟨_, _, _, rfl, k1, rfl, by omega, by omega, by simp, ?_⟩
    show SE W _ env _ _ (τ.set p (.list [.ref cl, .int st' 0, .int (pl + 1) 0])) _
    walk_at "m_go"
    refine EV_item ?_
    walk_at "m_go"
    refine ⟨_, _, _, _, rfl, NH.set_self _ _ _, rfl, by omega, by omega, rfl, ?_⟩
    walk_at "m_go"
    refine op_fdiv (by decide) (by decide) ?_
    walk_at "m_go"
    refine op_mod (by omega) ?_
    have hv := fmod_bd (a := st'.fdiv 5) hl0
    refine h _ _ hv.1 hv.2 ⟨st', pl + 1, ms, NH.set_self _ _ _, by rw [NH.set_ne _ _ (Ne.symm hne)]; exact k2, hb.1, hb.2, by omega, by omega, hm⟩ (fr1.trans fun x o hx h3 _ => by rw [NH.set_ne _ _ h3]; exact hx)
  refine S_if (BC_val (EV_item ?_))
  walk_at "m_go"
  refine ⟨_, _, _, _, rfl, k1, rfl, by omega, by omega, rfl, ?_⟩
  refine TV_list k2 (by rw [intL_len]; omega) ?_
  refine ite_b (fun c => ?_) (fun c => ?_)
  · have hml : 0 < ms.length := by
      cases ms with
      | nil => simp [intL] at c
      | cons a t => simp
    walk_at "m_go"
    refine EV_item ?_
    walk_at "m_go"
    refine ⟨_, _, _, _, rfl, k1, rfl, by omega, by omega, rfl, ?_⟩
    walk_at "m_go"
    refine CB_len k2 (by rw [intL_len]; omega) ?_
    rw [intL_len]
    refine op_mod (by omega) ?_
    have hsp := fmod_bd (a := pl) (b := (ms.length : Int)) (by omega)
    generalize pl.fmod (ms.length : Int) = sp at hsp
    walk_at "m_go"
    refine EV_item ?_
    walk_at "m_go"
    refine ⟨_, _, _, _, rfl, k1, rfl, by omega, by omega, rfl, ?_⟩
    walk_at "m_go"
    refine ⟨_, _, _, _, rfl, k2, rfl, by omega, by omega, intL_get (i := sp.toNat) (by omega), ?_⟩
    walk_at "m_go"
    generalize ms[sp.toNat]'(by omega) = here
    refine ite_b (fun c2 => ?_) (fun c2 => ?_)
    · walk_at "m_go"
      refine op_fdiv (by omega) (by omega) ?_
      refine AC_item (EV_item ?_)
      walk_at "m_go"
      refine ⟨_, _, _, _, rfl, k1, rfl, by omega, by omega, rfl, ?_⟩
      walk_at "m_go"
      refine ⟨_, _, _, rfl, k2, rfl, by omega, by omega, by rw [intL_len]; omega, ?_⟩
      walk_at "m_go"
      refine op_mod (by omega) ?_
      have hv := fmod_bd (a := here) hl0
      refine h _ _ hv.1 hv.2 ⟨st, pl + 1, ms.set sp.toNat (here.fdiv lim), by rw [NH.set_ne _ _ hne]; exact k1, ?_, s0, s1, by omega, by omega, by simpa using hm⟩ (fr1.trans fun x o hx _ h4 => by rw [NH.set_ne _ _ h4]; exact hx)
      rw [NH.set_self]; simp [intL, List.map_set]
    · refine S_nil (Kont_next (S_nil (Kont_next ?_)))
      exact tail _ (by walk_at "m_sub")
  · refine S_nil (Kont_next ?_)
    exact tail _ (by walk_at "m_sub")

theorem FC_law_code {p cl : Addr} {k : Nat} (hp : Pot σ p cl k) (hk : k < 4000)
    (h : ∀ σ' v, Drawn v → Pot σ' p cl (k + 3) → FrP p cl σ σ' → Q (.int v 0) σ') : FC W (d+2) (.ref 243) [.ref p] σ Q := by
  refine FC_fn1 F243 "pot" (fun _ _ _ => BindsTo.of_eq rfl) (by rfl) ?_
  intro L
  let env := EN F243 L
  show SC _ _ env (execs F243.body env) _ _ _
  dsimp only [F243]
  walk_at "m_go"
  refine FC_law_draw hp (by omega) (by decide) (by decide) fun σ1 w w0 w1 hp1 fr1 => ?_
  walk_at "m_go"
  refine ite_b (fun c => ?_) (fun c => ?_)
  · walk_at "m_go"
    refine FC_law_draw hp1 (by omega) (by decide) (by decide) fun σ2 v v0 v1 hp2 fr2 => ?_
    walk_at "m_go"
    exact h σ2 _ (.inl ⟨by omega, by omega⟩) (hp2.up (by omega)) (fr1.trans fr2)
  · have hw : 2 ≤ w := by simp at c; omega
    walk_at "m_go"
    refine EV_item ?_
    walk_at "m_go"
    refine EV_item ?_
    walk_at "m_go"
    refine ⟨by simp, fun l1 hl1 => ?_⟩
    walk_at "m_go"
    have le1 := NH.le_set _ (.list [Value.int 8205 0, .int 2364 0, .int 2306 0, .int 2309 0]) hl1
    have kl1 := NH.set_self σ1 l1 (.list [Value.int 8205 0, .int 2364 0, .int 2306 0, .int 2309 0])
    have hp1' := hp1.le le1
    have n1 : l1 ≠ p ∧ l1 ≠ cl := by
      obtain ⟨st, pl, ms, h1, h2, _⟩ := hp1.body
      constructor
      · rintro rfl; rw [h1] at hl1; cases hl1
      · rintro rfl; rw [h2] at hl1; cases hl1
    refine FC_law_draw hp1' (by omega) (by decide) (by decide) fun σ2 v v0 v1 hp2 fr2 => ?_
    have kl2 := fr2 _ _ kl1 n1.1 n1.2
    have hv : v = 0 ∨ v = 1 ∨ v = 2 ∨ v = 3 := by omega
    obtain ⟨u, hu1, hu2⟩ : ∃ u, ([Value.int 8205 0, .int 2364 0, .int 2306 0, .int 2309 0] : List Value)[v.toNat]? = some (.int u 0) ∧ u ∈ ([8205, 2364, 2306, 2309] : List Int) := by
      rcases hv with rfl | rfl | rfl | rfl
      · exact ⟨_, rfl, by decide⟩
      · exact ⟨_, rfl, by decide⟩
      · exact ⟨_, rfl, by decide⟩
      · exact ⟨_, rfl, by decide⟩
    refine ⟨_, _, _, _, rfl, kl2, rfl, by omega, by omega, hu1, ?_⟩
    walk_at "m_go"
    refine FC_law_draw hp2 (by omega) (by decide) (by decide) fun σ3 x x0 x1 hp3 fr3 => ?_
    walk_at "m_go"
    refine ⟨by simp, fun l2 hl2 => ?_⟩
    walk_at "m_go"
    have le2 := NH.le_set _ (.list [Value.int 2381 0, .int 2367 0, .int 8204 0, .int 2367 0, .int u 0, .int (2366 + x) 0]) hl2
    have hwv : w = 2 ∨ w = 3 ∨ w = 4 ∨ w = 5 ∨ w = 6 ∨ w = 7 := by omega
    obtain ⟨q, hq1, hq2⟩ : ∃ q, ([Value.int 2381 0, .int 2367 0, .int 8204 0, .int 2367 0, .int u 0, .int (2366 + x) 0] : List Value)[(w - 2).toNat]? = some (.int q 0) ∧ Drawn q := by
      rcases hwv with rfl | rfl | rfl | rfl | rfl | rfl
      · exact ⟨_, rfl, .inr (by decide)⟩
      · exact ⟨_, rfl, .inr (by decide)⟩
      · exact ⟨_, rfl, .inr (by decide)⟩
      · exact ⟨_, rfl, .inr (by decide)⟩
      · refine ⟨_, rfl, .inr ?_⟩
        simp at hu2 ⊢; omega
      · refine ⟨_, rfl, .inr ?_⟩
        simp; omega
    refine ⟨_, _, _, _, rfl, NH.set_self _ _ _, rfl, by omega, by omega, hq1, ?_⟩
    refine h _ q hq2 (hp3.le le2) ?_
    exact fr1.trans ((FrP.of_le le1).trans (fr2.trans (fr3.trans (FrP.of_le le2))))

theorem EV_slice0 {value : Expr} {lo hi : Option Expr} {p pos : Pos} (h : EV W d env (eval value env) ρ σ (fun x σ₁ => EO W d env lo ρ σ₁ (fun k₁ σ₂ => EO W d env hi ρ σ₂ (fun k₂ σ₃ =>
      ∃ a items, x = .ref a ∧ W.h0.IsList a items ∧ items.size < 1000000 ∧ ∀ l, σ₃ l = none → Q (.ref l) (σ₃.set l (.list (sliceL (items.toList.map nz) k₁ k₂))))))) :
    EV W d env (eval (.Subscript value (.Slice lo hi none p) pos) env) ρ σ Q := fun A s a i lo' => by
  refine Subscript_ (WP.then (h A s a i lo') fun v σ₁ s₁ i₁ p₁ q₁ => wpAny_Slice (WP.then (q₁ A s₁ a i₁ (lo'.stp p₁)) fun l σ₂ s₂ i₂ p₂ q₂ => ?_))
  obtain ⟨k₁, e1, q₂⟩ := q₂
  refine WP.then (q₂ A s₂ a i₂ (lo'.stp (p₁.trans p₂))) fun u σ₃ s₃ i₃ p₃ q₃ => ?_
  obtain ⟨k₂, e2, q₃⟩ := q₃
  obtain ⟨b, items, eb, hb, hl, q⟩ := q₃
  rw [nz_ref eb]
  refine wpAny_pure ?_
  have hb' : Heap.IsList (s₃.heap.push { cls := .type "slice", data := .fields #[l, u, .none] }) b items := by
    obtain ⟨o, h1, h2⟩ := hb
    exact ⟨o, Heap.get?_push_of_some _ (i₃.keep _ _ h1), h2⟩
  have i₄ : Inv W σ₃ { s₃ with heap := s₃.heap.push { cls := .type "slice", data := .fields #[l, u, .none] } } := i₃.same (tk := s₃.toks) fun b o e _ => Heap.get?_push_of_some _ e
  have p₄ : Stp W noX σ₃ s₃ σ₃ { s₃ with heap := s₃.heap.push { cls := .type "slice", data := .fields #[l, u, .none] } } := Stp.same (tk := s₃.toks) fun b o _ e => Heap.get?_push_of_some _ e
  have hT : Shared.TypeIs { s₃ with heap := s₃.heap.push { cls := .type "slice", data := .fields #[l, u, .none] } } (.ref b) "list" := by
    obtain ⟨o, h1, h2, _⟩ := hb'
    exact ⟨o, h1, h2⟩
  refine tail_any hT slot_list_getitem.lookup (wpAny_getItem_list_slice hb' (Heap.IsSliceOf.new ..) (isPart_of e1) (isPart_of e2) .none (by intro h; cases h) ?_ (by rw [sizeLine_eq]; omega)) (by with_unfolding_all rfl)
  exact ⟨_, i₄.pushL (slicePick_nat items k₁ k₂), (((p₁.trans p₂).trans p₃).trans p₄).trans .push, q _ i₄.fresh.1⟩

theorem FC_law_pot {ns : List Int} {l : Addr} {items : Array Value} (hl : W.h0.IsList l items) (hns : items.toList.map nz = intL ns) (hlen : ns.length ≤ 63) (h : ∀ σ' p cl, σ.le σ' → Pot σ' p cl 0 → σ p = none → σ cl = none → Q (.ref p) σ') : FC W (d+1) (.ref 229) [.ref l] σ Q := by
  refine FC_fn1 F229 "script" (fun _ _ _ => BindsTo.of_eq rfl) (by rfl) ?_
  intro L
  let env := EN F229 L
  show SC _ _ env (execs F229.body env) _ _ _
  dsimp only [F229]
  refine S_comp (CompOK.of (by rfl) rfl rfl rfl) (by rfl) (IV_src (EV_slice0 ?_))
  walk_at "m_go"
  refine EO_none (EO_some ?_)
  walk_at "m_go"
  refine ⟨40, rfl, l, _, rfl, hl, by have := congrArg List.length hns; rw [intL_len] at this; simp at this; omega, fun D0 hD0 => ?_⟩
  rw [hns]
  have hsl : sliceL (intL ns) none (some 40) = intL (ns.take 40) := by simp [sliceL, intL, List.map_take]
  rw [hsl]
  generalize hms : ns.take 40 = ms
  have hml : ms.length ≤ 40 := by rw [← hms, List.length_take]; omega
  have le1 := NH.le_set _ (.list (intL ms)) hD0
  have k0 := NH.set_self σ D0 (.list (intL ms))
  generalize σ.set D0 (.list (intL ms)) = τ at le1 k0
  refine ⟨_, _, SrcV.list k0, by rw [intL_len]; omega, fun i ys σ' => τ = σ' ∧ ys = intL (ms.take i), ⟨rfl, rfl⟩, fun i ys σ' hI => by rw [← hI.1]; exact k0, ?_, ?_⟩
  · rintro F i v ys _ hx ⟨rfl, rfl⟩
    obtain ⟨c, hc, rfl⟩ := intL_at hx
    refine CT_nil ?_
    refine ite_b (fun _ => ?_) (fun c => by cases c)
    walk_at "m_go"
    refine CB_int ?_
    exact ⟨rfl, by rw [take_snoc hc]; simp [intL]⟩
  rintro ys _ ⟨rfl, rfl⟩ D1 hD1
  rw [intL_len, List.take_length]
  have le2 := NH.le_set _ (.list (intL ms)) hD1
  have k1 := NH.set_self τ D1 (.list (intL ms))
  generalize τ.set D1 (.list (intL ms)) = τ2 at le2 k1
  walk_at "m_go"
  refine S_for (IV_src ?_)
  walk_at "m_go"
  refine ⟨_, _, SrcV.list k1, fun i ρ' σ' => τ2 = σ' ∧ ∃ st : Int, Sub ρ' [("cells", .ref D1), ("state", .int st 0)] ∧ 0 ≤ st ∧ st < 2147483647, ⟨rfl, 1, by walk_at "m_sub", by decide, by decide⟩, fun i ρ' σ' hI => by rw [← hI.1]; exact k1, ?_, ?_⟩
  · rintro i v ρ' _ hx ⟨rfl, st, hsub, s0, s1⟩
    obtain ⟨c, hc, rfl⟩ := intL_at hx
    refine AC.sub hsub ?_
    walk_at "m_go"
    refine op_mul (mul_ok (by omega) (by decide)) ?_
    walk_at "m_go"
    refine op_mod (by decide) ?_
    walk_at "m_go"
    refine op_mod (by decide) ?_
    have hb := fmod_bd (a := st * 48271 + c.fmod 2147483647 + 12345) (b := 2147483647) (by decide)
    walk_at "m_go"
    exact ⟨rfl, _, by walk_at "m_sub", hb.1, hb.2⟩
  rintro ρ' _ ⟨rfl, st, hsub, s0, s1⟩
  refine SC.sub hsub ?_
  walk_at "m_go"
  refine EV_comp (CompOK.of (by rfl) rfl rfl rfl) (IV_src ?_)
  walk_at "m_go"
  refine ⟨_, _, SrcV.list k1, by rw [intL_len]; omega, fun i ys σ' => τ2 = σ' ∧ ∃ ws : List Int, ys = intL ws ∧ ws.length = i, ⟨rfl, [], rfl, rfl⟩, fun i ys σ' hI => by rw [← hI.1]; exact k1, ?_, ?_⟩
  · rintro F i v ys _ hx ⟨rfl, ws, rfl, hw⟩
    obtain ⟨c, hc, rfl⟩ := intL_at hx
    refine CT_nil ?_
    refine ite_b (fun _ => ?_) (fun c => by cases c)
    walk_at "m_go"
    refine CB_abs ?_
    walk_at "m_go"
    refine op_pow (by decide) (by decide) ?_
    refine op_mod (by decide) ?_
    exact ⟨rfl, ws ++ [_], by simp [intL]; rfl, by simp [hw]⟩
  rintro ys _ ⟨rfl, ws, rfl, hw⟩ D2 hD2
  rw [intL_len] at hw
  have le3 := NH.le_set _ (.list (intL ws)) hD2
  have k2 := NH.set_self τ2 D2 (.list (intL ws))
  generalize τ2.set D2 (.list (intL ws)) = τ3 at le3 k2
  walk_at "m_go"
  refine ⟨by simp, fun P hP => ?_⟩
  have le4 := NH.le_set _ (.list [.ref D2, .int st 0, .int 0 0]) hP
  have leA := NH.le_trans le1 (NH.le_trans le2 le3)
  refine h _ P D2 (NH.le_trans leA le4) ⟨st, 0, ws, NH.set_self _ _ _, le4 _ _ k2, s0, s1, by decide, by decide, by omega⟩ (NH.le_none leA hP) (NH.le_none le1 (NH.le_none le2 hD2))
end

section
variable {W : Wd} {X : Addr → Prop} {A : Around} {σ : NH} {s : Shared} {d : Nat} {env : Env} {ρ : Loc} {Q : Value → NH → Prop} {K : Flow → Loc → NH → Prop}

theorem AC.le {t : Value → Sem Unit} {x : Value} {σ' : NH} {L : Loc → NH → Prop} (h : σ.le σ') (k : AC W d env t x ρ σ L) : AC W d env t x ρ σ' L := fun A s v a i l e => (k A s v a (i.drop h) (l.drop h) e).le h

noncomputable def ZJ (z TI TO i1 i2 l1 l2 : Addr) (i : Nat) (h : Heap) : Prop := IsZip h z TI TO .none ∧ IsPair h TI (.ref i1) (.ref i2) ∧ (∃ a b, IsPair h TO a b) ∧ h.IsListIter i1 l1 i ∧ h.IsListIter i2 l2 i

theorem S_forzip {e₁ e₂ a b : Expr} {k : Nat} {tp p pos fpos : Pos} {body rest : List Stmt} (hk : env.kindOf "zip" = some .globalImplicit) (hg : nsIn (KK W.w) mainGlobals "zip" = some none)
    (h : EV W d env (eval a env) ρ σ (fun x σ₁ => EV W d env (eval b env) ρ σ₁ (fun y σ₂ => ∃ l1 l2 xs ys, x = .ref l1 ∧ y = .ref l2 ∧ σ₂ l1 = some (.list xs) ∧ σ₂ l2 = some (.list ys) ∧ xs.length = ys.length ∧
      ∃ I : Nat → Loc → NH → Prop, I 0 ρ σ₂ ∧ (∀ i ρ' σ', I i ρ' σ' → σ' l1 = some (.list xs) ∧ σ' l2 = some (.list ys)) ∧
      (∀ i u w ρ' σ', xs[i]? = some u → ys[i]? = some w → I i ρ' σ' → AC W d env (assign e₁ env) u ρ' σ' (fun ρ₁ σ₁ => AC W d env (assign e₂ env) w ρ₁ σ₁ (fun ρ₂ σ₂ => SE W d env body ρ₂ σ₂ (fun f ρ₃ σ₃ => match f with
        | .next | .cont => I (i + 1) ρ₃ σ₃
        | .brk => SE W d env rest ρ₃ σ₃ K
        | .ret v => K (.ret v) ρ₃ σ₃)))) ∧ (∀ ρ' σ', I xs.length ρ' σ' → SE W d env rest ρ' σ' K))))
    (hs : starEach [a, b] env = [(false, eval a env), (false, eval b env)] := by rfl) (hs1 : assignEach [e₁, e₂] env = [(false, assign e₁ env), (false, assign e₂ env)] := by rfl)
    (hs2 : ∀ x, foldedSetIterable (.Call (.Name "zip" p) [a, b] [] pos) env x = pure x := by intro _; rfl) :
    SE W d env (.For (.Tuple [e₁, e₂] k tp) (.Call (.Name "zip" p) [a, b] [] pos) body [] fpos :: rest) ρ σ K :=
  S_cons fun A s ao i lo => by
  refine wpAny_For ?_ hs2
  obtain ⟨mg, hG⟩ := W.base.ma
  obtain ⟨mb, hB, hbb⟩ := W.base.bi
  have e0 := mg_none_of W.base.X hG hg
  rw [arm_eval_Call_Name']
  refine wpAny_bind (Calls.Name_function_global lo.fn hk (Calls.loadGlobal_builtin (lo.gl ▸ hG.keeps i.keep) e0 (lo.bn ▸ hB.keeps i.keep) ((hbb _ (by decide)).trans b_zip) ?_) (by decide))
  have e1 : backTo pos (starEach [a, b] env) = [(false, eval a env), (false, eval b env)] := by rw [hs]; rfl
  rw [e1]
  refine callWith_of (P := fun _ => True) rfl (fun _ _ => ⟨.machine, .inr (.inl rfl), Looks.of_pure rfl⟩) (Calls.evalArgs_plain (Calls.spliced_cons (WP.then (h A s ao i lo) fun x σ₁ s₁ i₁ p₁ q₁ =>
    Calls.spliced_cons (WP.then (q₁ A s₁ ao i₁ (lo.stp p₁)) fun y σ₂ s₂ i₂ p₂ q₂ => Calls.spliced_nil ⟨trivial, ?_⟩))))
  obtain ⟨l1, l2, xs, ys, ex, ey, hl1, hl2, hlen, I, h0, hsrc, step, exit⟩ := q₂
  rw [nz_ref ex, nz_ref ey]
  obtain ⟨it1, n1, ho1, hm1⟩ := i₂.list hl1
  obtain ⟨it2, n2, ho2, hm2⟩ := i₂.list hl2
  have lt1 : l1 < s₂.heap.objs.size := Heap.lt_size ho1
  have lt2 : l2 < s₂.heap.objs.size := Heap.lt_size ho2
  have D : ZipApart (s₂.heap.objs.size + 4) (s₂.heap.objs.size + 2) (s₂.heap.objs.size + 3) s₂.heap.objs.size (s₂.heap.objs.size + 1) l1 l2 := ktu_apart _ _ _ lt1 lt2
  have fr : ∀ c, s₂.heap.objs.size ≤ c → σ₂ c = none ∧ W.h0.get? c = none ∧ s₂.heap.get? c = none := fun c hc => by
    refine ⟨?_, ?_, ?_⟩
    · cases q : σ₂ c with
      | none => rfl
      | some o => obtain ⟨ob, h1, _⟩ := i₂.rep _ _ q; exact absurd (Heap.lt_size h1) (Nat.not_lt.mpr hc)
    · cases q : W.h0.get? c with
      | none => rfl
      | some o => exact absurd (Heap.lt_size (i₂.keep _ _ q)) (Nat.not_lt.mpr hc)
    · cases q : s₂.heap.get? c with
      | none => rfl
      | some o => exact absurd (Heap.lt_size q) (Nat.not_lt.mpr hc)
  refine call_zip_2 ⟨_, ho1, rfl, n1, rfl⟩ ⟨_, ho2, rfl, n2, rfl⟩ fun h' hz hTI hTO hi1 hi2 hsz hkp => ?_
  refine wpAny_pyIter_zip hz ?_
  have fpn : ∀ c, c ∈ [s₂.heap.objs.size + 4, s₂.heap.objs.size + 2, s₂.heap.objs.size + 3, s₂.heap.objs.size, s₂.heap.objs.size + 1] → s₂.heap.objs.size ≤ c := fun c hc => by
    simp only [List.mem_cons, List.mem_nil_iff, or_false] at hc
    rcases hc with rfl | rfl | rfl | rfl | rfl
    · exact Nat.le_add_right _ _
    · exact Nat.le_add_right _ _
    · exact Nat.le_add_right _ _
    · exact Nat.le_refl _
    · exact Nat.le_add_right _ _
  have hJ0 : ZJ (s₂.heap.objs.size + 4) (s₂.heap.objs.size + 2) (s₂.heap.objs.size + 3) s₂.heap.objs.size (s₂.heap.objs.size + 1) l1 l2 0 h' := ⟨hz, hTI, ⟨_, _, hTO⟩, hi1, hi2⟩
  generalize s₂.heap.objs.size + 4 = z at D hz hJ0 fpn
  generalize s₂.heap.objs.size + 2 = TI at D hz hTI hJ0 fpn
  generalize s₂.heap.objs.size + 3 = TO at D hz hTO hJ0 fpn
  generalize hI2 : s₂.heap.objs.size + 1 = j2 at D hTI hi2 hJ0 fpn
  generalize hI1 : s₂.heap.objs.size = j1 at D hTI hi1 hJ0 fpn fr hI2 lt1 lt2
  clear hz hTI hTO hi1 hi2 hsz hI2
  have i₃ : Inv W σ₂ { s₂ with heap := h' } := i₂.same (tk := s₂.toks) fun b o e _ => hkp b o e
  have p₃ : Stp W noX σ₂ s₂ σ₂ { s₂ with heap := h' } := Stp.same (tk := s₂.toks) fun b o _ e => hkp b o e
  have P₃ := (p₁.trans p₂).trans p₃
  have l₃ := lo.stp P₃
  have nOwn : ∀ c ∈ [z, TI, TO, j1, j2], ¬ Own env c := fun c hc ho => by
    obtain ⟨f1, f2, f3⟩ := fr c (fpn c hc)
    have lo2 := lo.stp (p₁.trans p₂)
    rcases ho with rfl | ⟨y, hy⟩
    · obtain ⟨m, ⟨o, es, ep, ho, _⟩, _⟩ := lo2.ns
      rw [f3] at ho; cases ho
    · obtain ⟨c', cv, g1, g2, g3, ⟨o, g4, _⟩, _⟩ := lo2.cell y hy.1
      rw [hy.2] at g1; cases g1
      rw [f3] at g4; cases g4
  have nOwn' : ∀ b, Own env b → ¬ b ∈ [z, TI, TO, j1, j2] := fun b ho hb => nOwn b hb ho
  have hfp0 : ∀ c ∈ [z, TI, TO, j1, j2], σ₂ c = none ∧ W.h0.get? c = none := fun c hc => ⟨(fr c (fpn c hc)).1, (fr c (fpn c hc)).2.1⟩
  have gone0 : ∀ c ∈ [z, TI, TO, j1, j2], σ c = none → s.heap.get? c = none := fun c hc hn => gone (p₁.trans p₂) (fr c (fpn c hc)).2.1 (fr c (fpn c hc)).2.2 hn
  clear fr fpn hI1 lt1 lt2 ho1 ho2 hm1 hm2 it1 it2 n1 n2
  refine codeAny_mono (R := fun r s' => ∃ f σ' ρ', r = .ok f ∧ Inv W σ' s' ∧ Stp W (fun b => Own env b ∨ b ∈ [z, TI, TO, j1, j2]) σ₂ { s₂ with heap := h' } σ' s' ∧ LOK W env ρ' σ' s' ∧ Kont W d env rest K (nzF f) ρ' σ') ?_ fun r s' ⟨f, σ', ρ', e, i', p', l', q⟩ => by
    subst e
    refine ⟨σ', i', ⟨fun b ob hx hb h0 n => ?_⟩, ρ', l', q⟩
    obtain ⟨x1, x2⟩ := P₃.kept b ob (fun h => h) hb h0 n
    exact p'.kept b ob (fun h => h.elim hx fun hf => by have := gone0 b hf n; rw [hb] at this; cases this) x1 h0 x2
  refine my_forLoop (fun n s' => ∃ i σ' ρ', n = xs.length + 1 - i ∧ i ≤ xs.length ∧ Inv W σ' s' ∧ Stp W (fun b => Own env b ∨ b ∈ [z, TI, TO, j1, j2]) σ₂ { s₂ with heap := h' } σ' s' ∧ LOK W env ρ' σ' s' ∧ I i ρ' σ' ∧ ZJ z TI TO j1 j2 l1 l2 i s'.heap ∧ ∀ a ∈ [z, TI, TO, j1, j2], σ' a = none ∧ W.h0.get? a = none)
    (fun n s' hI => ?_) (xs.length + 1) ⟨0, σ₂, ρ, rfl, Nat.zero_le _, i₃, .refl, l₃, h0, hJ0, hfp0⟩
  obtain ⟨i, σ', ρ', rfl, hle, i', p', l', hI, ⟨hz, hTI, ⟨qa, qb, hTO⟩, hi1, hi2⟩, hf'⟩ := hI
  obtain ⟨hs1', hs2'⟩ := hsrc _ _ _ hI
  obtain ⟨it1, n1, ho1, hm1⟩ := i'.list hs1'
  obtain ⟨it2, n2, ho2, hm2⟩ := i'.list hs2'
  have hsz1 : it1.size = xs.length := by rw [← hm1]; simp
  have hsz2 : it2.size = ys.length := by rw [← hm2]; simp
  rcases Nat.lt_or_eq_of_le hle with hlt | heq
  · obtain ⟨u, hx⟩ : ∃ u, it1[i]? = some u := ⟨_, Array.getElem?_eq_getElem (by omega)⟩
    obtain ⟨w, hy⟩ : ∃ w, it2[i]? = some w := ⟨_, Array.getElem?_eq_getElem (by omega)⟩
    have hxs : xs[i]? = some (nz u) := by rw [← hm1, List.getElem?_map, Array.getElem?_toList, hx]; rfl
    have hys : ys[i]? = some (nz w) := by rw [← hm2, List.getElem?_map, Array.getElem?_toList, hy]; rfl
    refine wpAny_pyNext_zip_item D hz hTI hTO hi1 hi2 ⟨_, ho1, rfl, n1, rfl⟩ ⟨_, ho2, rfl, n2, rfl⟩ hx hy fun h₁ a1 a2 a3 a4 a5 a6 hk₁ => ?_
    refine wpAny_letOwnedTupleGo_zip a1 fun h₂ hz₂ hs₂ => ?_
    have hfT := i'.fresh
    have hzT : s'.heap.objs.size ≠ z := Nat.ne_of_gt (Heap.lt_size hz)
    have keep₂ : ∀ b o, ¬ b ∈ [z, TI, TO, j1, j2] → s'.heap.get? b = some o → h₂.get? b = some o := fun b o hb e => by
      simp only [List.mem_cons, List.mem_nil_iff, or_false, not_or] at hb
      exact hs₂.extBut b o hb.1 (hk₁ b o hb.1 hb.2.2.1 hb.2.2.2.1 hb.2.2.2.2 e)
    have i₂' : Inv W σ' { s' with heap := h₂ } := i'.same (tk := s'.toks) fun b o e hb => keep₂ b o (fun hm => by
      obtain ⟨f1, f2⟩ := hf' b hm
      rcases hb with hb | hb
      · exact hb f2
      · exact hb f1) e
    have hT₂ : h₂.get? s'.heap.objs.size = some { cls := .type "tuple", data := .seq #[u, w] } := hs₂.extBut _ _ hzT a5
    have iT : Inv W (σ'.set s'.heap.objs.size (.tup [nz u, nz w])) { s' with heap := h₂ } := i₂'.adopt hT₂ ⟨#[u, w], 0, rfl, rfl⟩ hfT.2
    have pT : Stp W (· ∈ [z, TI, TO, j1, j2]) σ' s' (σ'.set s'.heap.objs.size (.tup [nz u, nz w])) { s' with heap := h₂ } := ⟨fun b ob hb e h0 n =>
      ⟨keep₂ b ob hb e, by rw [NH.set_ne _ _ (Nat.ne_of_lt (Heap.lt_size e))]; exact n⟩⟩
    have lT := l'.stpX pT nOwn'
    have hJ₂ : ZJ z TI TO j1 j2 l1 l2 (i + 1) h₂ := ⟨hz₂, hs₂.extBut _ _ D.TIz (hk₁ _ _ D.TIz D.TITO D.TIi1 D.TIi2 hTI), ⟨_, _, hs₂.extBut _ _ D.TOz a2⟩, a3.extBut hs₂.extBut D.i1z, a4.extBut hs₂.extBut D.i2z⟩
    have alive : ∀ c ∈ [z, TI, TO, j1, j2], ∃ o, h₂.get? c = some o := fun c hc => by
      obtain ⟨q1, q2, ⟨_, _, q3⟩, ⟨o4, q4, _⟩, ⟨o5, q5, _⟩⟩ := hJ₂
      simp only [List.mem_cons, List.mem_nil_iff, or_false] at hc
      rcases hc with rfl | rfl | rfl | rfl | rfl
      · exact ⟨_, q1⟩
      · exact ⟨_, q2⟩
      · exact ⟨_, q3⟩
      · exact ⟨_, q4⟩
      · exact ⟨_, q5⟩
    have hleT := NH.le_set σ' (.tup [nz u, nz w]) hfT.1
    have hfT' : ∀ c ∈ [z, TI, TO, j1, j2], (σ'.set s'.heap.objs.size (.tup [nz u, nz w])) c = none := fun c hc => by
      have hcl : c ≠ s'.heap.objs.size := by
        have hz' := hz; have hTI' := hTI; have hTO' := hTO
        obtain ⟨o4, q4, _⟩ := hi1; obtain ⟨o5, q5, _⟩ := hi2
        simp only [List.mem_cons, List.mem_nil_iff, or_false] at hc
        rcases hc with rfl | rfl | rfl | rfl | rfl
        · exact Nat.ne_of_lt (Heap.lt_size hz')
        · exact Nat.ne_of_lt (Heap.lt_size hTI')
        · exact Nat.ne_of_lt (Heap.lt_size hTO')
        · exact Nat.ne_of_lt (Heap.lt_size q4)
        · exact Nat.ne_of_lt (Heap.lt_size q5)
      rw [NH.set_ne _ _ hcl]; exact (hf' c hc).1
    have turn : AC W d env (assign (.Tuple [e₁, e₂] k tp) env) (.ref s'.heap.objs.size) ρ' (σ'.set s'.heap.objs.size (.tup [nz u, nz w])) _ := AC_tuple (NH.set_self _ _ _) (AC.le hleT (step i _ _ ρ' σ' hxs hys hI)) hs1
    refine WP.then (turn A _ (.ref s'.heap.objs.size) ao iT lT rfl) fun _ σ₄ s₄ i₄ p₄ ⟨ρ₄, l₄, q₄⟩ => ?_
    refine WP.then (q₄ A s₄ ao i₄ l₄) fun f σ₅ s₅ i₅ p₅ ⟨ρ₅, l₅, q₅⟩ => ?_
    have p45 := p₄.trans p₅
    have live : ∀ c ∈ [z, TI, TO, j1, j2], ∀ o, h₂.get? c = some o → s₅.heap.get? c = some o ∧ σ₅ c = none := fun c hc o e => p45.kept c o (nOwn c hc) e (hf' c hc).2 (hfT' c hc)
    have hJ₅ : ZJ z TI TO j1 j2 l1 l2 (i + 1) s₅.heap := by
      obtain ⟨q1, q2, ⟨ra, rb, q3⟩, q4, q5⟩ := hJ₂
      exact ⟨(live z (by simp) _ q1).1, (live TI (by simp) _ q2).1, ⟨ra, rb, (live TO (by simp) _ q3).1⟩, q4.at fun o e => (live j1 (by simp) o e).1, q5.at fun o e => (live j2 (by simp) o e).1⟩
    have hf₅ : ∀ c ∈ [z, TI, TO, j1, j2], σ₅ c = none ∧ W.h0.get? c = none := fun c hc => by
      obtain ⟨o, ho⟩ := alive c hc
      exact ⟨(live c hc o ho).2, (hf' c hc).2⟩
    have P : Stp W (fun b => Own env b ∨ b ∈ [z, TI, TO, j1, j2]) σ₂ { s₂ with heap := h' } σ₅ s₅ :=
      (p'.trans ⟨fun b ob hx => pT.kept b ob fun h => hx (.inr h)⟩).trans ⟨fun b ob hx => p45.kept b ob fun h => hx (.inl h)⟩
    cases f with
    | next => exact ⟨xs.length + 1 - (i + 1), by omega, i + 1, σ₅, ρ₅, rfl, hlt, i₅, P, l₅, q₅, hJ₅, hf₅⟩
    | cont => exact ⟨xs.length + 1 - (i + 1), by omega, i + 1, σ₅, ρ₅, rfl, hlt, i₅, P, l₅, q₅, hJ₅, hf₅⟩
    | brk => exact ⟨.next, σ₅, ρ₅, rfl, i₅, P, l₅, q₅⟩
    | ret v => exact ⟨.ret v, σ₅, ρ₅, rfl, i₅, P, l₅, q₅⟩
  · subst heq
    refine wpAny_pyNext_zip_end ao.hd D hz hTI hTO hi1 hi2 ⟨_, ho1, rfl, n1, rfl⟩ ⟨_, ho2, rfl, n2, rfl⟩ (.inl (Array.getElem?_eq_none (by omega))) fun h₁ hk₁ => ?_
    have keep₁ : ∀ b o, ¬ b ∈ [z, TI, TO, j1, j2] → s'.heap.get? b = some o → h₁.get? b = some o := fun b o hb e => by
      simp only [List.mem_cons, List.mem_nil_iff, or_false, not_or] at hb
      exact hk₁ b o hb.1 hb.2.2.1 hb.2.2.2.1 hb.2.2.2.2 e
    have i₁' : Inv W σ' { s' with heap := h₁ } := i'.same (tk := s'.toks) fun b o e hb => keep₁ b o (fun hm => by
      obtain ⟨f1, f2⟩ := hf' b hm
      rcases hb with hb | hb
      · exact hb f2
      · exact hb f1) e
    have p₁' : Stp W (· ∈ [z, TI, TO, j1, j2]) σ' s' σ' { s' with heap := h₁ } := ⟨fun b ob hb e h0 n => ⟨keep₁ b ob hb e, n⟩⟩
    exact ⟨.next, σ', ρ', rfl, i₁', p'.trans ⟨fun b ob hx => p₁'.kept b ob fun h => hx (.inr h)⟩, l'.stpX p₁' nOwn', exit _ _ hI⟩
end

theorem sorted_eq : ∀ {l₁ l₂ : List Int}, l₁.Perm l₂ → l₁.Pairwise (· ≤ ·) → l₂.Pairwise (· ≤ ·) → l₁ = l₂
  | [], l₂, h, _, _ => h.nil_eq
  | a :: l₁, [], h, _, _ => absurd h.length_eq (by simp)
  | a :: l₁, b :: l₂, h, h1, h2 => by
    rw [List.pairwise_cons] at h1 h2
    have e : a = b := by
      have ha : a ∈ b :: l₂ := h.mem_iff.mp List.mem_cons_self
      have hb : b ∈ a :: l₁ := h.mem_iff.mpr List.mem_cons_self
      have i1 : b ≤ a := by
        rcases List.mem_cons.mp ha with e | ha
        · rw [e]; exact Int.le_refl _
        · exact h2.1 a ha
      have i2 : a ≤ b := by
        rcases List.mem_cons.mp hb with e | hb
        · rw [e]; exact Int.le_refl _
        · exact h1.1 b hb
      omega
    subst e
    rw [sorted_eq (List.perm_cons a |>.mp h) h1.2 h2.2]
noncomputable def kindOk (r : Row) : Prop := r.kind = "zwj" ∨ r.kind = ""
theorem movedF_kind {rs : List Row} {b e : Nat} (hb : b < e) (he : e ≤ rs.length) (h : ∀ r ∈ rs, kindOk r) : ∀ r ∈ movedF rs b e, kindOk r := by
  unfold movedF
  split
  · exact h
  · rename_i p hp
    obtain ⟨h1, h2⟩ := movedF_bd hb he hp
    intro r hr
    have := (stir_mem (by omega)).mp hr
    obtain ⟨r0, h0, rfl⟩ := List.mem_map.mp this
    have := h r0 h0
    unfold kindOk mrgR at *
    split <;> exact this
theorem circleF_kind {rs : List Row} {b : Nat} (h : ∀ r ∈ rs, kindOk r) : ∀ r ∈ circleF rs b, kindOk r := by
  intro r hr
  unfold circleF at hr
  rcases List.mem_append.mp hr with hr | hr
  · exact h r (List.mem_of_mem_take hr)
  · rcases List.mem_cons.mp hr with rfl | hr
    · exact .inr rfl
    · exact h r (List.mem_of_mem_drop hr)
theorem foldF_kind {hc : Bool} {cs : List Int} : ∀ (ps : List (Nat × Nat)) (rs : List Row), (∀ p ∈ ps, p.1 < p.2 ∧ p.2 ≤ rs.length) → Mono rs → (∀ r ∈ rs, kindOk r) → ∀ r ∈ ps.foldl (stepF hc cs) rs, kindOk r
  | [], rs, _, _, h => h
  | p :: ps, rs, hp, hm, h => by
    obtain ⟨h1, h2⟩ := hp p List.mem_cons_self
    obtain ⟨a1, a2, a3, a4, a5⟩ := stepF_kept (hc := hc) (cs := cs) hm h1 h2
    rw [List.foldl_cons]
    refine foldF_kind ps _ (fun q hq => by have := hp q (List.mem_cons_of_mem _ hq); omega) a1 ?_
    unfold stepF
    split
    · exact movedF_kind (by omega) (by rw [circleF_len]; omega) (circleF_kind h)
    · exact movedF_kind h1 h2 h
theorem allF_kind {hc : Bool} {rs : List Row} (hm : Mono rs) (h : ∀ r ∈ rs, kindOk r) : ∀ r ∈ allF hc rs, kindOk r := by
  obtain ⟨s1, s2⟩ := syls_ok (codesF rs)
  rw [codesF_len] at s1
  exact foldF_kind _ rs (fun p hp => s1 p (List.mem_reverse.mp hp)) hm h

theorem Drawn.ok {c : Int} (h : Drawn c) : okC c := by
  rcases h with h | h
  · exact okC_con h.1 h.2
  · exact okC_oth h

noncomputable def zipW (C : List Cell) (rc : List RC) : List Cell := List.zipWith (fun c q => { c with r := q.r }) C rc
theorem zipW_get {C : List Cell} {rc : List RC} (h : C.length = rc.length) {i : Nat} (hi : i < C.length) : (zipW C rc)[i]? = some { C[i] with r := (rc[i]'(h ▸ hi)).r } := by
  unfold zipW
  rw [List.getElem?_zipWith, List.getElem?_eq_getElem hi, List.getElem?_eq_getElem (h ▸ hi)]
theorem zipW_len {C : List Cell} {rc : List RC} (h : C.length = rc.length) : (zipW C rc).length = C.length := by
  unfold zipW; rw [List.length_zipWith, h, Nat.min_self]
theorem zipW_map {α : Type} (f : Cell → α) (g : Addr × Addr → α) (hf : ∀ c, f c = g (c.a, c.d)) {C : List Cell} {rc : List RC} (h : C.length = rc.length) : (zipW C rc).map f = C.map f := by
  apply List.ext_getElem?
  intro i
  rw [List.getElem?_map, List.getElem?_map]
  by_cases hi : i < C.length
  · rw [zipW_get h hi, List.getElem?_eq_getElem hi]
    simp only [Option.map_some]
    rw [hf, hf]
  · rw [List.getElem?_eq_none (by rw [zipW_len h]; omega), List.getElem?_eq_none (by omega)]
theorem zipW_rows {C : List Cell} {rc : List RC} (h : C.length = rc.length) : rowsC (zipW C rc) = rowsR rc := by
  unfold rowsC rowsR
  apply List.ext_getElem?
  intro i
  rw [List.getElem?_map, List.getElem?_map]
  by_cases hi : i < C.length
  · rw [zipW_get h hi, List.getElem?_eq_getElem (h ▸ hi)]; rfl
  · rw [List.getElem?_eq_none (by rw [zipW_len h]; omega), List.getElem?_eq_none (by omega)]; rfl
theorem isRows_of {σ : NH} : ∀ {rc : List RC}, (∀ c ∈ rc, σ c.a = some (.list (rowV c.r))) → IsRows σ (refsR rc) ((rowsR rc).map rowV)
  | [], _ => trivial
  | c :: rc, h => ⟨⟨c.a, rfl, h c List.mem_cons_self⟩, isRows_of fun c' hc => h c' (List.mem_cons_of_mem _ hc)⟩
theorem flat_row {r : Row} (h : kindOk r) : ∀ v ∈ rowV r, flatV v = true := by
  intro v hv
  simp only [rowV, List.mem_cons, List.mem_nil_iff, or_false] at hv
  rcases hv with rfl | rfl | rfl | rfl | rfl
  · rfl
  · rfl
  · rfl
  · rfl
  · show PyData.strOk r.kind = true
    rcases h with h | h
    · rw [h]; decide +kernel
    · rw [h]; decide +kernel

theorem Pot.eq {σ σ' : NH} {p cl : Addr} {k : Nat} (h : Pot σ p cl k) (h1 : σ' p = σ p) (h2 : σ' cl = σ cl) : Pot σ' p cl k := by
  obtain ⟨st, pl, ms, g1, g2, g3⟩ := h.body
  exact ⟨st, pl, ms, h1.trans g1, h2.trans g2, g3⟩
theorem Pot.none {σ : NH} {p cl : Addr} {k : Nat} (h : Pot σ p cl k) {x : Addr} (hx : σ x = none) : x ≠ p ∧ x ≠ cl := by
  obtain ⟨st, pl, ms, g1, g2, _⟩ := h.body
  constructor
  · rintro rfl; rw [g1] at hx; cases hx
  · rintro rfl; rw [g2] at hx; cases hx

section
variable {W : Wd} {X : Addr → Prop} {A : Around} {σ : NH} {s : Shared} {d : Nat} {env : Env} {ρ : Loc} {Q : Value → NH → Prop} {K : Flow → Loc → NH → Prop}

theorem FC_law {ns : List Int} {l : Addr} {items : Array Value} (hl : W.h0.IsList l items) (hns : items.toList.map nz = intL ns) (hlen : ns.length ≤ 63) (h : ∀ σ', Q (.bool true) σ') : FC W (d+7) (.ref 270) [.ref l] σ Q := by
  refine FC_fn1 F270 "script" (fun _ _ _ => BindsTo.of_eq rfl) (by rfl) ?_
  intro L
  let env := EN F270 L
  show SC _ _ env (execs F270.body env) _ _ _
  dsimp only [F270]
  walk_at "m_go"
  refine FC_law_pot hl hns hlen fun σ1 p cl le1 hp0 _ _ => ?_
  clear hl le1
  walk_at "m_go"
  
  refine S_comp (CompOK.of (by rfl) rfl rfl rfl) (by rfl) (IV_src ?_)
  walk_at "m_go"
  refine FC_law_draw hp0 (by omega) (by decide) (by decide) fun σ2 n n0 n1 hp1 _ => ?_
  walk_at "m_go"
  refine CB_range1 fun r hr => ?_
  have hp2 := hp1.le (NH.le_set _ (.rng 0 n 1) hr)
  have kr := NH.set_self σ2 r (.rng 0 n 1)
  generalize σ2.set r (.rng 0 n 1) = σ3 at hp2 kr
  refine ⟨_, _, SrcV.rng kr (by omega) (by omega) (by omega) (by omega), by rw [rangeL_len]; omega, fun k ys σ' => k ≤ 14 ∧ Pot σ' p cl (1 + 3 * k) ∧ ∃ cs : List Int, ys = intL cs ∧ cs.length = k ∧ ∀ c ∈ cs, Drawn c, ⟨by decide, hp2, [], rfl, rfl, fun c hc => (nomatch hc)⟩, fun _ _ _ _ => trivial, ?_, ?_⟩
  · rintro F k v ys σ' hx ⟨hk14, hp, cs, rfl, hcl, hcd⟩
    obtain ⟨hk, rfl⟩ := rangeL_get hx
    refine CT_nil ?_
    refine ite_b (fun _ => ?_) (fun c => by cases c)
    walk_at "m_go"
    refine FC_law_code hp (by omega) fun σ4 c hc hp' _ => ?_
    refine ⟨by omega, hp'.up (by omega), cs ++ [c], by simp [intL], by simp [hcl], fun x hx => ?_⟩
    rcases List.mem_append.mp hx with hx | hx
    · exact hcd x hx
    · rw [List.mem_singleton.mp hx]; exact hc
  rintro ys σ4 ⟨_, hp4, cs, rfl, hcl, hcd⟩ D1 hD1
  rw [rangeL_len] at hcl hp4
  have hcn : cs.length ≤ 13 := by omega
  clear kr hp2 hp1 hp0
  have hD1p : D1 ≠ p ∧ D1 ≠ cl := by
    obtain ⟨st, pl, ms, g1, g2, _⟩ := hp4.body
    constructor
    · rintro rfl; rw [g1] at hD1; cases hD1
    · rintro rfl; rw [g2] at hD1; cases hD1
  have hp5 := hp4.le (NH.le_set _ (.list (intL cs)) hD1)
  have k1 := NH.set_self σ4 D1 (.list (intL cs))
  generalize σ4.set D1 (.list (intL cs)) = σ5 at hp5 k1
  clear hp4 hD1
  
  walk_at "m_go"
  refine ⟨by decide, fun D2 hD2 => ?_⟩
  have hD2p : D2 ≠ p ∧ D2 ≠ cl ∧ D2 ≠ D1 := by
    obtain ⟨st, pl, ms, g1, g2, _⟩ := hp5.body
    refine ⟨?_, ?_, ?_⟩
    · rintro rfl; rw [g1] at hD2; cases hD2
    · rintro rfl; rw [g2] at hD2; cases hD2
    · rintro rfl; rw [k1] at hD2; cases hD2
  have leB := NH.le_set _ (.list []) hD2
  have hp6 := hp5.le leB
  have k1' := leB _ _ k1
  have k2 := NH.set_self σ5 D2 (.list [])
  generalize σ5.set D2 (.list []) = σ6 at hp6 k1' k2
  clear leB hp5 k1 hD2
  walk_at "m_go"
  refine FC_law_draw hp6 (by omega) (by decide) (by decide) fun σ7 c0 c00 c01 hp7 fr7 => ?_
  have k1 := fr7 _ _ k1' hD1p.1 hD1p.2
  have k2' := fr7 _ _ k2 hD2p.1 hD2p.2.1
  clear hp6 fr7 k1' k2
  walk_at "m_go"
  refine S_for (IV_src ?_)
  walk_at "m_go"
  refine ⟨_, _, SrcV.list k1, fun k ρ' σ' => ∃ (rc : List RC) (c : Int), Sub ρ' [("pot", .ref p), ("codes", .ref D1), ("rows", .ref D2), ("cluster", .int c 0)] ∧ σ' D1 = some (.list (intL cs)) ∧ σ' D2 = some (.list (refsR rc)) ∧ RRows σ' rc ∧
      Pot σ' p cl (100 + 3 * k) ∧ codesF (rowsR rc) = cs.take k ∧ Mono (rowsR rc) ∧ (∀ r ∈ rowsR rc, r.cluster ≤ c ∧ kindOk r) ∧ rc.length = k ∧ k ≤ 13 ∧ ∀ q ∈ rc, q.a ≠ p ∧ q.a ≠ cl,
    ⟨[], _, by walk_at "m_sub", k1, k2', ⟨fun c hc => (nomatch hc), List.nodup_nil⟩, hp7.up (by omega), rfl, List.Pairwise.nil, fun r hr => (nomatch hr), rfl, by decide, fun q hq => (nomatch hq)⟩, fun k ρ' σ' ⟨rc, c, _, h1, _⟩ => h1, ?_, ?_⟩
  · rintro k v ρ' σ' hx ⟨rc, c, hsub, hk1, hk2, hrr, hpp, hco, hmo, hcl', hrl, hk13, hqa⟩
    obtain ⟨x, hxc, rfl⟩ := intL_at hx
    have hkn := lt_of_get hxc
    refine AC.sub hsub ?_
    walk_at "m_go"
    refine S_expr (EV_append ?_)
    walk_at "m_go"
    refine ⟨D2, _, rfl, hk2, ?_⟩
    walk_at "m_go"
    refine FC_law_draw hpp (by omega) (by decide) (by decide) fun σa mk mk0 mk1 hpa fra => ?_
    have hk1a := fra _ _ hk1 hD1p.1 hD1p.2
    have hk2a := fra _ _ hk2 hD2p.1 hD2p.2.1
    have hrra : RRows σa rc := ⟨fun q hq => fra _ _ (hrr.at_ q hq) (hqa q hq).1 (hqa q hq).2, hrr.nd⟩
    walk_at "m_go"
    refine CB_len hk2a (by rw [refsR_len]; omega) ?_
    walk_at "m_go"
    refine ⟨by simp, fun N hN => ?_⟩
    rw [refsR_len]
    have hNp := hpa.none hN
    have hN2 : D2 ≠ N := by rintro rfl; rw [hk2a] at hN; cases hN
    have hN1 : D1 ≠ N := by rintro rfl; rw [hk1a] at hN; cases hN
    refine ⟨refsR rc, by rw [NH.set_ne _ _ hN2]; exact hk2a, by rw [refsR_len]; omega, rfl, ?_⟩
    show SE W _ env _ _ ((σa.set N (.list (rowV ⟨x, c, mk, 100 + (rc.length : Int), "zwj"⟩))).set D2 (.list (refsR rc ++ [.ref N]))) _
    generalize hrn : (⟨x, c, mk, 100 + (rc.length : Int), "zwj"⟩ : Row) = rn
    have hrn1 : rn.code = x := by rw [← hrn]
    have hrn2 : rn.cluster = c := by rw [← hrn]
    have hrn3 : kindOk rn := by rw [← hrn]; exact .inl rfl
    have fb : ∀ y, y ≠ N → y ≠ D2 → ((σa.set N (.list (rowV rn))).set D2 (.list (refsR rc ++ [.ref N]))) y = σa y := fun y h1 h2 => by rw [NH.set_ne _ _ h2, NH.set_ne _ _ h1]
    have hb1 := (fb D1 hN1 (Ne.symm hD2p.2.2)).trans hk1a
    have hb2 := NH.set_self (σa.set N (.list (rowV rn))) D2 (.list (refsR rc ++ [.ref N]))
    have hbN : ((σa.set N (.list (rowV rn))).set D2 (.list (refsR rc ++ [.ref N]))) N = some (.list (rowV rn)) := by rw [NH.set_ne _ _ (Ne.symm hN2)]; exact NH.set_self _ _ _
    have hpb := hpa.eq (fb p (Ne.symm hNp.1) (Ne.symm hD2p.1)) (fb cl (Ne.symm hNp.2) (Ne.symm hD2p.2.1))
    have hrrb : RRows ((σa.set N (.list (rowV rn))).set D2 (.list (refsR rc ++ [.ref N]))) (rc ++ [⟨N, rn⟩]) := by
      refine ⟨fun q hq => ?_, ?_⟩
      · rcases List.mem_append.mp hq with hq | hq
        · have h0 := hrra.at_ q hq
          rw [fb q.a (by intro e0; rw [e0, hN] at h0; cases h0) (by intro e0; rw [e0, hk2a] at h0; exact rowV_ne _ _ (by injection h0 with h0; injection h0 with h0; exact h0.symm))]
          exact h0
        · rw [List.mem_singleton.mp hq]; exact hbN
      · rw [List.map_append, List.nodup_append]
        refine ⟨hrra.nd, by simp, fun a ha b hb => ?_⟩
        obtain ⟨q, hq, rfl⟩ := List.mem_map.mp ha
        have e1 : b = N := by simpa using hb
        rw [e1]
        intro e2
        have := hrra.at_ q hq
        rw [e2, hN] at this; cases this
    generalize (σa.set N (.list (rowV rn))).set D2 (.list (refsR rc ++ [.ref N])) = σb at hb1 hb2 hbN hpb hrrb
    have hb2' : σb D2 = some (.list (refsR (rc ++ [⟨N, rn⟩]))) := by rw [refsR_append]; exact hb2
    have hqa' : ∀ q ∈ rc ++ [⟨N, rn⟩], q.a ≠ p ∧ q.a ≠ cl := fun q hq => by
      rcases List.mem_append.mp hq with hq | hq
      · exact hqa q hq
      · rw [List.mem_singleton.mp hq]; exact hNp
    clear fb hb2 hbN hk1a hk2a hrra hpa fra hN
    walk_at "m_go"
    refine EV_item ?_
    walk_at "m_go"
    refine ⟨by simp, fun L1 hL1 => ?_⟩
    have leL := NH.le_set _ (.list [Value.int 1 0, .int 2 0, .int 0 0]) hL1
    have kL := NH.set_self σb L1 (.list [Value.int 1 0, .int 2 0, .int 0 0])
    have hLp := hpb.none hL1
    walk_at "m_go"
    refine FC_law_draw (hpb.le leL) (by omega) (by decide) (by decide) fun σc v v0 v1 hpc frc => ?_
    have kLc := frc _ _ kL hLp.1 hLp.2
    obtain ⟨u, hu1, hu2⟩ : ∃ u : Int, ([Value.int 1 0, .int 2 0, .int 0 0] : List Value)[v.toNat]? = some (.int u 0) ∧ 0 ≤ u := by
      have hv : v = 0 ∨ v = 1 ∨ v = 2 := by omega
      rcases hv with rfl | rfl | rfl
      · exact ⟨1, rfl, by decide⟩
      · exact ⟨2, rfl, by decide⟩
      · exact ⟨0, rfl, by decide⟩
    refine ⟨_, _, _, _, rfl, kLc, rfl, by omega, by omega, hu1, ?_⟩
    walk_at "m_go"
    refine ⟨rc ++ [⟨N, rn⟩], c + u, by walk_at "m_sub", frc _ _ (leL _ _ hb1) hD1p.1 hD1p.2, frc _ _ (leL _ _ hb2') hD2p.1 hD2p.2.1, ⟨fun q hq => frc _ _ (leL _ _ (hrrb.at_ q hq)) (hqa' q hq).1 (hqa' q hq).2, hrrb.nd⟩, hpc.up (by omega), ?_, ?_, fun r hr => ?_, by rw [List.length_append]; simp; omega, by omega, hqa'⟩
    · rw [take_snoc hxc, ← hco]; simp [codesF, rowsR, hrn1]
    · unfold Mono clsF rowsR
      simp only [List.map_append, List.map_cons, List.map_nil]
      rw [List.pairwise_append]
      refine ⟨hmo, List.pairwise_singleton _ _, fun a ha b hb => ?_⟩
      rw [List.mem_singleton.mp hb, hrn2]
      obtain ⟨r0, h0, rfl⟩ := List.mem_map.mp ha
      exact (hcl' r0 h0).1
    · unfold rowsR at hr
      rw [List.map_append] at hr
      rcases List.mem_append.mp hr with hr | hr
      · have := hcl' r hr
        exact ⟨by omega, this.2⟩
      · have e0 : r = rn := by simpa using hr
        rw [e0, hrn2]
        exact ⟨by omega, hrn3⟩
  rintro ρ' σ8 ⟨rc, c, hsub, hk1, hk2, hrr, hpp, hco, hmo, hcl', hrl, hk13, hqa⟩
  rw [intL_len] at hrl hco
  rw [List.take_length] at hco
  have hkind : ∀ r ∈ rowsR rc, kindOk r := fun r hr => (hcl' r hr).2
  have hok : ∀ c ∈ codesF (rowsR rc), okC c := fun x hx => by rw [hco] at hx; exact (hcd x hx).ok
  clear hpp hqa hcl' k1 k2'
  refine SC.sub (l := [("codes", .ref D1), ("rows", .ref D2)]) (Sub.cons (hsub.look (by rfl)) (Sub.cons (hsub.look (by rfl)) Sub.nil)) ?_
  clear hsub hp7
  
  refine S_for (IV_src ?_)
  walk_at "m_go"
  refine ⟨by simp, fun T hT => ?_⟩
  have leT := NH.le_set _ (.tup [Value.bool false, .bool true]) hT
  have kT := NH.set_self σ8 T (.tup [Value.bool false, .bool true])
  generalize σ8.set T (.tup [Value.bool false, .bool true]) = τ at leT kT
  have hk1 := leT _ _ hk1
  have hk2 := leT _ _ hk2
  have hrr := hrr.le leT
  refine ⟨_, _, SrcV.tup kT, fun k ρ' σ' => Sub ρ' [("codes", .ref D1), ("rows", .ref D2)] ∧ FrL τ σ', ⟨by walk_at "m_sub", .refl _⟩, fun k ρ' σ' hI => hI.2 _ _ kT (by simp), ?_, ?_⟩
  · rintro k v ρ' σ' hx ⟨hsub, hfr⟩
    obtain ⟨hc, rfl⟩ : ∃ hc : Bool, v = .bool hc := by
      match k, hx with
      | 0, hx => exact ⟨false, by simpa using hx.symm⟩
      | 1, hx => exact ⟨true, by simpa using hx.symm⟩
      | k + 2, hx => simp at hx
    refine AC.sub hsub ?_
    have h1 := hfr _ _ hk1 (by simp)
    have h2 := hfr _ _ hk2 (by simp)
    have hrr' : RRows σ' rc := ⟨fun q hq => hfr _ _ (hrr.at_ q hq) (by simp), hrr.nd⟩
    walk_at "m_go"
    refine FC_buffer_of h1 (by omega) fun σ1 x dd l1 C hb1 le1 hl1 hrows1 => ?_
    have hcl : C.length = rc.length := by
      have := congrArg List.length hrows1
      rw [rowsC_len] at this
      simp at this; omega
    have hC : ∀ j (hj : j < C.length), C[j].r = initR cs j := fun j hj => by
      have h3 : (rowsC C)[j]? = some C[j].r := by unfold rowsC; rw [List.getElem?_map, List.getElem?_eq_getElem hj]; rfl
      rw [hrows1, List.getElem?_map, List.getElem?_range (by omega)] at h3
      exact (Option.some.inj h3).symm
    have hcode : ∀ j (hj : j < rc.length), rc[j].r.code = cs.getD j 0 := fun j hj => by rw [← hco]; exact (rowsR_code hj).symm
    have h1b := le1 _ _ h1
    have h2b := le1 _ _ h2
    have hrrb := hrr'.le le1
    have fr1 : FrL τ σ1 := hfr.trans (FrL.of_le le1)
    have hl1D1 : D1 ≠ l1 := by rintro rfl; rw [h1] at hl1; cases hl1
    have hl1n : ∀ y o, τ y = some o → (∀ m, o ≠ .dct m) → y ≠ l1 := fun y o hy ho e0 => by
      have := hfr _ _ hy ho
      rw [e0, hl1] at this; cases this
    walk_at "m_go"
    
    refine S_forzip (by rfl) (by rfl) (EV_attr ?_)
    walk_at "m_go"
    refine ⟨_, _, _, _, _, rfl, hb1.b, hb1.bd, AB_row, rfl, rfl, ?_⟩
    walk_at "m_go"
    refine ⟨l1, D2, _, _, rfl, rfl, hb1.l, h2b, by rw [cellV_len, refsR_len, hcl], fun j ρ2 σ2 => Sub ρ2 [("codes", .ref D1), ("rows", .ref D2), ("has_circle", .bool hc), ("buffer", .ref x)] ∧ FrL σ1 σ2 ∧ σ2 dd = some (.dct (bufD l1)) ∧
      (∀ (i : Nat) (hi : i < C.length), InfoAt σ2 C[i].a C[i].d (if i < j then (rc[i]'(hcl ▸ hi)).r else C[i].r)), ⟨by walk_at "m_sub", .refl _, hb1.bd, fun i hi => by rw [if_neg (Nat.not_lt_zero _)]; exact hb1.c.get hi⟩,
      fun j ρ2 σ2 hI => ⟨hI.2.1 _ _ hb1.l (by simp), hI.2.1 _ _ h2b (by simp)⟩, ?_, ?_⟩
    · rintro j u w ρ2 σ2 hu hw ⟨hsub2, hfr2, hdd, hin⟩
      obtain ⟨cc, hcc, rfl⟩ := cellV_at hu
      obtain ⟨qq, hqq, rfl⟩ := refsR_at hw
      have hj := lt_of_get hcc
      have hj' := lt_of_get hqq
      rw [List.getElem?_eq_getElem hj] at hcc
      rw [List.getElem?_eq_getElem hj'] at hqq
      obtain rfl := Option.some.inj hcc
      obtain rfl := Option.some.inj hqq
      have ii := hin j hj
      rw [if_neg (Nat.lt_irrefl _)] at ii
      have iq := hfr2 _ _ (hrrb.get hj') (by simp)
      have hne : C[j].a ≠ C[j].d := by intro e0; have := ii.1; rw [e0, ii.2] at this; cases this
      have hcd := hcode j hj'
      have hinit := hC j hj
      obtain ⟨i1, i2⟩ := ii
      rw [hinit] at i2
      have iq' : ∀ o, (σ2.set C[j].d (.dct o)) rc[j].a = some (.list (rowV rc[j].r)) := fun o => NH.set_oth i2 (by simp) iq
      refine AC.sub hsub2 ?_
      walk_at "m_go"
      refine EV_item ?_
      walk_at "m_go"
      refine ⟨_, _, _, _, rfl, iq, rfl, by omega, by omega, rfl, ?_⟩
      refine AC_nattr (by rfl) (by rfl) i1 i2 AI_cluster (by rfl) ?_
      refine S_assign (EV_item ?_)
      walk_at "m_go"
      refine ⟨_, _, _, _, rfl, iq' _, rfl, by omega, by omega, rfl, ?_⟩
      refine AC_nattrS i1 hne (by rfl) (by rfl) AI_mask (by rfl) ?_
      refine S_assign (EV_item ?_)
      walk_at "m_go"
      refine ⟨_, _, _, _, rfl, iq' _, rfl, by omega, by omega, rfl, ?_⟩
      refine AC_nattrS i1 hne (by rfl) (by rfl) AI_glyph (by rfl) ?_
      refine S_assign (EV_item ?_)
      walk_at "m_go"
      refine ⟨_, _, _, _, rfl, iq' _, rfl, by omega, by omega, rfl, ?_⟩
      refine AC_nattrS i1 hne (by rfl) (by rfl) AI_kind (by rfl) ?_
      show SE W _ env _ _ (σ2.set C[j].d (.dct (infoD ⟨cs.getD j 0, rc[j].r.cluster, rc[j].r.mask, rc[j].r.glyph, rc[j].r.kind⟩))) _
      rw [← hcd]
      show SE W _ env _ _ (σ2.set C[j].d (.dct (infoD rc[j].r))) _
      walk_at "m_go"
      refine ⟨by walk_at "m_sub", hfr2.trans fun y o hy ho => NH.set_oth i2 (ho _) hy, ?_, ?_⟩
      · rw [NH.set_ne _ _ (by intro e0; rw [e0, i2] at hdd; exact buf_ne_info _ _ (Option.some.inj hdd).symm)]; exact hdd
      · intro i hi
        by_cases hij : i = j
        · subst hij
          rw [if_pos (by omega)]
          exact ⟨NH.set_oth i2 (by simp) i1, NH.set_self _ _ _⟩
        · have h7 := hin i hi
          have e1 : (i < j + 1) ↔ (i < j) := by omega
          simp only [e1]
          exact ⟨NH.set_oth i2 (by simp) h7.1, by rw [NH.set_ne _ _ (nodup_d hb1.c.nd hi hj hij)]; exact h7.2⟩
    rintro ρ2 σ2 ⟨hsub2, hfr2, hdd, hin⟩
    rw [cellV_len] at hin
    have hb2 : BufAt σ2 x dd l1 (zipW C rc) := by
      refine ⟨hfr2 _ _ hb1.b (by simp), hdd, ?_, ⟨fun c' hc' => ?_, ?_⟩⟩
      · rw [show cellV (zipW C rc) = cellV C from zipW_map (fun c => Value.ref c.a) (fun p => .ref p.1) (fun _ => rfl) hcl]
        exact hfr2 _ _ hb1.l (by simp)
      · obtain ⟨i, hi⟩ := List.getElem?_of_mem hc'
        have hiC : i < C.length := by have := lt_of_get hi; rwa [zipW_len hcl] at this
        rw [zipW_get hcl hiC] at hi
        obtain rfl := Option.some.inj hi
        have := hin i hiC
        rw [if_pos hiC] at this
        exact this
      · rw [show (zipW C rc).map (·.d) = C.map (·.d) from zipW_map (fun c => c.d) (fun p => p.2) (fun _ => rfl) hcl]
        exact hb1.c.nd
    have hrows2 := zipW_rows hcl
    have hzl := zipW_len hcl
    have fr2 : FrL τ σ2 := fr1.trans hfr2
    generalize zipW C rc = C2 at hb2 hrows2 hzl
    clear hin hdd hfr2 fr1 hrrb h2b h1b hC hrows1 hb1
    refine SC.sub hsub2 ?_
    refine S_expr ?_
    walk_at "m_go"
    refine FC_reorder (by omega) hb2 (by rw [hrows2]; exact hmo) fun σ3 l3 C3 hb3 hrows3 hfr3 => ⟨rfl, ?_⟩
    have fr3 : FrL τ σ3 := fun y o hy ho => hfr3 _ _ (fr2 _ _ hy ho) (hl1n y o hy ho) ho
    rw [hrows2] at hrows3
    obtain ⟨am, al1, a0, aperm, al2⟩ := allF_kept (hc := hc) hmo
    have akind := allF_kind (hc := hc) hmo hkind
    rw [rowsR_len] at al1 al2
    generalize hR : allF hc (rowsR rc) = R at hrows3 am al1 a0 aperm akind al2
    have hC3l : C3.length ≤ 26 := by rw [← rowsC_len, hrows3]; omega
    clear hb2 hfr3 fr2
    
    refine S_comp (CompOK.of (by rfl) rfl rfl rfl) (by rfl) (IV_src (EV_attr ?_))
    walk_at "m_go"
    refine ⟨_, _, _, _, _, rfl, hb3.b, hb3.bd, AB_row, rfl, rfl, _, _, SrcV.list hb3.l, by rw [cellV_len]; omega, fun k ys σ' => σ3.le σ' ∧ ∃ rf, ys = refsR rf ∧ RRows σ' rf ∧ rowsR rf = (rowsC C3).take k,
      ⟨NH.le_refl _, [], rfl, ⟨fun c hc => (nomatch hc), List.nodup_nil⟩, by simp [rowsR]⟩, fun k ys σ' hI => hI.1 _ _ hb3.l, ?_, ?_⟩
    · rintro F k v ys σ4 hx ⟨hle, rf, rfl, hrf, hrw⟩
      obtain ⟨c', hc', rfl⟩ := cellV_at hx
      have ii := (hb3.c.le hle).at_ c' (List.mem_of_getElem? hc')
      refine CT_nil ?_
      refine ite_b (fun _ => ?_) (fun c => by cases c)
      walk_at "m_go"
      refine EV_nattr (by rfl) (by rfl) ii.1 ii.2 AI_code (by rfl) (by rfl) ?_
      walk_at "m_go"
      refine EV_nattr (by rfl) (by rfl) ii.1 ii.2 AI_cluster (by rfl) (by rfl) ?_
      walk_at "m_go"
      refine EV_nattr (by rfl) (by rfl) ii.1 ii.2 AI_mask (by rfl) (by rfl) ?_
      walk_at "m_go"
      refine EV_nattr (by rfl) (by rfl) ii.1 ii.2 AI_glyph (by rfl) (by rfl) ?_
      walk_at "m_go"
      refine EV_nattr (by rfl) (by rfl) ii.1 ii.2 AI_kind (by rfl) (by rfl) ?_
      walk_at "m_go"
      refine ⟨by simp, fun N hN => ?_⟩
      show _ ∧ ∃ rf2, _ ∧ RRows (σ4.set N (.list (rowV c'.r))) rf2 ∧ _
      have le4 := NH.le_set _ (.list (rowV c'.r)) hN
      refine ⟨NH.le_trans hle le4, rf ++ [⟨N, c'.r⟩], by simp [refsR], ⟨fun q hq => ?_, ?_⟩, ?_⟩
      · rcases List.mem_append.mp hq with hq | hq
        · exact le4 _ _ (hrf.at_ q hq)
        · rw [List.mem_singleton.mp hq]; exact NH.set_self _ _ _
      · rw [List.map_append, List.nodup_append]
        refine ⟨hrf.nd, by simp, fun a ha b hb => ?_⟩
        obtain ⟨q, hq, rfl⟩ := List.mem_map.mp ha
        have e1 : b = N := by simpa using hb
        rw [e1]
        intro e2
        have := hrf.at_ q hq
        rw [e2, hN] at this; cases this
      · have hr2 : (rowsC C3)[k]? = some c'.r := by unfold rowsC; rw [List.getElem?_map, hc']; rfl
        rw [take_snoc hr2, ← hrw]; simp [rowsR]
    rintro ys σ4 ⟨le4, rf, rfl, hrf, hrw⟩ DF hDF
    rw [cellV_len, ← rowsC_len, List.take_length, hrows3] at hrw
    have le5 := NH.le_set _ (.list (refsR rf)) hDF
    have kF := NH.set_self σ4 DF (.list (refsR rf))
    generalize σ4.set DF (.list (refsR rf)) = σ5 at le5 kF
    have le35 := NH.le_trans le4 le5
    have hb5 := AO_row hb3 le35
    have hrf5 := hrf.le le5
    have fr5 : FrL τ σ5 := fr3.trans (FrL.of_le le35)
    have h1e := fr5 _ _ hk1 (by simp)
    have h2e := fr5 _ _ hk2 (by simp)
    have hrre : RRows σ5 rc := ⟨fun q hq => fr5 _ _ (hrr.at_ q hq) (by simp), hrr.nd⟩
    clear le4 le5 le35 hb3 hrf hDF fr3
    walk_at "m_go"
    refine FC_law_due (by omega) h2e hrre hmo hok fun σ6 l6 rd le6 kd hrd hrwd => ?_
    rw [hR] at hrwd
    have hflat : ∀ r ∈ R.map rowV, ∀ v ∈ r, flatV v = true := fun r hr => by
      obtain ⟨r0, h0, rfl⟩ := List.mem_map.mp hr
      exact flat_row (akind r0 h0)
    have hkF := le6 _ _ kF
    have hrf6 := hrf5.le le6
    have ir1 := isRows_of hrf6.at_
    have ir2 := isRows_of hrd.at_
    rw [hrw] at ir1
    rw [hrwd] at ir2
    refine op_ne_rows hkF kd ir1 ir2 hflat ?_
    walk_at "m_go"
    refine ite_b (fun c => by cases c) (fun _ => ?_)
    have hb6 := AO_row hb5 le6
    have h1f := le6 _ _ h1e
    have h2f := le6 _ _ h2e
    have hrrf := hrre.le le6
    have fr6 : FrL τ σ6 := fr5.trans (FrL.of_le le6)
    clear le6 kd hrd ir1 ir2 hrf5 hb5 kF h1e h2e hrre fr5
    walk_at "m_go"
    refine EV_method ?_
    walk_at "m_go"
    refine ⟨_, 103, _, _, 81, rfl, hb6.b, hb6.bd, by rfl, by rfl, by rfl, by rfl, by rfl, ?_⟩
    walk_at "m_go"
    refine FC_clusters (by omega) hb6 fun DC hDC => ?_
    rw [hrows3]
    have le7 := NH.le_set _ (.list (intL (clsF R))) hDC
    have kC := NH.set_self σ6 DC (.list (intL (clsF R)))
    generalize σ6.set DC (.list (intL (clsF R))) = σ7 at le7 kC
    have hRl : R.length ≤ 26 := by omega
    walk_at "m_go"
    refine CB_sorted kC (by rw [clsF_len]; omega) fun r7 ns7 hr7 hperm7 hpw7 => ?_
    have e7 : ns7 = clsF R := sorted_eq hperm7 hpw7 am
    rw [e7]
    have le8 := NH.le_set _ (.list (intL (clsF R))) hr7
    refine op_ne_ints (le8 _ _ kC) (NH.set_self _ _ _) ?_
    walk_at "m_go"
    rw [if_neg (by simp)]
    have h1g := le8 _ _ (le7 _ _ h1f)
    have h2g := le8 _ _ (le7 _ _ h2f)
    have kC8 := le8 _ _ kC
    have hrrg := hrrf.le (NH.le_trans le7 le8)
    have hkF8 := le8 _ _ (le7 _ _ hkF)
    have hrf8 := hrf6.le (NH.le_trans le7 le8)
    have fr8 : FrL τ (σ7.set r7 (.list (intL (clsF R)))) := fr6.trans (FrL.of_le (NH.le_trans le7 le8))
    generalize σ7.set r7 (.list (intL (clsF R))) = σ8 at h1g h2g kC8 hrrg hkF8 hrf8 fr8
    clear le8 le7 kC hb6 h1f h2f hrrf hkF hrf6 fr6 hr7 hDC
    
    have third : ∀ (K : Flow → Loc → NH → Prop), (∀ ρ4 σ4, Sub ρ4 [("codes", .ref D1), ("rows", .ref D2)] → FrL τ σ4 → K .next ρ4 σ4) → ∀ ρ3, Sub ρ3 [("codes", .ref D1), ("rows", .ref D2), ("has_circle", .bool hc), ("found", .ref DF)] →
        SE W (d + 6) env (match F270.body with | [_, _, _, _, _, Stmt.For _ _ [_, _, _, _, _, _, _, i3] _ _, _] => [i3] | _ => []) ρ3 σ8 K := by
      intro K hK ρ3 hs3
      dsimp only [F270]
      refine SC.sub hs3 ?_
      walk_at "m_go"
      cases hhc : hc with
      | true =>
        refine ite_b (fun c => by cases c) (fun _ => ?_)
        rw [if_neg (by decide)]
        walk_at "m_go"
        exact hK _ _ (by walk_at "m_sub") fr8
      | false =>
        refine ite_b (fun _ => ?_) (fun c => by cases c)
        walk_at "m_go"
        refine EV_comp (CompOK.of (by rfl) rfl rfl rfl) (IV_src ?_)
        walk_at "m_go"
        refine ⟨_, _, SrcV.list hkF8, by rw [refsR_len, ← rowsR_len, hrw]; omega, fun k ys σ' => σ8 = σ' ∧ ys = intL (codesF (rowsR (rf.take k))), ⟨rfl, rfl⟩, fun k ys σ' hI => by rw [← hI.1]; exact hkF8, ?_, ?_⟩
        · rintro F k v ys _ hx ⟨rfl, rfl⟩
          obtain ⟨c', hc', rfl⟩ := refsR_at hx
          have ic := hrf8.at_ c' (List.mem_of_getElem? hc')
          refine CT_nil ?_
          refine ite_b (fun _ => ?_) (fun c => by cases c)
          refine EV_item ?_
          walk_at "m_go"
          refine ⟨_, _, _, _, rfl, ic, rfl, by omega, by omega, rfl, rfl, ?_⟩
          rw [take_snoc hc']; simp [rowsR, codesF, intL]
        rintro ys _ ⟨rfl, rfl⟩ DX hDX
        rw [refsR_len, List.take_length, hrw]
        have le9 := NH.le_set _ (.list (intL (codesF R))) hDX
        have kX := NH.set_self σ8 DX (.list (intL (codesF R)))
        generalize σ8.set DX (.list (intL (codesF R))) = σ9 at le9 kX
        walk_at "m_go"
        refine CB_sorted kX (by rw [codesF_len]; omega) fun ra na hra hpa hwa => ?_
        have le10 := NH.le_set _ (.list (intL na)) hra
        have ka := NH.set_self σ9 ra (.list (intL na))
        generalize σ9.set ra (.list (intL na)) = σ10 at le10 ka
        walk_at "m_go"
        refine CB_sorted (le10 _ _ (le9 _ _ h1g)) (by omega) fun rb nb hrb hpb hwb => ?_
        have le11 := NH.le_set _ (.list (intL nb)) hrb
        have hab : na = nb := sorted_eq (((hpa.trans (aperm hhc)).trans (by rw [hco])).trans hpb.symm) hwa hwb
        subst hab
        refine op_ne_ints (le11 _ _ ka) (NH.set_self _ _ _) ?_
        walk_at "m_go"
        refine ite_b (fun c => by simp at c) (fun _ => ?_)
        walk_at "m_go"
        exact hK _ _ (by walk_at "m_sub") (fr8.trans (FrL.of_le (NH.le_trans le9 (NH.le_trans le10 le11))))
    walk_at "m_go"
    refine TV_list h1g (by rw [intL_len]; omega) ?_
    refine ite_b (fun c => ?_) (fun c => ?_)
    · have hn0 : 0 < cs.length := by
        cases cs with
        | nil => simp [intL] at c
        | cons a t => simp
      have hR0 : 0 < (clsF R).length := by rw [clsF_len]; omega
      walk_at "m_go"
      refine EV_item ?_
      walk_at "m_go"
      refine ⟨_, _, _, _, rfl, kC8, rfl, by omega, by omega, intL_get (i := 0) hR0, ?_⟩
      walk_at "m_go"
      refine EV_item (EV_item ?_)
      walk_at "m_go"
      refine ⟨_, _, _, _, rfl, h2g, rfl, by omega, by omega, refsR_get (i := 0) (by omega), ?_⟩
      walk_at "m_go"
      refine ⟨_, _, _, _, rfl, hrrg.get (i := 0) (by omega), rfl, by omega, by omega, rfl, ?_⟩
      walk_at "m_go"
      have e0 : (clsF R)[0] = (rc[0]'(by omega)).r.cluster := by
        rw [← rowsR_cl (by omega), ← a0]
        unfold clF
        rw [List.getD_eq_getElem?_getD, List.getElem?_eq_getElem hR0]; rfl
      rw [e0]
      refine ite_b (fun c => by simp at c) (fun _ => ?_)
      refine S_nil (Kont_next ?_)
      exact third _ (fun ρ4 σ4 hs4 hf4 => ⟨hs4, hf4⟩) _ (by walk_at "m_sub")
    · rw [if_neg (by decide)]
      refine S_nil (Kont_next ?_)
      exact third _ (fun ρ4 σ4 hs4 hf4 => ⟨hs4, hf4⟩) _ (by walk_at "m_sub")
  · rintro ρ' σ' ⟨hsub, hfr⟩
    refine SC.sub hsub ?_
    walk_at "m_go"
    exact h _
end

theorem law_ends {w : World} {s₁ : Shared} {mg mb : Str → Option Value} {l : Addr} {vs : List Value} {ns : List Int} (KX : (heapK w.params).In s₁.heap) (hN : s₁.heap.NoLimit) (hg : s₁.gens = #[])
    (hG : s₁.heap.Ns mainGlobals mg) (hB : s₁.heap.Ns builtinsNs mb) (hbb : ∀ x : Str, x ≠ "__name__" → mb x = bootBuiltins x) (hL : s₁.heap.IsList l vs.toArray) (hI : IntsAre vs ns) (hlen : ns.length ≤ 63) :
    codeAny (model Challenge.pw_nu0222_01 w) callerA (.call (.ref 270) ⟨[.ref l], []⟩) (fun r s' => r = .ok (.ret (.bool true)) ∧ (∀ b o, s₁.heap.get? b = some o → s'.heap.get? b = some o) ∧ s'.os = s₁.os ∧ s'.gens = #[]) s₁ := by
  let W : Wd := ⟨w, s₁.heap, s₁.os, ⟨KX, hN, ⟨mb, hB, hbb⟩, ⟨mg, hG⟩⟩⟩
  have inv : Inv W (fun _ => none) s₁ := ⟨fun _ _ h => h, fun _ _ h => (nomatch h), fun _ _ h => (nomatch h), hg, rfl⟩
  have ao : AOK 7 callerA := ⟨rfl, by show 1 + claimMargin + 3 * 7 ≤ 900; decide, by show 4 + 9 * 7 ≤ 9000; decide⟩
  have := FC_law (W := W) (σ := fun _ => none) (d := 0) (l := l) (items := vs.toArray) (ns := ns) (Q := fun v _ => v = .bool true) hL (by rw [List.toList_toArray]; exact ints_of hI) hlen (fun _ => rfl) callerA s₁ [.ref l] ao inv rfl
  refine codeAny_mono this fun r s' ⟨v, σ', e, i', p, q⟩ => ?_
  rw [nz_bool q] at e
  exact ⟨e, i'.keep, i'.os, i'.gens⟩
theorem wellK : OpenLaw.wellSaid PySem.Challenge.rw_nu0222_01 = true := by
  rw [PySem.W.Fast.te9446332074065402090]
  kernel_rfl
theorem hdK (walk : ∀ d kwd, defOf vw "law" = some (d, kwd) → d.name = "law" → WalkO vw looseNames (XL vw []) (Hook.says hookK) (PySem.Challenge.rw_nu0222_01.row).toRowW d kwd (fun f vs => PySem.call f vs)) : PySem.Challenge.rw_nu0222_01.Holds := by
  w_on
  refine holds_law wellK fun said => ?_
  refine holds_open (q := vw) (loose := looseNames) (Xt := fun s => xlAt vw [] s && recOk (RowW.records (PySem.Challenge.rw_nu0222_01.row).toRowW) s) (XP := XL vw []) (Yf := Hook.obs hookK) (Ya := Hook.val hookK) (YP := Hook.says hookK) (N := 3250)
    leftK (Hook.of hookK) (Hook.keeps hookK) (fun s e => xl_of s (Bool.and_eq_true_iff.mp e).1) XL.keeps (by rfl) (by rfl) (by rfl) (fun s e => recFacts_of (Bool.and_eq_true_iff.mp e).2) (by rfl) (by first | assumption | decide +kernel) (by decide +kernel) ⟨rfl, rfl, rfl, rfl, rfl, by decide +kernel⟩ ?hw ?hc
  case hw => w_witness2
  case hc => exact walk _ _ (by rfl) (by rfl)

end Mine

theorem PySem.Challenge.cw_nu0222_01_holds : PySem.Challenge.rw_nu0222_01.Holds := by
  refine Mine.hdK ?_
  intro dr kwd edr en w s₀ s₁ mg mb G Y fa o pm cd doc dV kV ho hd hcd hD hmg hg args vals as hpre hlay hrd hwl hlo
  have KX := kIn_of Y
  have X := (Ground.X G).1
  have V := (Ground.X G).2
  refine Ground.open G ?_
  intro T B D TE TW
  clear hd hcd hD
  wrow_args hpre hlay hrd hwl hlo
  rename_i ns _ _ _ _ _ _ _ l vs _ hL _ _ _ hI _ hcond _
  have hfa : fa = 270 := by
    have e := mg_of KX T.g (n := "law") (v := .ref 270) (by rfl)
    have e2 : mg "law" = some (.ref fa) := en ▸ hmg
    rw [e] at e2
    injection e2 with e2
    injection e2 with e2
    exact e2.symm
  subst hfa
  refine enter_call (codeAny_mono (Mine.law_ends KX T.nolimit hg T.g T.b T.builtins hL hI (by omega)) fun r s' h => ?_)
  obtain ⟨rfl, h1, h2, h3⟩ := h
  refine GoodW.toG ⟨.inl ⟨.bool true, .bool true, [], rfl, fun _ => rfl, .bool _, ?_, fun _ => ⟨.nil, fun _ h => (nomatch h)⟩⟩, h1, h2, h3⟩
  first
    | kernel_rfl
    | (show (WShape.has _ _ _ && WTm.holds _ _ _) = true; rw [Bool.and_eq_true]; refine ⟨?_, ?_⟩; · first | rfl | simp [WShape.has, OpenLaw.row, OpenRow.toRowW]; · first | rfl | simp [WTm.holds, WTm.value, OpenLaw.row, OpenRow.toRowW])
