import PyProof.Rows.All
import Wide.All
import OpenK.AllK
import Wide.FinOn
import PySem.Challenge.RW_sm0085_01
open PySem PySem.W PySem.Calls PyProof.Rows PySem.Spec
set_option Elab.async false
set_option maxRecDepth 100000
set_option maxHeartbeats 8000000
set_option genSizeOf false
set_option genInjectivity false
set_option compiler.extract_closed false
set_option linter.all false
namespace Mine
noncomputable def nthS : List Stmt → Nat → Stmt
  | [], _ => .Pass default
  | a :: _, 0 => a
  | _ :: r, n + 1 => nthS r n
noncomputable def bodyP : List Stmt := Challenge.pw_sm0085_01.main.body
noncomputable def inCls : Stmt → List Stmt
  | .ClassDef _ _ _ b _ _ _ _ _ _ _ => b
  | _ => []
noncomputable def fnO (s : Stmt) (q mod : Str) (t : Tok) (cd : Addr) : Obj := match s with
  | .FunctionDef n a b _ _ _ sc _ _ _ => { cls := .type "function", dict := none, data := .func { name := n, qualname := q, params := a, body := .stmts b, scope := sc, globals := 3, closure := [], defaults := .none, kwdefaults := .none, pyModule := .str mod t, code := .ref cd } }
  | _ => default
noncomputable def cdO (a : Str) (t : Tok) (q : Str) (u v x : Tok) (l : List Value) : Obj :=
  { cls := .type "code", data := .fields (Array.mk (.str a t :: .str q u :: .str "/claim/cut.py" v :: (l ++ [.str "/claim/cut.py" x]))) }
noncomputable def KK (P : Params) : Frag := [
  (61, fnO (nthS (bodyP) 6) "is_special" "perlcore.stash" 244 60),
  (75, fnO (nthS (bodyP) 8) "whole_name" "perlcore.stash" 244 74),
  (105, fnO (nthS (inCls (nthS bodyP 14)) 0) "SubScope.__init__" "perlcore.resolve" 295 104),
  (119, fnO (nthS (bodyP) 15) "enter_block" "perlcore.resolve" 295 118),
  (126, fnO (nthS (bodyP) 16) "leave_block" "perlcore.resolve" 295 125),
  (133, fnO (nthS (bodyP) 17) "introduce_names" "perlcore.resolve" 295 132),
  (140, fnO (nthS (bodyP) 18) "new_slot" "perlcore.resolve" 295 139),
  (147, fnO (nthS (bodyP) 19) "find_here" "perlcore.resolve" 295 146),
  (154, fnO (nthS (bodyP) 20) "find_name" "perlcore.resolve" 295 153),
  (166, fnO (nthS (bodyP) 22) "resolve_name" "perlcore.resolve" 295 165),
  (173, fnO (nthS (bodyP) 23) "check_told" "perlcore.resolve" 295 172),
  (180, fnO (nthS (bodyP) 24) "resolve_my" "perlcore.resolve" 295 179),
  (222, fnO (nthS (bodyP) 30) "resolve_subdef" "perlcore.resolve" 295 221),
  (229, fnO (nthS (bodyP) 31) "resolve_block" "perlcore.resolve" 295 228),
  (236, fnO (nthS (bodyP) 32) "resolve_expr" "perlcore.resolve" 295 235),
  (243, fnO (nthS (bodyP) 33) "resolve_head" "perlcore.resolve" 295 242),
  (250, fnO (nthS (bodyP) 34) "resolve_if" "perlcore.resolve" 295 249),
  (271, fnO (nthS (bodyP) 37) "resolve_foreach" "perlcore.resolve" 295 270),
  (284, fnO (nthS (bodyP) 40) "resolve_node" "perlcore.resolve" 295 283),
  (289, fnO (nthS (bodyP) 41) "resolve_part" "perlcore.resolve" 295 288),
  (296, fnO (nthS (bodyP) 42) "resolve_program" "perlcore.resolve" 295 295),
  (305, fnO (nthS (bodyP) 46) "_law_drip" "law_sm0085_01" 640 304),
  (312, fnO (nthS (bodyP) 47) "_law_use" "law_sm0085_01" 640 311),
  (319, fnO (nthS (bodyP) 48) "_law_tells" "law_sm0085_01" 640 318),
  (324, fnO (nthS (bodyP) 49) "_law_block" "law_sm0085_01" 640 323),
  (329, fnO (nthS (bodyP) 50) "_law_longer_names" "law_sm0085_01" 640 328),
  (336, fnO (nthS (bodyP) 51) "_law_tallied" "law_sm0085_01" 640 335),
  (343, fnO (nthS (bodyP) 52) "law" "law_sm0085_01" 640 342),
  (60, cdO "is_special" 258 "is_special" 259 260 263 [.int 15 0, .int 1 0, .int 0 0, .int 0 0, .int 3 0, .ref 55, .bool true, .int 181 0, .ref 56, .none, .ref 57, .ref 58, .ref 59, .int 262 0, .int 15 0]),
  (74, cdO "whole_name" 272 "whole_name" 273 274 278 [.int 23 0, .int 2 0, .int 0 0, .int 0 0, .int 3 0, .ref 69, .bool true, .int 181 0, .ref 70, .none, .ref 71, .ref 72, .ref 73, .int 277 0, .int 23 0]),
  (104, cdO "__init__" 332 "SubScope.__init__" 333 334 339 [.int 40 0, .int 3 0, .int 0 0, .int 0 0, .int 3 0, .ref 99, .bool true, .int 181 0, .ref 100, .none, .ref 101, .ref 102, .ref 103, .int 338 0, .int 40 0]),
  (118, cdO "enter_block" 356 "enter_block" 357 358 361 [.int 48 0, .int 1 0, .int 0 0, .int 0 0, .int 3 0, .ref 113, .bool true, .int 181 0, .ref 114, .none, .ref 115, .ref 116, .ref 117, .int 360 0, .int 48 0]),
  (125, cdO "leave_block" 363 "leave_block" 364 365 368 [.int 51 0, .int 1 0, .int 0 0, .int 0 0, .int 3 0, .ref 120, .bool true, .int 181 0, .ref 121, .none, .ref 122, .ref 123, .ref 124, .int 367 0, .int 51 0]),
  (132, cdO "introduce_names" 370 "introduce_names" 371 372 377 [.int 54 0, .int 1 0, .int 0 0, .int 0 0, .int 3 0, .ref 127, .bool true, .int 181 0, .ref 128, .none, .ref 129, .ref 130, .ref 131, .int 376 0, .int 54 0]),
  (139, cdO "new_slot" 379 "new_slot" 380 381 384 [.int 58 0, .int 1 0, .int 0 0, .int 0 0, .int 3 0, .ref 134, .bool true, .int 181 0, .ref 135, .none, .ref 136, .ref 137, .ref 138, .int 383 0, .int 58 0]),
  (146, cdO "find_here" 386 "find_here" 387 388 393 [.int 61 0, .int 2 0, .int 0 0, .int 0 0, .int 3 0, .ref 141, .bool true, .int 181 0, .ref 142, .none, .ref 143, .ref 144, .ref 145, .int 392 0, .int 61 0]),
  (153, cdO "find_name" 395 "find_name" 396 397 403 [.int 66 0, .int 2 0, .int 0 0, .int 0 0, .int 3 0, .ref 148, .bool true, .int 181 0, .ref 149, .none, .ref 150, .ref 151, .ref 152, .int 402 0, .int 66 0]),
  (165, cdO "resolve_name" 411 "resolve_name" 412 413 421 [.int 86 0, .int 2 0, .int 0 0, .int 0 0, .int 3 0, .ref 160, .bool true, .int 181 0, .ref 161, .none, .ref 162, .ref 163, .ref 164, .int 420 0, .int 86 0]),
  (172, cdO "check_told" 423 "check_told" 424 425 430 [.int 97 0, .int 3 0, .int 0 0, .int 0 0, .int 3 0, .ref 167, .bool true, .int 181 0, .ref 168, .none, .ref 169, .ref 170, .ref 171, .int 429 0, .int 97 0]),
  (179, cdO "resolve_my" 432 "resolve_my" 433 434 442 [.int 102 0, .int 2 0, .int 0 0, .int 0 0, .int 3 0, .ref 174, .bool true, .int 181 0, .ref 175, .none, .ref 176, .ref 177, .ref 178, .int 441 0, .int 102 0]),
  (221, cdO "resolve_subdef" 490 "resolve_subdef" 491 492 499 [.int 128 0, .int 2 0, .int 0 0, .int 0 0, .int 3 0, .ref 216, .bool true, .int 181 0, .ref 217, .none, .ref 218, .ref 219, .ref 220, .int 498 0, .int 128 0]),
  (228, cdO "resolve_block" 501 "resolve_block" 502 503 510 [.int 138 0, .int 2 0, .int 0 0, .int 0 0, .int 3 0, .ref 223, .bool true, .int 181 0, .ref 224, .none, .ref 225, .ref 226, .ref 227, .int 509 0, .int 138 0]),
  (235, cdO "resolve_expr" 512 "resolve_expr" 513 514 518 [.int 148 0, .int 2 0, .int 0 0, .int 0 0, .int 3 0, .ref 230, .bool true, .int 181 0, .ref 231, .none, .ref 232, .ref 233, .ref 234, .int 517 0, .int 148 0]),
  (242, cdO "resolve_head" 520 "resolve_head" 521 522 527 [.int 151 0, .int 2 0, .int 0 0, .int 0 0, .int 3 0, .ref 237, .bool true, .int 181 0, .ref 238, .none, .ref 239, .ref 240, .ref 241, .int 526 0, .int 151 0]),
  (249, cdO "resolve_if" 529 "resolve_if" 530 531 539 [.int 155 0, .int 2 0, .int 0 0, .int 0 0, .int 3 0, .ref 244, .bool true, .int 181 0, .ref 245, .none, .ref 246, .ref 247, .ref 248, .int 538 0, .int 155 0]),
  (270, cdO "resolve_foreach" 569 "resolve_foreach" 570 571 580 [.int 181 0, .int 2 0, .int 0 0, .int 0 0, .int 3 0, .ref 265, .bool true, .int 181 0, .ref 266, .none, .ref 267, .ref 268, .ref 269, .int 579 0, .int 181 0]),
  (283, cdO "resolve_node" 619 "resolve_node" 620 621 623 [.int 193 0, .int 2 0, .int 0 0, .int 0 0, .int 3 0, .ref 280, .bool true, .int 181 0, .ref 281, .none, .none, .none, .ref 282, .int 622 0, .int 193 0]),
  (288, cdO "resolve_part" 625 "resolve_part" 626 627 629 [.int 197 0, .int 2 0, .int 0 0, .int 0 0, .int 3 0, .ref 285, .bool true, .int 181 0, .ref 286, .none, .none, .none, .ref 287, .int 628 0, .int 197 0]),
  (295, cdO "resolve_program" 631 "resolve_program" 632 633 638 [.int 205 0, .int 1 0, .int 0 0, .int 0 0, .int 3 0, .ref 290, .bool true, .int 181 0, .ref 291, .none, .ref 292, .ref 293, .ref 294, .int 637 0, .int 205 0]),
  (304, cdO "_law_drip" 699 "_law_drip" 700 701 705 [.int 212 0, .int 2 0, .int 0 0, .int 0 0, .int 3 0, .ref 299, .bool true, .int 181 0, .ref 300, .none, .ref 301, .ref 302, .ref 303, .int 704 0, .int 212 0]),
  (311, cdO "_law_use" 707 "_law_use" 708 709 715 [.int 217 0, .int 2 0, .int 0 0, .int 0 0, .int 3 0, .ref 306, .bool true, .int 181 0, .ref 307, .none, .ref 308, .ref 309, .ref 310, .int 714 0, .int 217 0]),
  (318, cdO "_law_tells" 717 "_law_tells" 718 719 725 [.int 221 0, .int 1 0, .int 0 0, .int 0 0, .int 3 0, .ref 313, .bool true, .int 181 0, .ref 314, .none, .ref 315, .ref 316, .ref 317, .int 724 0, .int 221 0]),
  (323, cdO "_law_block" 727 "_law_block" 728 729 731 [.int 226 0, .int 3 0, .int 0 0, .int 0 0, .int 3 0, .ref 320, .bool true, .int 181 0, .ref 321, .none, .none, .none, .ref 322, .int 730 0, .int 226 0]),
  (328, cdO "_law_longer_names" 733 "_law_longer_names" 734 735 737 [.int 256 0, .int 1 0, .int 0 0, .int 0 0, .int 3 0, .ref 325, .bool true, .int 181 0, .ref 326, .none, .none, .none, .ref 327, .int 736 0, .int 256 0]),
  (335, cdO "_law_tallied" 739 "_law_tallied" 740 741 746 [.int 264 0, .int 2 0, .int 0 0, .int 0 0, .int 3 0, .ref 330, .bool true, .int 181 0, .ref 331, .none, .ref 332, .ref 333, .ref 334, .int 745 0, .int 264 0]),
  (342, cdO "law" 748 "law" 749 750 758 [.int 270 0, .int 1 0, .int 0 0, .int 0 0, .int 3 0, .ref 337, .bool true, .int 181 0, .ref 338, .none, .ref 339, .ref 340, .ref 341, .int 757 0, .int 270 0]),
  (3, { cls := .type "dict", data := .dict #[⟨PyData.keyHash P "__name__", .str "__name__" 165, .str "law_sm0085_01" 640⟩, ⟨PyData.keyHash P "__doc__", .str "__doc__" 166, .none⟩, ⟨PyData.keyHash P "__package__", .str "__package__" 167, .none⟩, ⟨PyData.keyHash P "__loader__", .str "__loader__" 168, .builtin "__main__.__loader__#opaque"⟩, ⟨PyData.keyHash P "__spec__", .str "__spec__" 169, .none⟩, ⟨PyData.keyHash P "__annotations__", .str "__annotations__" 170, .ref 6⟩, ⟨PyData.keyHash P "__builtins__", .str "__builtins__" 171, .ref 4⟩, ⟨PyData.keyHash P "__file__", .str "__file__" 173, .str "/claim/cut.py" 172⟩, ⟨PyData.keyHash P "__cached__", .str "__cached__" 174, .none⟩, ⟨PyData.keyHash P "PerlError", .str "PerlError" 217, .ref 31⟩, ⟨PyData.keyHash P "SyntaxDie", .str "SyntaxDie" 243, .ref 51⟩, ⟨PyData.keyHash P "FORCED", .str "FORCED" 255, .ref 54⟩, ⟨PyData.keyHash P "NAME_SIGNS", .str "NAME_SIGNS" 257, .str "abcdefghijklmnopqrstuvwxyzABCDEFGHIJKLMNOPQRSTUVWXYZ_" 256⟩, ⟨PyData.keyHash P "is_special", .str "is_special" 264, .ref 61⟩, ⟨PyData.keyHash P "rooted_name", .str "rooted_name" 271, .ref 68⟩, ⟨PyData.keyHash P "whole_name", .str "whole_name" 279, .ref 75⟩, ⟨PyData.keyHash P "sub_name", .str "sub_name" 287, .ref 82⟩, ⟨PyData.keyHash P "package_part", .str "package_part" 294, .ref 89⟩, ⟨PyData.keyHash P "WORD_ENDS", .str "WORD_ENDS" 312, .ref 90⟩, ⟨PyData.keyHash P "PAD_WORDS", .str "PAD_WORDS" 319, .ref 91⟩, ⟨PyData.keyHash P "SubScope", .str "SubScope" 355, .ref 108⟩, ⟨PyData.keyHash P "enter_block", .str "enter_block" 362, .ref 119⟩, ⟨PyData.keyHash P "leave_block", .str "leave_block" 369, .ref 126⟩, ⟨PyData.keyHash P "introduce_names", .str "introduce_names" 378, .ref 133⟩, ⟨PyData.keyHash P "new_slot", .str "new_slot" 385, .ref 140⟩, ⟨PyData.keyHash P "find_here", .str "find_here" 394, .ref 147⟩, ⟨PyData.keyHash P "find_name", .str "find_name" 404, .ref 154⟩, ⟨PyData.keyHash P "seen_names", .str "seen_names" 410, .ref 159⟩, ⟨PyData.keyHash P "resolve_name", .str "resolve_name" 422, .ref 166⟩, ⟨PyData.keyHash P "check_told", .str "check_told" 431, .ref 173⟩, ⟨PyData.keyHash P "resolve_my", .str "resolve_my" 443, .ref 180⟩, ⟨PyData.keyHash P "resolve_our", .str "resolve_our" 455, .ref 187⟩, ⟨PyData.keyHash P "check_local", .str "check_local" 464, .ref 194⟩, ⟨PyData.keyHash P "resolve_local", .str "resolve_local" 473, .ref 201⟩, ⟨PyData.keyHash P "resolve_sort", .str "resolve_sort" 481, .ref 208⟩, ⟨PyData.keyHash P "resolve_evalstr", .str "resolve_evalstr" 489, .ref 215⟩, ⟨PyData.keyHash P "resolve_subdef", .str "resolve_subdef" 500, .ref 222⟩, ⟨PyData.keyHash P "resolve_block", .str "resolve_block" 511, .ref 229⟩, ⟨PyData.keyHash P "resolve_expr", .str "resolve_expr" 519, .ref 236⟩, ⟨PyData.keyHash P "resolve_head", .str "resolve_head" 528, .ref 243⟩, ⟨PyData.keyHash P "resolve_if", .str "resolve_if" 540, .ref 250⟩, ⟨PyData.keyHash P "resolve_while", .str "resolve_while" 554, .ref 257⟩, ⟨PyData.keyHash P "resolve_cfor", .str "resolve_cfor" 568, .ref 264⟩, ⟨PyData.keyHash P "resolve_foreach", .str "resolve_foreach" 581, .ref 271⟩, ⟨PyData.keyHash P "resolve_package", .str "resolve_package" 589, .ref 278⟩, ⟨PyData.keyHash P "RESOLVERS", .str "RESOLVERS" 618, .ref 279⟩, ⟨PyData.keyHash P "resolve_node", .str "resolve_node" 624, .ref 284⟩, ⟨PyData.keyHash P "resolve_part", .str "resolve_part" 630, .ref 289⟩, ⟨PyData.keyHash P "resolve_program", .str "resolve_program" 639, .ref 296⟩, ⟨PyData.keyHash P "_law_names", .str "_law_names" 645, .ref 297⟩, ⟨PyData.keyHash P "_law_rest", .str "_law_rest" 698, .ref 298⟩, ⟨PyData.keyHash P "_law_drip", .str "_law_drip" 706, .ref 305⟩, ⟨PyData.keyHash P "_law_use", .str "_law_use" 716, .ref 312⟩, ⟨PyData.keyHash P "_law_tells", .str "_law_tells" 726, .ref 319⟩, ⟨PyData.keyHash P "_law_block", .str "_law_block" 732, .ref 324⟩, ⟨PyData.keyHash P "_law_longer_names", .str "_law_longer_names" 738, .ref 329⟩, ⟨PyData.keyHash P "_law_tallied", .str "_law_tallied" 747, .ref 336⟩, ⟨PyData.keyHash P "law", .str "law" 759, .ref 343⟩] 58 }),
  (54, { cls := .type "tuple", data := .seq #[.str "ENV" 246, .str "INC" 247, .str "ARGV" 248, .str "ARGVOUT" 249, .str "SIG" 250, .str "STDIN" 251, .str "STDOUT" 252, .str "STDERR" 253, .str "_" 254] }),
  (90, { cls := .type "dict", data := .dict #[⟨PyData.keyHash P "$", .str "$" 297, .str "s" 298⟩, ⟨PyData.keyHash P "@", .str "@" 299, .str "a" 300⟩, ⟨PyData.keyHash P "%", .str "%" 301, .str "h" 302⟩, ⟨PyData.keyHash P "&", .str "&" 303, .str "c" 304⟩, ⟨PyData.keyHash P "*", .str "*" 305, .str "g" 306⟩] 5 }),
  (106, { cls := .type "tuple", data := .seq #[.str "blocks" 341, .str "captures" 342, .str "line" 343, .str "outer" 344, .str "package" 345, .str "size" 346, .str "waiting" 347] }),
  (107, { cls := .type "dict", data := .dict #[⟨PyData.keyHash P "__module__", .str "__module__" 327, .str "perlcore.resolve" 295⟩, ⟨PyData.keyHash P "__firstlineno__", .str "__firstlineno__" 331, .int 38 330⟩, ⟨PyData.keyHash P "__init__", .str "__init__" 340, .ref 105⟩, ⟨PyData.keyHash P "__static_attributes__", .str "__static_attributes__" 348, .ref 106⟩, ⟨PyData.keyHash P "__dict__", .str "__dict__" 350, .ref 109⟩, ⟨PyData.keyHash P "__weakref__", .str "__weakref__" 352, .ref 110⟩, ⟨PyData.keyHash P "__doc__", .str "__doc__" 353, .none⟩] 4 }),
  (108, { cls := .type "type", data := .cls { name := "SubScope", bases := [.type "object"], mro := [.ref 108, .type "object"], ns := 107, qualname := "SubScope" }, slots := #[none, none, some (.str "SubScope" 320), some (.str "SubScope" 328), some (.builtin "object.__new__"), some (.bool true)] }),
  (109, { cls := .type "getset_descriptor", data := .fields #[.str "__dict__" 349, .ref 108, .builtin "function.__dict__", .builtin "function.__dict__#set"] }),
  (110, { cls := .type "getset_descriptor", data := .fields #[.str "__weakref__" 351, .ref 108, .builtin "ExceptionGroup.__weakref__", .none] }),
  (279, { cls := .type "dict", data := .dict #[⟨PyData.keyHash P "name", .str "name" 590, .ref 166⟩, ⟨PyData.keyHash P "my", .str "my" 591, .ref 180⟩, ⟨PyData.keyHash P "our", .str "our" 592, .ref 187⟩, ⟨PyData.keyHash P "local", .str "local" 593, .ref 201⟩, ⟨PyData.keyHash P "sort", .str "sort" 594, .ref 208⟩, ⟨PyData.keyHash P "evalstr", .str "evalstr" 595, .ref 215⟩, ⟨PyData.keyHash P "subdef", .str "subdef" 596, .ref 222⟩, ⟨PyData.keyHash P "block", .str "block" 597, .ref 229⟩, ⟨PyData.keyHash P "expr", .str "expr" 598, .ref 236⟩, ⟨PyData.keyHash P "if", .str "if" 599, .ref 250⟩, ⟨PyData.keyHash P "while", .str "while" 600, .ref 257⟩, ⟨PyData.keyHash P "cfor", .str "cfor" 601, .ref 264⟩, ⟨PyData.keyHash P "foreach", .str "foreach" 602, .ref 271⟩, ⟨PyData.keyHash P "package", .str "package" 603, .ref 278⟩] 14 }),
  (297, { cls := .type "tuple", data := .seq #[.str "x" 642, .str "y" 643, .str "z" 644] }),
  (298, { cls := .type "tuple", data := .seq #[.int 4 646, .int 0 647, .int 0 648, .int 0 649, .int 0 650, .int 1 651, .int 5 652, .int 0 653, .int 0 654, .int 0 655, .int 0 656, .int 1 657, .int 1 658, .int 0 659, .int 0 660, .int 0 661, .int 1 662, .int 3 663, .int 0 664, .int 0 665, .int 0 666, .int 1 667, .int 0 668, .int 0 669, .int 4 670, .int 0 671, .int 1 672, .int 1 673, .int 0 674, .int 0 675, .int 1 676, .int 0 677, .int 1 678, .int 0 679, .int 0 680, .int 2 681, .int 1 682, .int 0 683, .int 0 684, .int 0 685, .int 0 686, .int 0 687, .int 1 688, .int 0 689, .int 0 690, .int 1 691, .int 2 692, .int 1 693, .int 0 694, .int 0 695, .int 0 696, .int 1 697] })]
section
/-- a hypothesis is taken apart ahead of an end that is not spelled out: so the terms stay small -/
theorem hideGoal {P G : Prop} (h : P) (k : ∀ X : Prop, (G → X) → P → X) : G := k G id h
theorem hideP {G : Prop} (k : ∀ X : Prop, (G → X) → X) : G := k G id
/-- a partial map of objects -/
noncomputable abbrev PM := Addr → Option Obj
noncomputable def PM.upd (H : PM) (a : Addr) (o : Obj) : PM := fun b => if b = a then some o else H b
noncomputable def PM.del (H : PM) (a : Addr) : PM := fun b => if b = a then none else H b
noncomputable def PM.le (I J : PM) : Prop := ∀ a o, I a = some o → J a = some o
theorem PM.le_refl (I : PM) : I.le I := fun _ _ e => e
theorem PM.le_trans {I J K : PM} (h : I.le J) (k : J.le K) : I.le K := fun a o e => k a o (h a o e)
@[simp] theorem PM.upd_self (H : PM) (a : Addr) (o : Obj) : H.upd a o a = some o := by simp [PM.upd]
theorem PM.upd_ne (H : PM) {a b : Addr} (o : Obj) (h : b ≠ a) : H.upd a o b = H b := by simp [PM.upd, h]
theorem PM.del_ne (H : PM) {a b : Addr} (h : b ≠ a) : H.del a b = H b := by simp [PM.del, h]
theorem PM.del_self (H : PM) (a : Addr) : H.del a a = none := by simp [PM.del]
theorem PM.le_upd {I : PM} {a : Addr} {o : Obj} (h : I a = none) : I.le (I.upd a o) := fun b o' e => by
  by_cases hb : b = a
  · subst hb; rw [h] at e; cases e
  · rw [PM.upd_ne _ _ hb]; exact e
noncomputable def PM.adds (H : PM) (l : List (Addr × Obj)) : PM := fun a => (l.lookup a).or (H a)
theorem PM.adds_off {H : PM} {l : List (Addr × Obj)} {a : Addr} (h : ∀ q ∈ l, q.1 ≠ a) : H.adds l a = H a := by
  have : l.lookup a = none := by
    rw [List.lookup_eq_none_iff]; intro q hq; simpa using fun e : a = q.1 => h q hq e.symm
  simp [PM.adds, this]
theorem lookup_mem : ∀ {l : List (Addr × Obj)} {a : Addr} {o : Obj}, l.lookup a = some o → (a, o) ∈ l
  | [], _, _, e => by cases e
  | (b, x) :: r, a, o, e => by
    simp only [List.lookup] at e
    split at e
    · rename_i q; cases e; rw [beq_iff_eq.mp q]; exact .head _
    · exact .tail _ (lookup_mem e)
/-- the state in a frame: hB: the heap of the call's start; g: what else is kept; I: what was made and is never changed; Mu: what was made and may be changed -/
structure St (hB : Heap) (g : PM) (L : Addr) (m : Str → Option Value) (I Mu : PM) (h : Heap) : Prop where
  ns : h.Ns L m
  keep : ∀ b o, g b = some o → h.get? b = some o
  low : hB.objs.size ≤ L
  base : ∀ b o, hB.get? b = some o → g b = some o
  off : g L = none
  imm : ∀ a o, I a = some o → h.get? a = some o ∧ a ≠ L ∧ g a = none
  chg : ∀ a o, Mu a = some o → h.get? a = some o ∧ a ≠ L ∧ g a = none
  dis : ∀ a o, I a = some o → Mu a = none
  hi : ∀ a o, I a = some o ∨ Mu a = some o → hB.objs.size ≤ a
noncomputable def Same (s s' : Shared) : Prop := s'.gens = s.gens ∧ s'.drawn = s.drawn ∧ s'.os = s.os
theorem Same.refl (s : Shared) : Same s s := ⟨rfl, rfl, rfl⟩
theorem Same.trans {a b c : Shared} (x : Same a b) (y : Same b c) : Same a c := ⟨y.1.trans x.1, y.2.1.trans x.2.1, y.2.2.trans x.2.2⟩
theorem Same.mk' {s : Shared} {h : Heap} {t : Nat} : Same s { s with heap := h, toks := t } := ⟨rfl, rfl, rfl⟩
namespace St
variable {hB h h' : Heap} {g : PM} {L : Addr} {m m' : Str → Option Value} {I Mu : PM}
theorem fr (S : St hB g L m I Mu h) : Fr hB L h m := ⟨S.ns, fun b o e => S.keep b o (S.base b o e), S.low⟩
theorem set (S : St hB g L m I Mu h) (hn : h'.Ns L m') (hs : Heap.SameBut L h h') : St hB g L m' I Mu h' :=
  ⟨hn, fun b o e => (hs.2 b fun q => by rw [q, S.off] at e; cases e).trans (S.keep b o e), S.low, S.base, S.off, fun a o e => ⟨(hs.2 a (S.imm a o e).2.1).trans (S.imm a o e).1, (S.imm a o e).2⟩, fun a o e => ⟨(hs.2 a (S.chg a o e).2.1).trans (S.chg a o e).1, (S.chg a o e).2⟩, S.dis, S.hi⟩
/-- whatever keeps every object keeps the state -/
theorem keeps (S : St hB g L m I Mu h) (hk : ∀ b o, h.get? b = some o → h'.get? b = some o) : St hB g L m I Mu h' :=
  ⟨S.ns.keeps hk, fun b o e => hk b o (S.keep b o e), S.low, S.base, S.off, fun a o e => ⟨hk _ _ (S.imm a o e).1, (S.imm a o e).2⟩, fun a o e => ⟨hk _ _ (S.chg a o e).1, (S.chg a o e).2⟩, S.dis, S.hi⟩
theorem fresh' (S : St hB g L m I Mu h) {a : Addr} (ha : h.get? a = none) : I a = none ∧ Mu a = none ∧ a ≠ L ∧ g a = none := by
  refine ⟨?_, ?_, ?_, ?_⟩
  · cases e : I a with
    | none => rfl
    | some o => rw [(S.imm _ _ e).1] at ha; cases ha
  · cases e : Mu a with
    | none => rfl
    | some o => rw [(S.chg _ _ e).1] at ha; cases ha
  · rintro rfl; obtain ⟨o, _, _, ho, _⟩ := S.ns; rw [ha] at ho; cases ho
  · cases e : g a with
    | none => rfl
    | some o => rw [S.keep _ _ e] at ha; cases ha
theorem fresh (S : St hB g L m I Mu h) : I h.objs.size = none ∧ Mu h.objs.size = none ∧ h.objs.size ≠ L ∧ g h.objs.size = none :=
  S.fresh' (by cases e : h.get? h.objs.size with
    | none => rfl
    | some o => exact absurd (Heap.lt_size e) (Nat.lt_irrefl _))
theorem sizeLe (S : St hB g L m I Mu h) : hB.objs.size ≤ h.objs.size := Nat.le_trans S.low (Nat.le_of_lt S.ns.lt)
theorem push (S : St hB g L m I Mu h) (o : Obj) : St hB g L m I Mu (h.push o) := S.keeps fun _ _ e => Heap.get?_push_of_some _ e
/-- a new object, never to be changed -/
theorem addI (S : St hB g L m I Mu h) {a : Addr} {o : Obj} (ho : h.get? a = some o) (hm : Mu a = none) (hL : a ≠ L) (hg : g a = none) (hge : hB.objs.size ≤ a) : St hB g L m (I.upd a o) Mu h := by
  refine ⟨S.ns, S.keep, S.low, S.base, S.off, fun b o' e => ?_, S.chg, fun b o' e => ?_, fun b o' e => ?_⟩
  · by_cases hb : b = a
    · subst hb; rw [PM.upd_self] at e; cases e; exact ⟨ho, hL, hg⟩
    · rw [PM.upd_ne _ _ hb] at e; exact S.imm _ _ e
  · by_cases hb : b = a
    · subst hb; exact hm
    · rw [PM.upd_ne _ _ hb] at e; exact S.dis _ _ e
  · by_cases hb : b = a
    · subst hb; exact hge
    · rw [PM.upd_ne _ _ hb] at e; exact S.hi _ _ e
theorem addMu (S : St hB g L m I Mu h) {a : Addr} {o : Obj} (ho : h.get? a = some o) (hi : I a = none) (hL : a ≠ L) (hg : g a = none) (hge : hB.objs.size ≤ a) : St hB g L m I (Mu.upd a o) h := by
  refine ⟨S.ns, S.keep, S.low, S.base, S.off, S.imm, fun b o' e => ?_, fun b o' e => ?_, fun b o' e => ?_⟩
  · by_cases hb : b = a
    · subst hb; rw [PM.upd_self] at e; cases e; exact ⟨ho, hL, hg⟩
    · rw [PM.upd_ne _ _ hb] at e; exact S.chg _ _ e
  · by_cases hb : b = a
    · subst hb; rw [hi] at e; cases e
    · rw [PM.upd_ne _ _ hb]; exact S.dis _ _ e
  · by_cases hb : b = a
    · subst hb; exact hge
    · rw [PM.upd_ne _ _ hb] at e; exact S.hi _ _ e
theorem pushI (S : St hB g L m I Mu h) (o : Obj) (hf : o.isFreed = false := by rfl) : St hB g L m (I.upd h.objs.size o) Mu (h.push o) :=
  (S.push o).addI (Heap.get?_push_size _ hf) S.fresh.2.1 S.fresh.2.2.1 S.fresh.2.2.2 S.sizeLe
theorem pushMu (S : St hB g L m I Mu h) (o : Obj) (hf : o.isFreed = false := by rfl) : St hB g L m I (Mu.upd h.objs.size o) (h.push o) :=
  (S.push o).addMu (Heap.get?_push_size _ hf) S.fresh.1 S.fresh.2.2.1 S.fresh.2.2.2 S.sizeLe
/-- a changed object -/
theorem change (S : St hB g L m I Mu h) {a : Addr} {o o' : Obj} (ha : Mu a = some o) (hs : Heap.SameBut a h h') (ho : h'.get? a = some o') : St hB g L m I (Mu.upd a o') h' := by
  have hA := S.chg a o ha
  have hI : I a = none := by
    cases e : I a with
    | none => rfl
    | some x => rw [S.dis _ _ e] at ha; cases ha
  have base : ∀ b x, b ≠ a → h.get? b = some x → h'.get? b = some x := fun b x n e => (hs.2 b n).trans e
  obtain ⟨oL, es, ep, hL, r⟩ := S.ns
  refine ⟨⟨oL, es, ep, base L oL (Ne.symm hA.2.1) hL, r⟩, fun b x e => base b x (fun q => ?_) (S.keep b x e), S.low, S.base, S.off, fun b x e => ⟨base b x (fun q => ?_) (S.imm b x e).1, (S.imm b x e).2⟩, fun b x e => ?_, fun b x e => ?_, fun b x e => ?_⟩
  · rw [q, hA.2.2] at e; cases e
  · rw [q, hI] at e; cases e
  · by_cases hb : b = a
    · subst hb; rw [PM.upd_self] at e; cases e; exact ⟨ho, hA.2⟩
    · rw [PM.upd_ne _ _ hb] at e; exact ⟨base b x hb (S.chg b x e).1, (S.chg b x e).2⟩
  · by_cases hb : b = a
    · subst hb; rw [hI] at e; cases e
    · rw [PM.upd_ne _ _ hb]; exact S.dis _ _ e
  · by_cases hb : b = a
    · subst hb; exact S.hi _ _ (.inr ha)
    · rw [PM.upd_ne _ _ hb] at e; exact S.hi _ _ e
/-- from now on it is never changed -/
theorem freeze (S : St hB g L m I Mu h) {a : Addr} {o : Obj} (ha : Mu a = some o) : St hB g L m (I.upd a o) (Mu.del a) h ∧ I.le (I.upd a o) := by
  have hI : I a = none := by
    cases e : I a with
    | none => rfl
    | some x => rw [S.dis _ _ e] at ha; cases ha
  refine ⟨⟨S.ns, S.keep, S.low, S.base, S.off, fun b x e => ?_, fun b x e => ?_, fun b x e => ?_, fun b x e => ?_⟩, PM.le_upd hI⟩
  · by_cases hb : b = a
    · subst hb; rw [PM.upd_self] at e; cases e; exact S.chg _ _ ha
    · rw [PM.upd_ne _ _ hb] at e; exact S.imm _ _ e
  · by_cases hb : b = a
    · subst hb; rw [PM.del_self] at e; cases e
    · rw [PM.del_ne _ hb] at e; exact S.chg _ _ e
  · by_cases hb : b = a
    · subst hb; exact PM.del_self _ _
    · rw [PM.upd_ne _ _ hb] at e; rw [PM.del_ne _ hb]; exact S.dis _ _ e
  · by_cases hb : b = a
    · subst hb; exact S.hi _ _ (.inr ha)
    · rw [PM.upd_ne _ _ hb, PM.del_ne _ hb] at e; exact S.hi _ _ e
/-- fewer changeable ones -/
theorem less (S : St hB g L m I Mu h) {Mu' : PM} (hl : Mu'.le Mu) : St hB g L m I Mu' h :=
  ⟨S.ns, S.keep, S.low, S.base, S.off, S.imm, fun a o e => S.chg a o (hl a o e), (fun a o e => by
    cases q : Mu' a with
    | none => rfl
    | some x => have := hl a x q; rw [S.dis a o e] at this; cases this), fun a o e => S.hi a o (Or.imp id (hl a o) e)⟩
theorem new_off (S : St hB g L m I Mu h) {a : Addr} (ha : g a = none) : hB.get? a = none := by
  cases e : hB.get? a with
  | none => rfl
  | some o => rw [S.base _ _ e] at ha; cases ha
theorem news1 (S : St hB g L m I Mu h) {a : Addr} {o : Obj} (ha : Mu a = some o) : News hB L h [(a, o)] := fun p hp => by
  rw [List.mem_singleton.mp hp]; exact ⟨(S.chg a o ha).1, (S.chg a o ha).2.1, S.new_off (S.chg a o ha).2.2⟩
theorem news1I (S : St hB g L m I Mu h) {a : Addr} {o : Obj} (ha : I a = some o) : News hB L h [(a, o)] := fun p hp => by
  rw [List.mem_singleton.mp hp]; exact ⟨(S.imm a o ha).1, (S.imm a o ha).2.1, S.new_off (S.imm a o ha).2.2⟩
theorem addsMu {l : List (Addr × Obj)} (S : St hB g L m I Mu h) (N : ∀ q ∈ l, h.get? q.1 = some q.2 ∧ q.1 ≠ L ∧ g q.1 = none) (hI : ∀ q ∈ l, I q.1 = none) (hge : ∀ q ∈ l, hB.objs.size ≤ q.1) : St hB g L m I (Mu.adds l) h := by
  refine ⟨S.ns, S.keep, S.low, S.base, S.off, S.imm, fun a o e => ?_, fun a o e => ?_, fun a o e => ?_⟩
  · cases q : l.lookup a with
    | some x =>
      simp only [PM.adds, q, Option.some_or] at e; cases e
      exact N _ (lookup_mem q)
    | none => simp only [PM.adds, q, Option.none_or] at e; exact S.chg a o e
  · cases q : l.lookup a with
    | some x => have := hI _ (lookup_mem q); rw [this] at e; cases e
    | none => simp only [PM.adds, q, Option.none_or]; exact S.dis a o e
  · cases q : l.lookup a with
    | some x => exact hge _ (lookup_mem q)
    | none => simp only [PM.adds, q, Option.none_or] at e; exact S.hi a o e
/-- one more kept object -/
theorem addG (S : St hB g L m I Mu h) {a : Addr} {o : Obj} (ho : h.get? a = some o) (hI : I a = none) (hm : Mu a = none) (hL : a ≠ L) (hg : g a = none) : St hB (g.upd a o) L m I Mu h := by
  refine ⟨S.ns, fun b x e => ?_, S.low, fun b x e => ?_, by rw [PM.upd_ne _ _ (Ne.symm hL)]; exact S.off, fun b x e => ⟨(S.imm b x e).1, (S.imm b x e).2.1, ?_⟩, fun b x e => ⟨(S.chg b x e).1, (S.chg b x e).2.1, ?_⟩, S.dis, S.hi⟩
  · by_cases hb : b = a
    · subst hb; rw [PM.upd_self] at e; cases e; exact ho
    · rw [PM.upd_ne _ _ hb] at e; exact S.keep _ _ e
  · rw [PM.upd_ne _ _ fun q => by rw [q] at e; rw [S.base _ _ e] at hg; cases hg]; exact S.base _ _ e
  · rw [PM.upd_ne _ _ fun q => by rw [q, hI] at e; cases e]; exact (S.imm b x e).2.2
  · rw [PM.upd_ne _ _ fun q => by rw [q, hm] at e; cases e]; exact (S.chg b x e).2.2
/-- fewer kept objects -/
theorem lessG {g' : PM} (S : St hB g L m I Mu h) (hl : g'.le g) (hb : ∀ b o, hB.get? b = some o → g' b = some o) : St hB g' L m I Mu h := by
  have off : ∀ a, g a = none → g' a = none := fun a e => by
    cases q : g' a with
    | none => rfl
    | some x => rw [hl _ _ q] at e; cases e
  exact ⟨S.ns, fun b o e => S.keep b o (hl b o e), S.low, hb, off _ S.off, fun b x e => ⟨(S.imm b x e).1, (S.imm b x e).2.1, off _ (S.imm b x e).2.2⟩, fun b x e => ⟨(S.chg b x e).1, (S.chg b x e).2.1, off _ (S.chg b x e).2.2⟩, S.dis, S.hi⟩
end St
/-- all objects but those of I and Mu -/
noncomputable def others (I Mu : PM) (h : Heap) : PM := fun a => if (I a).isSome || (Mu a).isSome then none else h.get? a
theorem others_keep {I Mu : PM} {h : Heap} {a : Addr} {o : Obj} (h1 : I a = none) (h2 : Mu a = none) (e : h.get? a = some o) : others I Mu h a = some o := by simp [others, h1, h2, e]
theorem of_others {I Mu : PM} {h : Heap} {a : Addr} {o : Obj} (e : others I Mu h a = some o) : h.get? a = some o := by
  unfold others at e; split at e
  · cases e
  · exact e
theorem others_I {I Mu : PM} {h : Heap} {a : Addr} {o : Obj} (e : I a = some o) : others I Mu h a = none := by simp [others, e]
theorem others_Mu {I Mu : PM} {h : Heap} {a : Addr} {o : Obj} (e : Mu a = some o) : others I Mu h a = none := by simp [others, e]
section
variable {hB : Heap} {g h : Heap} {L : Addr} {m : Str → Option Value} {I Mu : PM}
theorem St.sub_others {g : PM} (S : St hB g L m I Mu h) : g.le (others I Mu h) := fun b o e => others_keep (by
      cases q : I b with
      | none => rfl
      | some x => rw [(S.imm _ _ q).2.2] at e; cases e) (by
      cases q : Mu b with
      | none => rfl
      | some x => rw [(S.chg _ _ q).2.2] at e; cases e) (S.keep b o e)
/-- the state of a new frame L' -/
theorem St.enter {g : PM} {h' : Heap} {L' : Addr} {m' : Str → Option Value} (S : St hB g L m I Mu h) (hns : h'.Ns L' m') (hL : h.get? L' = none) (hle : hB.objs.size ≤ L') (hk : ∀ b o, h.get? b = some o → h'.get? b = some o) :
    St hB (others I Mu h) L' m' I Mu h' := by
  have ne : ∀ a o, h.get? a = some o → a ≠ L' := fun a o e q => by rw [q, hL] at e; cases e
  refine ⟨hns, fun b o e => hk b o (of_others e), hle, fun b o e => S.sub_others b o (S.base b o e), ?_, fun a o e => ⟨hk _ _ (S.imm a o e).1, ne _ _ (S.imm a o e).1, others_I e⟩, fun a o e => ⟨hk _ _ (S.chg a o e).1, ne _ _ (S.chg a o e).1, others_Mu e⟩, S.dis, S.hi⟩
  cases q : others I Mu h L' with
  | none => rfl
  | some o => rw [of_others q] at hL; cases hL
/-- what the callee's frame gives the caller's back -/
theorem St.back {g g' : PM} {h' : Heap} {L' : Addr} {m' : Str → Option Value} {I' Mu' : PM} (S : St hB g L m I Mu h) (hg : (others I Mu h).le g') (S' : St hB g' L' m' I' Mu' h') : St hB g L m I' Mu' h' := by
  obtain ⟨oL, es, ep, hL, r⟩ := S.ns
  have hIL : I L = none := by
    cases e : I L with
    | none => rfl
    | some o => exact absurd rfl (S.imm _ _ e).2.1
  have hML : Mu L = none := by
    cases e : Mu L with
    | none => rfl
    | some o => exact absurd rfl (S.chg _ _ e).2.1
  have hLg := hg L oL (others_keep hIL hML hL)
  have off : ∀ a, g' a = none → a ≠ L ∧ g a = none := fun a e => ⟨(fun q => by rw [q, hLg] at e; cases e), (by
    cases q : g a with
    | none => rfl
    | some x => rw [hg _ _ (S.sub_others _ _ q)] at e; cases e)⟩
  exact ⟨⟨oL, es, ep, S'.keep L oL hLg, r⟩, fun b o e => S'.keep b o (hg b o (S.sub_others b o e)), S.low, S.base, S.off, fun a o e => ⟨(S'.imm a o e).1, off a (S'.imm a o e).2.2⟩, fun a o e => ⟨(S'.chg a o e).1, off a (S'.chg a o e).2.2⟩, S'.dis, S'.hi⟩
end
section
variable {prog : Program} {w : World} {K : Frag} {p : Program} {loose : List Str} {mean : ExcName → Option Value} {mg mb : Str → Option Value} {hB : Heap}
/-- what holds of the heap at the call's start -/
structure Base (K : Frag) (p : Program) (loose : List Str) (mean : ExcName → Option Value) (mg mb : Str → Option Value) (hB : Heap) : Prop where
  k : K.In hB
  t : Top p loose mean mg mb hB
/-- the contract of a call: it ends, and gives back r and the maps I', Mu' as Post says -/
noncomputable def CallOk (prog : Program) (w : World) (hB : Heap) (d u : Nat) (f : Value) (vs : List Value) (I Mu : PM) (Post : Value → PM → PM → Prop) : Prop :=
  ∀ (A : Around) (g : PM) (L : Addr) (m : Str → Option Value) (h : Heap) (gn : Array GenState) (dr : Drawn) (tk : Nat) (os : OsState) (Q E : Value → Shared → Prop), A.handled = none → A.depth + d < recursionLimit → A.units + u < cLine → St hB g L m I Mu h →
    (∀ r I' Mu' h' tk', St hB g L m I' Mu' h' → I.le I' → Post r I' Mu' → Q r ⟨h', gn, dr, tk', os⟩) → wpAny (model prog w) A (call f vs) Q E ⟨h, gn, dr, tk, os⟩
/-- the end of a body: what it gives back, and the state in the callee's frame -/
noncomputable def Back (hB : Heap) (g : PM) (L : Addr) (I : PM) (Post : Value → PM → PM → Prop) (gn : Array GenState) (dr : Drawn) (os : OsState) (fl : Flow) (s' : Shared) : Prop :=
  ∃ m' I' Mu' h' tk', s' = ⟨h', gn, dr, tk', os⟩ ∧ St hB g L m' I' Mu' h' ∧ I.le I' ∧ Post (match fl with | .ret v => v | _ => .none) I' Mu'
theorem Back.intro {g : PM} {L : Addr} {I I' Mu' : PM} {m' : Str → Option Value} {Post : Value → PM → PM → Prop} {gn : Array GenState} {dr : Drawn} {os : OsState} {h' : Heap} {tk' : Nat} {fl : Flow} (S : St hB g L m' I' Mu' h') (hl : I.le I') (hp : Post (match fl with | .ret v => v | _ => .none) I' Mu') :
    Back hB g L I Post gn dr os fl ⟨h', gn, dr, tk', os⟩ := ⟨m', I', Mu', h', tk', rfl, S, hl, hp⟩
/-- a def of the text without cells -/
theorem call_def {name qual : Str} {params : Arguments} {body : List Stmt} {scope : Scope} {dV kV doc pm cdv ct oc : Value} {an od : Option Addr} {osl : Array (Option Value)} {f : Addr} {vs : List Value} {binds : List (Str × Value)} {I Mu : PM} {Post : Value → PM → PM → Prop} {d u : Nat}
    (B : Base K p loose mean mg mb hB) (ho : K.lookup f = some ⟨oc, od, .func (fnOf name qual params body scope dV kV doc pm an cdv ct), osl⟩) (hcd : codeIn K cdv qual = true)
    (hbind : ∀ s, BindsTo s (fnOf name qual params body scope dV kV doc pm an cdv ct) ⟨vs, []⟩ binds) (hloc : ∀ y ∈ binds, scope.names.lookup y.1 = some .local)
    (hcell : ∀ x ∈ scope.names, x.2 ≠ .cell)
    (h : ∀ (A : Around) (g : PM) (L : Addr) (h : Heap) (gn : Array GenState) (dr : Drawn) (tk : Nat) (os : OsState), A.handled = none → A.depth + d < recursionLimit → A.units + u < cLine → St hB g L (fun y => binds.reverse.lookup y) I Mu h →
      wpAny (model prog w) A (execs body (envX qual scope L f cdv [])) (Back hB g L I Post gn dr os) (fun _ _ => False) ⟨h, gn, dr, tk, os⟩)
    (hco : scope.isCoroutine = false := by rfl) (hgen : scope.isGenerator = false := by rfl) (hk : scope.kind = .function := by rfl) : CallOk prog w hB (d + 1) (u + 3) (.ref f) vs I Mu Post := by
  intro A g L m h₀ gn dr tk₀ os Q E hh hd hu S hQ
  have F := S.fr
  refine wpAny_call (codeAny_call_def (fd := fnOf name qual params body scope dV kV doc pm an cdv ct) (body := body) (binds := binds) (by (first | lia | omega)) ((B.k.keeps F.keep) _ _ ho) rfl (B.t.nolimit.keeps F.keep) (codeRec_of (B.k.keeps F.keep) hcd) rfl (hbind _) hcell hloc (fun h₁ hns hk₁ => ?_) hco hgen hk)
  have S₁ := S.enter hns (by
    cases e : h₀.get? h₀.objs.size with
    | none => rfl
    | some o => exact absurd (Heap.lt_size e) (Nat.lt_irrefl _)) (Nat.le_trans S.low (Nat.le_of_lt S.ns.lt)) hk₁
  refine wpAny_mono (h (A.deeper (envX qual scope h₀.objs.size f cdv [])) _ h₀.objs.size h₁ gn dr (tk₀ + binds.length) os hh ?_ ?_ S₁) (fun fl s' hb => ?_) fun _ _ x => x.elim
  · rw [depth_deeper]; (first | lia | omega)
  · show A.units + 3 + u < cLine; (first | lia | omega)
  · obtain ⟨m', I', Mu', h', tk', rfl, S', hl, hp⟩ := hb
    exact hQ _ I' Mu' h' tk' (S.back (PM.le_refl _) S') hl hp
theorem CellsAre.all {cm : Str → Option Value} {P : Addr → Prop} {cs : List (Str × Addr)} {cells : List (Addr × Obj)} (x : CellsAre cm cs cells) : (∀ n c, (n, c) ∈ cs → P c) → ∀ q ∈ cells, P q.1 := by
  induction x with
  | nil => intro _ q hq; exact nomatch hq
  | cons hd r ih =>
    intro h q hq
    rcases List.mem_cons.mp hq with rfl | hq
    · exact h _ _ (.head _)
    · exact ih (fun n c hm => h n c (.tail _ hm)) q hq
/-- a def of the text with cells -/
theorem call_defC {name qual : Str} {params : Arguments} {body : List Stmt} {scope : Scope} {dV kV doc pm cdv ct oc : Value} {an od : Option Addr} {osl : Array (Option Value)} {f : Addr} {vs : List Value} {binds : List (Str × Value)} {I Mu : PM} {Post : Value → PM → PM → Prop} {d u : Nat}
    (B : Base K p loose mean mg mb hB) (ho : K.lookup f = some ⟨oc, od, .func (fnOf name qual params body scope dV kV doc pm an cdv ct), osl⟩) (hcd : codeIn K cdv qual = true)
    (hbind : ∀ s, BindsTo s (fnOf name qual params body scope dV kV doc pm an cdv ct) ⟨vs, []⟩ binds)
    (hkind : (binds.all fun y => scope.names.lookup y.1 == some .local || scope.names.lookup y.1 == some .cell) = true)
    (hnd : ((cellsFrom 0 scope.names []).map (·.1)).Nodup)
    (h : ∀ (A : Around) (g : PM) (L : Addr) (h : Heap) (gn : Array GenState) (dr : Drawn) (tk : Nat) (os : OsState) (cells : List (Addr × Obj)), A.handled = none → A.depth + d < recursionLimit → A.units + u < cLine →
      CellsAre (bindC (envOfC qual scope L f cdv).kindOf binds fun _ => none) (cellsFrom (L + 1) scope.names []) cells → (∀ q ∈ cells, I q.1 = none ∧ Mu q.1 = none) →
      St hB g L (bindL (envOfC qual scope L f cdv).kindOf binds fun _ => none) I (Mu.adds cells) h →
      wpAny (model prog w) A (execs body (envX qual scope L f cdv (cellsFrom (L + 1) scope.names []))) (Back hB g L I Post gn dr os) (fun _ _ => False) ⟨h, gn, dr, tk, os⟩)
    (hco : scope.isCoroutine = false := by rfl) (hgen : scope.isGenerator = false := by rfl) (hk : scope.kind = .function := by rfl) : CallOk prog w hB (d + 1) (u + 3) (.ref f) vs I Mu Post := by
  intro A g L m h₀ gn dr tk₀ os Q E hh hd hu S hQ
  have F := S.fr
  have hlim := B.t.nolimit.keeps F.keep
  refine wpAny_call (codeAny_call_function (fd := fnOf name qual params body scope dV kV doc pm an cdv ct) (body := body) (by (first | lia | omega)) ((B.k.keeps F.keep) _ _ ho) rfl hco hgen rfl (codeRec_of (B.k.keeps F.keep) hcd) (hbind _ _ _ _ _ ?_))
  refine wpAny_newFunctionEnv_cells hk (kindsX hkind _) fun env' he s' x => ?_
  subst he
  refine ⟨hlim.keeps x.toInCall.keep, codeAny_func ?_⟩
  obtain ⟨h₁, tk, rfl, _⟩ := x.done
  have hk₁ := x.toInCall.keep
  obtain ⟨cells, NC, Y⟩ := Cl.news (h₀ := h₀) (Nat.le_refl _) fun n c hm => ⟨x.cell n c (lookup_of_mem_nodup (cellsFrom_names scope.names 0 (h₀.objs.size + 1) [] [] rfl ▸ hnd) hm), x.above n c hm⟩
  have hnone : h₀.get? h₀.objs.size = none := by
    cases e : h₀.get? h₀.objs.size with
    | none => rfl
    | some o => exact absurd (Heap.lt_size e) (Nat.lt_irrefl _)
  have S₁ := S.enter (L' := h₀.objs.size) (h' := h₁) x.toInCall.ns hnone (Nat.le_trans S.low (Nat.le_of_lt S.ns.lt)) hk₁
  have hc : ∀ q ∈ cells, I q.1 = none ∧ Mu q.1 = none := fun q hq => ⟨(S.fresh' (NC q hq).2.2).1, (S.fresh' (NC q hq).2.2).2.1⟩
  have S₂ := S₁.addsMu (l := cells) (fun q hq => ⟨(NC q hq).1, (NC q hq).2.1, by
    cases e : others I Mu h₀ q.1 with
    | none => rfl
    | some o => have := of_others e; rw [(NC q hq).2.2] at this; cases this⟩) (fun q hq => (hc q hq).1) fun q hq => by
      have h1 := CellsAre.all (P := fun c => h₀.objs.size < c) Y (fun n c hm => x.above n c hm) q hq
      have h2 := S.sizeLe
      exact Nat.le_trans h2 (Nat.le_of_lt h1)
  refine wpAny_mono (h (A.deeper (envX qual scope h₀.objs.size f cdv (cellsFrom (h₀.objs.size + 1) scope.names []))) _ h₀.objs.size h₁ gn dr tk os cells hh ?_ ?_ Y hc S₂) (fun fl s' hb => ?_) fun _ _ x => x.elim
  · rw [depth_deeper]; (first | lia | omega)
  · show A.units + 3 + u < cLine; (first | lia | omega)
  · obtain ⟨m', I', Mu', h', tk', rfl, S', hl, hp⟩ := hb
    exact hQ _ I' Mu' h' tk' (S.back (PM.le_refl _) S') hl hp
end
end
section
structure EnvOk (env : Env) (ns : List (Str × NameKind)) (L : Addr) (cl : List (Str × Addr)) : Prop where
  kind : env.scope.kind = .function
  names : env.scope.names = ns
  locals : env.locals = L
  globals : env.globals = mainGlobals
  builtins : env.builtins = builtinsNs
  cells : env.cells = cl
theorem EnvOk.of {env : Env} {cn : Str} {cs : Scope} {L a : Addr} {ccd : Value} {cl : List (Str × Addr)} (h : envX cn cs L a ccd cl = env) (hk : cs.kind = .function := by rfl) : EnvOk env cs.names L cl := by
  subst h; exact ⟨hk, rfl, rfl, rfl, rfl, rfl⟩
noncomputable abbrev tupO (vs : List Value) : Obj := { cls := .type "tuple", data := .seq vs.toArray }
noncomputable abbrev lstO (vs : List Value) (n : Nat) : Obj := { cls := .type "list", data := .seq vs.toArray n }
noncomputable def setm (m : Str → Option Value) (x : Str) (v : Value) : Str → Option Value := fun y => if y = x then some v else m y
/-- an object that stands in I or in Mu -/
noncomputable def At (I Mu : PM) (a : Addr) (o : Obj) : Prop := I a = some o ∨ Mu a = some o
theorem At.inI {I Mu : PM} {a : Addr} {o : Obj} (h : I a = some o) : At I Mu a o := .inl h
theorem At.inMu {I Mu : PM} {a : Addr} {o : Obj} (h : Mu a = some o) : At I Mu a o := .inr h
section
variable {prog : Program} {w : World} {A : Around} {E : Value → Shared → Prop} {h : Heap} {gn : Array GenState} {dr : Drawn} {tk : Nat} {os : OsState} {env : Env} {K : Frag} {p : Program} {loose : List Str} {mean : ExcName → Option Value} {mg mb : Str → Option Value} {hB : Heap} {g : PM} {L : Addr} {m : Str → Option Value} {I Mu : PM}
  {ns : List (Str × NameKind)} {cl : List (Str × Addr)} {x : Str} {pos : Pos} {v : Value}
theorem At.get (S : St hB g L m I Mu h) {a : Addr} {o : Obj} (q : At I Mu a o) : h.get? a = some o := q.elim (fun e => (S.imm _ _ e).1) fun e => (S.chg _ _ e).1
theorem r_local {Q : Value → Shared → Prop} (S : St hB g L m I Mu h) (hE : EnvOk env ns L cl) (hx : ns.lookup x = some .local) (hv : m x = some v) (q : Q v ⟨h, gn, dr, tk, os⟩) (hd : (x == ("__debug__" : Str)) = false) :
    wpAny (model prog w) A (eval (.Name x pos) env) Q E ⟨h, gn, dr, tk, os⟩ := wpAny_Name (wpAny_loadName_local hE.kind (by rw [Env.kindOf, hE.names]; exact hx) (hE.locals ▸ S.ns) hv q) hd
theorem r_cell {Q : Value → Shared → Prop} {c : Addr} {o : Obj} (S : St hB g L m I Mu h) (hE : EnvOk env ns L cl) (hx : ns.lookup x = some .cell) (hc : cl.lookup x = some c) (hm : Mu c = some o) (ho : o.data = .cell (some v)) (q : Q v ⟨h, gn, dr, tk, os⟩) (hd : (x == ("__debug__" : Str)) = false) :
    wpAny (model prog w) A (eval (.Name x pos) env) Q E ⟨h, gn, dr, tk, os⟩ := wpAny_Name (wpAny_loadName_cell hE.kind (by rw [Env.kindOf, hE.names]; exact hx) (by rw [hE.cells]; exact hc) ⟨o, (S.chg _ _ hm).1, ho⟩ q) hd
theorem r_glob {Q : Value → Shared → Prop} (B : Base K p loose mean mg mb hB) (S : St hB g L m I Mu h) (hE : EnvOk env ns L cl) (hx : ns.lookup x = some .globalImplicit) (e : nsIn K mainGlobals x = some (some v)) (q : Q v ⟨h, gn, dr, tk, os⟩) (hd : (x == ("__debug__" : Str)) = false) :
    wpAny (model prog w) A (eval (.Name x pos) env) Q E ⟨h, gn, dr, tk, os⟩ :=
  Name_function_global hE.kind (by rw [Env.kindOf, hE.names]; exact hx) (loadGlobal_global (env := env) (by rw [hE.globals]; exact B.t.g.keeps S.fr.keep) (mg_of B.k B.t.g e) q) hd
theorem r_boot {Q : Value → Shared → Prop} (B : Base K p loose mean mg mb hB) (S : St hB g L m I Mu h) (hE : EnvOk env ns L cl) (hx : ns.lookup x = some .globalImplicit) (e : nsIn K mainGlobals x = some none) (hv : bootBuiltins x = some v) (q : Q v ⟨h, gn, dr, tk, os⟩) (hn : x ≠ "__name__") (hd : (x == ("__debug__" : Str)) = false) :
    wpAny (model prog w) A (eval (.Name x pos) env) Q E ⟨h, gn, dr, tk, os⟩ :=
  Name_function_global hE.kind (by rw [Env.kindOf, hE.names]; exact hx) (loadGlobal_builtin (env := env) (by rw [hE.globals]; exact B.t.g.keeps S.fr.keep) (mg_none_of B.k B.t.g e) (by rw [hE.builtins]; exact B.t.b.keeps S.fr.keep) ((B.t.builtins x hn).trans hv) q) hd
theorem r_store {Q : Unit → Shared → Prop} (S : St hB g L m I Mu h) (hE : EnvOk env ns L cl) (hx : ns.lookup x = some .local)
    (q : ∀ h', St hB g L (setm m x v) I Mu h' → Q () ⟨h', gn, dr, tk + 1, os⟩) : wpAny (model prog w) A (storeName env x v) Q E ⟨h, gn, dr, tk, os⟩ := by
  refine wpAny_storeName_local (by rw [Env.kindOf, hE.names]; exact hx) (hE.locals ▸ S.ns) (fun h' hn hs => q h' (S.set (hE.locals ▸ hn) (hE.locals ▸ hs))) ?_
  rw [hE.kind]; rfl
theorem r_storeC {Q : Unit → Shared → Prop} {c : Addr} {o : Obj} {v₀ : Option Value} (S : St hB g L m I Mu h) (hE : EnvOk env ns L cl) (hx : ns.lookup x = some .cell) (hc : cl.lookup x = some c) (hm : Mu c = some o) (ho : o.data = .cell v₀)
    (q : ∀ h' o', St hB g L m I (Mu.upd c o') h' → o'.data = .cell (some v) → Q () ⟨h', gn, dr, tk, os⟩) : wpAny (model prog w) A (storeName env x v) Q E ⟨h, gn, dr, tk, os⟩ := by
  refine wpAny_storeName_cell hE.kind (by rw [Env.kindOf, hE.names]; exact hx) (by rw [hE.cells]; exact hc) ⟨o, (S.chg _ _ hm).1, ho⟩ fun h' hv hs => ?_
  obtain ⟨o', ho', hd'⟩ := hv
  exact q h' o' (S.change hm hs ho') hd'
-- constants
theorem r_int {i : Int} {k} {Q : Value → Shared → Prop} (q : Q (.int i tk) ⟨h, gn, dr, tk + 1, os⟩) : wpAny (model prog w) A (eval (.Constant (.int i) k pos) env) Q E ⟨h, gn, dr, tk, os⟩ := wpAny_Constant_int q
theorem r_str {i : Str} {k} {Q : Value → Shared → Prop} (q : Q (.str i tk) ⟨h, gn, dr, tk + 1, os⟩) : wpAny (model prog w) A (eval (.Constant (.str i) k pos) env) Q E ⟨h, gn, dr, tk, os⟩ := Constant_str q
-- calls of the text's defs and of built-ins
theorem r_callK {Q : Value → Shared → Prop} {f : Value} {e : Expr} {rest : List Expr} (B : Base K p loose mean mg mb hB) (hk : keepIn K f = true) (q : wpAny (model prog w) A (spliced (backTo pos (starEach (e :: rest) env))) (fun vs s₁ => (∃ g L m I Mu, St hB g L m I Mu s₁.heap) ∧ wpAny (model prog w) A (call f vs) Q E s₁) E ⟨h, gn, dr, tk, os⟩)
    (he : starEach (e :: rest) env = (false, eval e env) :: starEach rest env) (hplain : (backTo pos (starEach rest env)).any (·.1) = false) :
    wpAny (model prog w) A (callWith pos f [] (backTo pos (starEach (e :: rest) env)) []) Q E ⟨h, gn, dr, tk, os⟩ := by
  rw [he] at q ⊢
  exact callWith_of (P := fun h => K.In h) (by show ((false || (backTo pos (starEach rest env)).any (·.1)) || false) = false; rw [hplain]; rfl) (keeps_K hk) (evalArgs_plain (wpAny_mono q (fun vs s₁ q => ⟨(let ⟨⟨_, _, _, _, _, S⟩, _⟩ := q; B.k.keeps S.fr.keep), q.2⟩) fun _ _ x => x))
theorem and_st {P : Prop} (S : St hB g L m I Mu h) (q : P) : (∃ g L m I Mu, St hB g L m I Mu h) ∧ P := ⟨⟨g, L, m, I, Mu, S⟩, q⟩
theorem r_Call {M : Model} {s : Shared} {Q : Value → Shared → Prop} {f : Expr} {args : List Expr} (q : wpAny M A (eval f env) (fun fv s₁ => wpAny M A (callWith pos fv [] (backTo pos (starEach args env)) []) Q E s₁) E s)
    (he : eval (.Call f args [] pos) env = (do callWith pos (← eval f env) [] (backTo pos (starEach args env)) (backToKw pos (keywordEach [] env)))) :
    wpAny M A (eval (.Call f args [] pos) env) Q E s := by
  rw [he]; exact wpAny_bind q
theorem r_callB {M : Model} {s : Shared} {Q : Value → Shared → Prop} {id : String} {first : List Value} {e : Expr} {rest : List Expr} (q : wpAny M A (spliced (backTo pos (starEach (e :: rest) env))) (fun vs s₁ => wpAny M A (call (.builtin id) (first ++ vs)) Q E s₁) E s)
    (he : starEach (e :: rest) env = (false, eval e env) :: starEach rest env) (hplain : (backTo pos (starEach (e :: rest) env)).any (·.1) = false) : wpAny M A (callWith pos (.builtin id) first (backTo pos (starEach (e :: rest) env)) []) Q E s := by
  refine callWith_builtin hplain ?_
  rw [he] at q ⊢
  exact evalArgs_plain q
theorem r_callB0 {M : Model} {s : Shared} {Q : Value → Shared → Prop} {id : String} {first : List Value} (q : wpAny M A (call (.builtin id) (first ++ [])) Q E s) : wpAny M A (callWith pos (.builtin id) first (backTo pos (starEach [] env)) []) Q E s :=
  callWith_builtin rfl (evalArgs_nil3 q)
theorem r_callT {M : Model} {s : Shared} {Q : Value → Shared → Prop} {T : String} {e : Expr} {rest : List Expr}
    (q : wpAny M A (spliced (backTo pos (starEach (e :: rest) env))) (fun vs s₁ => wpAny M A (call (.type T) vs) Q E s₁) E s)
    (he : starEach (e :: rest) env = (false, eval e env) :: starEach rest env) (hplain : (backTo pos (starEach rest env)).any (·.1) = false) :
    wpAny M A (callWith pos (.type T) [] (backTo pos (starEach (e :: rest) env)) []) Q E s := callWith_type1 q he hplain
theorem r_splC {M : Model} {s : Shared} {Q : List Value → Shared → Prop} {e : Expr} {rest : List Expr} (q : wpAny M A (eval e env) (fun v s₁ => wpAny M A (spliced (backTo pos (starEach rest env))) (fun vs s₂ => Q (v :: vs) s₂) E s₁) E s)
    (he : starEach (e :: rest) env = (false, eval e env) :: starEach rest env) : wpAny M A (spliced (backTo pos (starEach (e :: rest) env))) Q E s := by
  rw [he]
  show wpAny M A (spliced ((false, eval e env) :: backTo pos (starEach rest env))) Q E s
  exact spliced_cons q
theorem r_splN {M : Model} {s : Shared} {Q : List Value → Shared → Prop} (q : Q [] s) : wpAny M A (spliced (backTo pos (starEach [] env))) Q E s := spliced_nil q
-- ints
section
variable {a b : Int} {t u : Tok} {Q : Value → Shared → Prop}
theorem r_add (q : Q (.int (a + b) tk) ⟨h, gn, dr, tk + 1, os⟩) : wpAny (model prog w) A (binaryOp .Add (.int a t) (.int b u)) Q E ⟨h, gn, dr, tk, os⟩ := PyProof.Rows.add_int q
theorem r_sub (q : Q (.int (a - b) tk) ⟨h, gn, dr, tk + 1, os⟩) : wpAny (model prog w) A (binaryOp .Sub (.int a t) (.int b u)) Q E ⟨h, gn, dr, tk, os⟩ := PyProof.Rows.sub_int q
theorem r_mod (hb : b ≠ 0) (q : Q (.int (a.fmod b) tk) ⟨h, gn, dr, tk + 1, os⟩) : wpAny (model prog w) A (binaryOp .Mod (.int a t) (.int b u)) Q E ⟨h, gn, dr, tk, os⟩ := PyProof.Rows.mod_int hb q
theorem r_iadd (q : Q (.int (a + b) tk) ⟨h, gn, dr, tk + 1, os⟩) : wpAny (model prog w) A (inplaceOp .Add (.int a t) (.int b u)) Q E ⟨h, gn, dr, tk, os⟩ := PyProof.Rows.iadd_int q
theorem r_isub (q : Q (.int (a - b) tk) ⟨h, gn, dr, tk + 1, os⟩) : wpAny (model prog w) A (inplaceOp .Sub (.int a t) (.int b u)) Q E ⟨h, gn, dr, tk, os⟩ := PyProof.Rows.isub_int q
end
-- binds
theorem r_tup {M : Model} {s : Shared} {elts : List Expr} {k : Nat} {Q : Value → Shared → Prop}
    (q : wpAny M A (spliced (backTo pos (starEach elts env))) (fun vs s₁ => wpAny M A (newTuple vs) Q E s₁) E s) : wpAny M A (eval (.Tuple elts k pos) env) Q E s := Tuple_ q
theorem r_newTupI {vs : List Value} {Q : Value → Shared → Prop} (S : St hB g L m I Mu h) (hz : vs.length ≤ 1000000)
    (q : ∀ a h', I a = none → St hB g L m (I.upd a (tupO vs)) Mu h' → Q (.ref a) ⟨h', gn, dr, tk, os⟩) : wpAny (model prog w) A (newTuple vs) Q E ⟨h, gn, dr, tk, os⟩ :=
  wpAny_newObj_type (q _ _ S.fresh.1 (S.pushI _)) (by show vs.toArray.size ≤ sizeLine; rw [List.size_toArray, sizeLine_eq]; (first | lia | omega))
theorem r_newLst {vs : List Value} {Q : Value → Shared → Prop} (S : St hB g L m I Mu h) (hz : vs.length ≤ 1000000)
    (q : ∀ a h', I a = none → Mu a = none → St hB g L m I (Mu.upd a (lstO vs 0)) h' → Q (.ref a) ⟨h', gn, dr, tk, os⟩) : wpAny (model prog w) A (newList vs) Q E ⟨h, gn, dr, tk, os⟩ :=
  wpAny_newObj_type (q _ _ S.fresh.1 S.fresh.2.1 (S.pushMu _)) (by show vs.toArray.size ≤ sizeLine; rw [List.size_toArray, sizeLine_eq]; (first | lia | omega))
theorem isL (S : St hB g L m I Mu h) {a : Addr} {vs : List Value} {n : Nat} (q : At I Mu a (lstO vs n)) : h.IsList a vs.toArray := ⟨_, At.get S q, rfl, n, rfl⟩
theorem isT (S : St hB g L m I Mu h) {a : Addr} {vs : List Value} (q : At I Mu a (tupO vs)) : IsTup h a vs.toArray := ⟨_, At.get S q, rfl, 0, rfl⟩
-- dicts keyed by strs
theorem r_dget {d : Addr} {o : Obj} {kvs : List (Str × Value)} {k : Str} {t : Tok} {Q : Value → Shared → Prop} (S : St hB g L m I Mu h) (hm : At I Mu d o) (ho : o.IsDictOf (strKind prog w) kvs) (hl : valueAt kvs k = some v) (q : Q v ⟨h, gn, dr, tk + 1, os⟩) :
    wpAny (model prog w) A (getItem (.ref d) (.str k t)) Q E ⟨h, gn, dr, tk, os⟩ := wpAny_getItem_of (s := ⟨h, gn, dr, tk, os⟩) (strKind_is prog w k t) (Heap.dictOf_iff.mpr ⟨o, At.get S hm, ho⟩).mapOf hl q
theorem r_dset {d : Addr} {o : Obj} {kvs : List (Str × Value)} {k : Str} {t : Tok} {Q : Unit → Shared → Prop} (S : St hB g L m I Mu h) (hm : Mu d = some o) (ho : o.IsDictOf (strKind prog w) kvs) (hz : kvs.length ≤ 1000000)
    (q : ∀ h' o', St hB g L m I (Mu.upd d o') h' → o'.IsDictOf (strKind prog w) (stored kvs k v) → Q () ⟨h', gn, dr, tk + 1, os⟩) :
    wpAny (model prog w) A (setItem (.ref d) (.str k t) v) Q E ⟨h, gn, dr, tk, os⟩ :=
  wpAny_setItem_pairs (s := ⟨h, gn, dr, tk, os⟩) (hsz := by rw [sizeLine_eq]; (first | lia | omega)) (strKind_is prog w k t) (Heap.dictOf_iff.mpr ⟨o, (S.chg _ _ hm).1, ho⟩) fun h' hd hs => by
    obtain ⟨o', ho', hi⟩ := Heap.dictOf_iff.mp hd
    exact q h' o' (S.change hm hs ho') hi
theorem r_ditem {value slice : Expr} {d : Addr} {o : Obj} {kvs : List (Str × Value)} {k : Str} {t : Tok} {Q : Value → Shared → Prop} (S : St hB g L m I Mu h) (hm : At I Mu d o) (ho : o.IsDictOf (strKind prog w) kvs) (hl : valueAt kvs k = some v) (q : Q v ⟨h, gn, dr, tk + 1, os⟩)
    (hs : subscripted slice false (.ref d) (.str k t) = operate [.ref d, .str k t] (getItem (.ref d) (.str k t)) := by with_unfolding_all rfl) :
    wpAny (model prog w) A (subscriptTail value slice (.ref d) (.str k t)) Q E ⟨h, gn, dr, tk, os⟩ :=
  have hd := (Heap.dictOf_iff.mpr ⟨o, At.get S hm, ho⟩ : h.DictOf (strKind prog w) d kvs)
  tail_any (Heap.DictOf.typeIs (s := ⟨h, gn, dr, tk, os⟩) hd) slot_dict_getitem.lookup (wpAny_getItem_of (s := ⟨h, gn, dr, tk, os⟩) (strKind_is prog w k t) hd.mapOf hl q) hs
-- lists and tuples
theorem r_litem {value slice : Expr} {a : Addr} {vs : List Value} {n : Nat} {k : Int} {u : Tok} {Q : Value → Shared → Prop} (S : St hB g L m I Mu h) (hl : At I Mu a (lstO vs n)) (h0 : 0 ≤ k) (hhi : k < 1000000) (hx : vs[k.toNat]? = some v) (q : Q v ⟨h, gn, dr, tk, os⟩)
    (hs : subscripted slice false (.ref a) (.int k u) = operate [.ref a, .int k u] (getItem (.ref a) (.int k u)) := by with_unfolding_all rfl) : wpAny (model prog w) A (subscriptTail value slice (.ref a) (.int k u)) Q E ⟨h, gn, dr, tk, os⟩ :=
  tail_any (Heap.IsList.typeIs (s := ⟨h, gn, dr, tk, os⟩) (isL S hl)) slot_list_getitem.lookup (wpAny_getItem_list (s := ⟨h, gn, dr, tk, os⟩) (isL S hl) h0 (by (first | lia | omega)) (by simpa using hx) q) hs
theorem r_titem' {value slice : Expr} {a : Addr} {vs : List Value} {k : Int} {u : Tok} {Q : Value → Shared → Prop} (ht : IsTup h a vs.toArray) (h0 : 0 ≤ k) (hhi : k < 1000000) (hx : vs[k.toNat]? = some v) (q : Q v ⟨h, gn, dr, tk, os⟩)
    (hs : subscripted slice false (.ref a) (.int k u) = operate [.ref a, .int k u] (getItem (.ref a) (.int k u)) := by with_unfolding_all rfl) : wpAny (model prog w) A (subscriptTail value slice (.ref a) (.int k u)) Q E ⟨h, gn, dr, tk, os⟩ := by
  have hlt : k.toNat < vs.length := by
    rcases List.getElem?_eq_some_iff.mp hx with ⟨z, _⟩; exact z
  refine item_tupleT (s := ⟨h, gn, dr, tk, os⟩) ht (by (first | lia | omega)) (by (first | lia | omega)) (j := k.toNat) ?_ hx q hs
  unfold seqIndex?
  have : k < vs.length := by (first | lia | omega)
  simp [h0, this, Int.not_lt.mpr h0]
theorem r_titem {value slice : Expr} {a : Addr} {vs : List Value} {k : Int} {u : Tok} {Q : Value → Shared → Prop} (S : St hB g L m I Mu h) (hl : At I Mu a (tupO vs)) (h0 : 0 ≤ k) (hhi : k < 1000000) (hx : vs[k.toNat]? = some v) (q : Q v ⟨h, gn, dr, tk, os⟩)
    (hs : subscripted slice false (.ref a) (.int k u) = operate [.ref a, .int k u] (getItem (.ref a) (.int k u)) := by with_unfolding_all rfl) : wpAny (model prog w) A (subscriptTail value slice (.ref a) (.int k u)) Q E ⟨h, gn, dr, tk, os⟩ :=
  r_titem' (isT S hl) h0 hhi hx q hs
theorem isTK (B : Base K p loose mean mg mb hB) (S : St hB g L m I Mu h) {a : Addr} {vs : List Value} {n : Nat} {dd : Option Addr} {sl : Array (Option Value)} (e : K.lookup a = some ⟨.type "tuple", dd, .seq vs.toArray n, sl⟩) : IsTup h a vs.toArray := tupK (B.k.keeps S.fr.keep) e
theorem r_tlen' {a : Addr} {vs : List Value} {n : Nat} {Q : Value → Shared → Prop} (ht : IsTup h a vs.toArray) (hn : vs.length = n) (hz : n ≤ 1000000) (q : Q (.int n (tk + 1)) ⟨h, gn, dr, tk + 1 + 1, os⟩) : wpAny (model prog w) A (call (.builtin "len") [.ref a]) Q E ⟨h, gn, dr, tk, os⟩ := by
  subst hn
  refine PyProof.Rows.len_tuple (s := ⟨h, gn, dr, tk, os⟩) ht (by rw [List.size_toArray]; (first | lia | omega)) ?_
  simpa using q
theorem r_llen {a : Addr} {vs : List Value} {n : Nat} {Q : Value → Shared → Prop} (S : St hB g L m I Mu h) (hl : At I Mu a (lstO vs n)) (hz : vs.length ≤ 1000000) (q : Q (.int vs.length (tk + 1)) ⟨h, gn, dr, tk + 1 + 1, os⟩) : wpAny (model prog w) A (call (.builtin "len") [.ref a]) Q E ⟨h, gn, dr, tk, os⟩ := by
  refine call_len_list (s := ⟨h, gn, dr, tk, os⟩) (isL S hl) (by rw [List.size_toArray]; (first | lia | omega)) ?_
  simpa using q
theorem r_tlen {a : Addr} {vs : List Value} {Q : Value → Shared → Prop} (S : St hB g L m I Mu h) (hl : At I Mu a (tupO vs)) (hz : vs.length ≤ 1000000) (q : Q (.int vs.length (tk + 1)) ⟨h, gn, dr, tk + 1 + 1, os⟩) : wpAny (model prog w) A (call (.builtin "len") [.ref a]) Q E ⟨h, gn, dr, tk, os⟩ := by
  refine PyProof.Rows.len_tuple (s := ⟨h, gn, dr, tk, os⟩) (isT S hl) (by rw [List.size_toArray]; (first | lia | omega)) ?_
  simpa using q
end
section
variable {M : Model} {A : Around} {E : Value → Shared → Prop} {rest : List Stmt} {env : Env} {Q R : Flow → Shared → Prop} {s : Shared} {st : Stmt}
/-- R, an end that is not spelled out, is had from what comes behind: so the terms of a walk stay small -/
noncomputable def Hid (M : Model) (A : Around) (E : Value → Shared → Prop) (rest : List Stmt) (env : Env) (Q R : Flow → Shared → Prop) : Prop :=
  (∀ s', wpAny M A (execs rest env) Q E s' → R .next s') ∧ ∀ f s', f ≠ .next → Q f s' → R f s'
theorem Hid.nx (h : Hid M A E rest env Q R) (q : wpAny M A (execs rest env) Q E s) : R .next s := h.1 _ q
theorem Hid.re {v : Value} (h : Hid M A E rest env Q R) (q : Q (.ret v) s) : R (.ret v) s := h.2 _ _ nofun q
theorem Hid.br (h : Hid M A E rest env Q R) (q : Q .brk s) : R .brk s := h.2 _ _ nofun q
theorem Hid.co (h : Hid M A E rest env Q R) (q : Q .cont s) : R .cont s := h.2 _ _ nofun q
noncomputable def HidV {α : Type} (Q R : α → Shared → Prop) : Prop := ∀ v s, Q v s → R v s
theorem HidV.on {α : Type} {Q R : α → Shared → Prop} {v : α} {s : Shared} (h : HidV Q R) (q : Q v s) : R v s := h _ _ q
theorem r_hide {α : Type} {t : Sem α} {Q : α → Shared → Prop} (h : ∀ R, HidV Q R → wpAny M A t R E s) : wpAny M A t Q E s := h _ fun _ _ x => x
theorem r_turn {α : Type} {t : Sem α} {T : Flow → Shared → Prop} {body : List Stmt} (h : ∀ R, HidV T R → wpAny M A t (fun _ s₂ => wpAny M A (execs body env) R E s₂) E s) : wpAny M A t (fun _ s₂ => wpAny M A (execs body env) T E s₂) E s := h _ fun _ _ x => x
theorem r_cons (h : ∀ R, Hid M A E rest env Q R → wpAny M A (exec st env) R E s) : wpAny M A (execs (st :: rest) env) Q E s :=
  wpAny_execs_cons (h _ ⟨fun _ x => x, fun f _ hf x => by cases f <;> first | exact absurd rfl hf | exact x⟩)
end
end
section
/-- data that are never changed -/
inductive D where
  | none
  | int (i : Int)
  | str (s : Str)
  | tup (l : List D)
  | lst (l : List D)
mutual
inductive Is (I : PM) : Value → D → Prop
  | none : Is I .none .none
  | int (i : Int) (t : Tok) : Is I (.int i t) (.int i)
  | str (s : Str) (t : Tok) : Is I (.str s t) (.str s)
  | tup {a : Addr} {vs : List Value} {ds : List D} : I a = some (tupO vs) → IsAll I vs ds → Is I (.ref a) (.tup ds)
  | lst {a : Addr} {vs : List Value} {n : Nat} {ds : List D} : I a = some (lstO vs n) → IsAll I vs ds → Is I (.ref a) (.lst ds)
inductive IsAll (I : PM) : List Value → List D → Prop
  | nil : IsAll I [] []
  | cons {v : Value} {vs : List Value} {d : D} {ds : List D} : Is I v d → IsAll I vs ds → IsAll I (v :: vs) (d :: ds)
end
mutual
theorem Is.mono {I J : PM} (h : I.le J) : ∀ {v : Value} {d : D}, Is I v d → Is J v d
  | _, _, .none => .none
  | _, _, .int i t => .int i t
  | _, _, .str s t => .str s t
  | _, _, .tup e r => .tup (h _ _ e) (IsAll.mono h r)
  | _, _, .lst e r => .lst (h _ _ e) (IsAll.mono h r)
theorem IsAll.mono {I J : PM} (h : I.le J) : ∀ {vs : List Value} {ds : List D}, IsAll I vs ds → IsAll J vs ds
  | _, _, .nil => .nil
  | _, _, .cons a r => .cons (Is.mono h a) (IsAll.mono h r)
end
theorem Is.tupInv {I : PM} {v : Value} {ds : List D} (h : Is I v (.tup ds)) : ∃ a vs, v = .ref a ∧ I a = some (tupO vs) ∧ IsAll I vs ds := by
  cases h with | tup e r => exact ⟨_, _, rfl, e, r⟩
theorem Is.lstInv {I : PM} {v : Value} {ds : List D} (h : Is I v (.lst ds)) : ∃ a vs n, v = .ref a ∧ I a = some (lstO vs n) ∧ IsAll I vs ds := by
  cases h with | lst e r => exact ⟨_, _, _, rfl, e, r⟩
theorem Is.intInv {I : PM} {v : Value} {i : Int} (h : Is I v (.int i)) : ∃ t, v = .int i t := by
  cases h; exact ⟨_, rfl⟩
theorem IsAll.consInv {I : PM} {vs : List Value} {d : D} {ds : List D} (h : IsAll I vs (d :: ds)) : ∃ v vs', vs = v :: vs' ∧ Is I v d ∧ IsAll I vs' ds := by
  cases h with | cons a r => exact ⟨_, _, rfl, a, r⟩
theorem IsAll.nilInv {I : PM} {vs : List Value} (h : IsAll I vs []) : vs = [] := by
  cases h; rfl
theorem IsAll.length {I : PM} : ∀ {vs : List Value} {ds : List D}, IsAll I vs ds → vs.length = ds.length
  | _, _, .nil => rfl
  | _, _, .cons _ r => congrArg (· + 1) r.length
theorem IsAll.snoc {I : PM} : ∀ {vs : List Value} {ds : List D} {v : Value} {d : D}, IsAll I vs ds → Is I v d → IsAll I (vs ++ [v]) (ds ++ [d])
  | _, _, _, _, .nil, h => .cons h .nil
  | _, _, _, _, .cons a r, h => .cons a (r.snoc h)
theorem IsAll.at {I : PM} : ∀ {vs : List Value} {ds : List D} {k : Nat} {v : Value}, IsAll I vs ds → vs[k]? = some v → ∃ d, ds[k]? = some d ∧ Is I v d
  | _, _, 0, _, .cons a _, e => by cases e; exact ⟨_, rfl, a⟩
  | _, _, k + 1, _, .cons _ r, e => by simpa using r.at (k := k) (by simpa using e)
section
variable {prog : Program} {w : World} {A : Around} {E : Value → Shared → Prop} {h : Heap} {gn : Array GenState} {dr : Drawn} {tk : Nat} {os : OsState} {env : Env} {K : Frag} {p : Program} {loose : List Str} {mean : ExcName → Option Value} {mg mb : Str → Option Value} {hB : Heap} {g : PM} {L : Addr} {m : Str → Option Value} {I Mu : PM}
  {ns : List (Str × NameKind)} {cl : List (Str × Addr)} {x : Str} {pos : Pos} {v : Value}
theorem St.extBut {h' : Heap} (S : St hB g L m I Mu h) (he : Heap.ExtBut h.objs.size h h') : St hB g L m I Mu h' := S.keeps fun b o e => he b o (Nat.ne_of_lt (Heap.lt_size e)) e
theorem r_unpackItems {t : Addr} {vs : List Value} {n : Nat} {Q : List Value → Shared → Prop} (S : St hB g L m I Mu h) (hh : A.handled = none) (ht : IsTup h t vs.toArray) (hn : vs.length = n) (q : ∀ h', St hB g L m I Mu h' → Q vs ⟨h', gn, dr, tk, os⟩) :
    wpAny (model prog w) A (unpackItems (.ref t) n none) Q E ⟨h, gn, dr, tk, os⟩ := by
  subst hn
  have := unpackItems_tuple (prog := prog) (w := w) (E := E) (s := ⟨h, gn, dr, tk, os⟩) (Q := Q) hh ht (fun h' he => by simpa using q h' (S.extBut he))
  simpa using this
theorem r_asgTup {elts : List Expr} {k : Nat} {t : Addr} {vs : List Value} {Q : Unit → Shared → Prop} (S : St hB g L m I Mu h) (hh : A.handled = none) (ht : IsTup h t vs.toArray) (hn : (assignEach elts env).length = vs.length) (hstar : (assignEach elts env).findIdx? (·.1) = none)
    (q : ∀ h', St hB g L m I Mu h' → wpAny (model prog w) A (assignInOrder ((assignEach elts env).map (·.2)) vs) Q E ⟨h', gn, dr, tk, os⟩) :
    wpAny (model prog w) A (assign (.Tuple elts k pos) env (.ref t)) Q E ⟨h, gn, dr, tk, os⟩ :=
  assign_Tuple_tuple (s := ⟨h, gn, dr, tk, os⟩) hh ht (by rw [hn, List.size_toArray]) hstar fun h' he => by simpa using q h' (S.extBut he)
theorem r_inOrdN {M : Model} {s : Shared} {elts : List Expr} {vs : List Value} {Q : Unit → Shared → Prop} {y : Str} {py : Pos} (q : wpAny M A (storeName env y v) (fun _ s₁ => wpAny M A (assignInOrder ((assignEach elts env).map (·.2)) vs) Q E s₁) E s)
    (he : assignEach (.Name y py :: elts) env = (false, assign (.Name y py) env) :: assignEach elts env) : wpAny M A (assignInOrder ((assignEach (.Name y py :: elts) env).map (·.2)) (v :: vs)) Q E s := by
  rw [he]
  exact assignInOrder_cons (assign_Name q)
theorem r_inOrdE {M : Model} {s : Shared} {Q : Unit → Shared → Prop} (q : Q () s) : wpAny M A (assignInOrder ((assignEach [] env).map (·.2)) []) Q E s := assignInOrder_nil q
theorem r_inOrdB {M : Model} {s : Shared} {y : Str} {ys : List Str} {vs : List Value} {Q : Unit → Shared → Prop} (q : wpAny M A (storeName env y v) (fun _ s₁ => wpAny M A (assignInOrder (ys.map fun n => bindName env n) vs) Q E s₁) E s) :
    wpAny M A (assignInOrder ((y :: ys).map fun n => bindName env n) (v :: vs)) Q E s := assignInOrder_cons (bindName_ q)
theorem r_inOrdBN {M : Model} {s : Shared} {Q : Unit → Shared → Prop} (q : Q () s) : wpAny M A (assignInOrder (([] : List Str).map fun n => bindName env n) []) Q E s := assignInOrder_nil q
-- strs
theorem r_addS {a b : Str} {t u : Tok} {Q : Value → Shared → Prop} (hz : a.length + b.length ≤ 1000000) (q : ∀ t' tk', Q (.str (a ++ b) t') ⟨h, gn, dr, tk', os⟩) : wpAny (model prog w) A (binaryOp .Add (.str a t) (.str b u)) Q E ⟨h, gn, dr, tk, os⟩ :=
  PyProof.Rows.add_str (s := ⟨h, gn, dr, tk, os⟩) (hsz := by rw [sizeLine_eq]; (first | lia | omega)) fun t' tk' => q t' tk'
theorem r_din {d : Addr} {o : Obj} {kvs : List (Str × Value)} {k : Str} {t : Tok} {Q : Value → Shared → Prop} (S : St hB g L m I Mu h) (hm : At I Mu d o) (ho : o.IsDictOf (strKind prog w) kvs) (lo : (d == sysModules) = false) (q : Q (.bool (valueAt kvs k).isSome) ⟨h, gn, dr, tk + 1, os⟩) :
    wpAny (model prog w) A (compareOp .In (.str k t) (.ref d)) Q E ⟨h, gn, dr, tk, os⟩ := wpAny_in_of (s := ⟨h, gn, dr, tk, os⟩) (strKind_is prog w k t) lo (Heap.dictOf_iff.mpr ⟨o, At.get S hm, ho⟩ : h.DictOf (strKind prog w) d kvs).mapOf q
theorem St.notSys (S : St hB g L m I Mu h) (B : Base K p loose mean mg mb hB) {a : Addr} {o : Obj} (q : At I Mu a o) : (a == sysModules) = false :=
  beq_eq_false_iff_ne.mpr fun e => absurd (S.hi a o q) (Nat.not_le_of_lt (e ▸ modules_low B.t.nolimit))
end
end
section
section
variable {hB h h' : Heap} {g : PM} {L it : Addr} {m m' : Str → Option Value} {I Mu : PM}
/-- what changes but one object that stands nowhere -/
theorem St.but (S : St hB g L m I Mu h) (hL : it ≠ L) (hg : g it = none) (hI : I it = none) (hM : Mu it = none) (hk : ∀ b o, b ≠ it → h.get? b = some o → h'.get? b = some o) : St hB g L m I Mu h' := by
  have off : ∀ {H : PM} {b : Addr} {o : Obj}, H it = none → H b = some o → b ≠ it := fun h0 e q => by rw [q, h0] at e; cases e
  obtain ⟨o, es, ep, ho, r⟩ := S.ns
  exact ⟨⟨o, es, ep, hk _ _ (Ne.symm hL) ho, r⟩, fun b o e => hk b o (off hg e) (S.keep b o e), S.low, S.base, S.off, fun a o e => ⟨hk _ _ (off hI e) (S.imm a o e).1, (S.imm a o e).2⟩, fun a o e => ⟨hk _ _ (off hM e) (S.chg a o e).1, (S.chg a o e).2⟩, S.dis, S.hi⟩
/-- from one of the changeable ones to the kept ones -/
theorem St.toG (S : St hB g L m I Mu h) {a : Addr} {o : Obj} (ha : Mu a = some o) : St hB (g.upd a o) L m I (Mu.del a) h := by
  have hA := S.chg a o ha
  have hI : I a = none := by
    cases e : I a with
    | none => rfl
    | some x => rw [S.dis _ _ e] at ha; cases ha
  exact (S.less (Mu' := Mu.del a) fun b x e => by
    by_cases hb : b = a
    · subst hb; rw [PM.del_self] at e; cases e
    · rwa [PM.del_ne _ hb] at e).addG hA.1 hI (PM.del_self _ _) hA.2.1 hA.2.2
/-- all that stands nowhere else, as news -/
noncomputable def newsOf (hB : Heap) (L : Addr) (h : Heap) (skip : Addr) : List (Addr × Obj) :=
  (List.range h.objs.size).filterMap fun a => if a = L ∨ a = skip ∨ (hB.get? a).isSome then none else (h.get? a).map fun o => (a, o)
theorem mem_newsOf {hB h : Heap} {L skip a : Addr} {o : Obj} : (a, o) ∈ newsOf hB L h skip ↔ h.get? a = some o ∧ a ≠ L ∧ a ≠ skip ∧ hB.get? a = none := by
  unfold newsOf
  simp only [List.mem_filterMap, List.mem_range]
  constructor
  · rintro ⟨b, hb, e⟩
    split at e
    · cases e
    · rename_i hn
      obtain ⟨o', ho', e'⟩ := Option.map_eq_some_iff.mp e
      cases e'
      refine ⟨ho', fun q => hn (.inl q), fun q => hn (.inr (.inl q)), ?_⟩
      cases q : hB.get? a with
      | none => rfl
      | some x => exact absurd (.inr (.inr (by rw [q]; rfl))) hn
  · rintro ⟨e, h1, h2, h3⟩
    refine ⟨a, Heap.lt_size e, ?_⟩
    rw [if_neg (by rintro (q | q | q); exact h1 q; exact h2 q; rw [h3] at q; cases q), e]; rfl
/-- a changeable object and all else as news -/
theorem St.via (S : St hB g L m I Mu h) {a : Addr} {o : Obj} (ha : Mu a = some o) :
    ∃ post, News hB L h ((a, o) :: post) ∧ (∀ q ∈ post, q.1 ≠ a) ∧ ∀ o' h', Fr hB L h' m → News hB L h' ((a, o') :: post) → St hB g L m I (Mu.upd a o') h' := by
  refine ⟨newsOf hB L h a, fun q hq => ?_, fun q hq => (mem_newsOf.mp hq).2.2.1, fun o' h' F' N' => ?_⟩
  · rcases List.mem_cons.mp hq with rfl | hq
    · exact ⟨(S.chg _ _ ha).1, (S.chg _ _ ha).2.1, S.new_off (S.chg _ _ ha).2.2⟩
    · have z := mem_newsOf (a := q.1) (o := q.2).mp hq; exact ⟨z.1, z.2.1, z.2.2.2⟩
  · have hI : I a = none := by
      cases e : I a with
      | none => rfl
      | some x => rw [S.dis _ _ e] at ha; cases ha
    have k : ∀ b x, b ≠ a → b ≠ L → h.get? b = some x → h'.get? b = some x := fun b x n1 n2 e => by
      cases q : hB.get? b with
      | some y => rw [S.keep b y (S.base b y q)] at e; cases e; exact F'.keep b _ q
      | none => exact (N' (b, x) (.tail _ (mem_newsOf.mpr ⟨e, n2, n1, q⟩))).1
    refine ⟨F'.ns, fun b x e => k b x (fun q => by rw [q, (S.chg _ _ ha).2.2] at e; cases e) (fun q => by rw [q, S.off] at e; cases e) (S.keep b x e), S.low, S.base, S.off,
      fun b x e => ⟨k b x (fun q => by rw [q, hI] at e; cases e) (S.imm b x e).2.1 (S.imm b x e).1, (S.imm b x e).2⟩, fun b x e => ?_, fun b x e => ?_, fun b x e => ?_⟩
    · by_cases hb : b = a
      · subst hb; rw [PM.upd_self] at e; cases e; exact ⟨(N' _ (.head _)).1, (S.chg _ _ ha).2⟩
      · rw [PM.upd_ne _ _ hb] at e; exact ⟨k b x hb (S.chg b x e).2.1 (S.chg b x e).1, (S.chg b x e).2⟩
    · by_cases hb : b = a
      · subst hb; rw [hI] at e; cases e
      · rw [PM.upd_ne _ _ hb]; exact S.dis _ _ e
    · by_cases hb : b = a
      · subst hb; exact S.hi _ _ (.inr ha)
      · rw [PM.upd_ne _ _ hb] at e; exact S.hi _ _ e
/-- no change: only new objects -/
theorem St.viaNew (S : St hB g L m I Mu h) : ∃ post, News hB L h post ∧ ∀ h', Fr hB L h' m → News hB L h' post → St hB g L m I Mu h' := by
  refine ⟨newsOf hB L h L, fun q hq => ?_, fun h' F' N' => ?_⟩
  · have z := mem_newsOf (a := q.1) (o := q.2).mp hq; exact ⟨z.1, z.2.1, z.2.2.2⟩
  · have k : ∀ b x, b ≠ L → h.get? b = some x → h'.get? b = some x := fun b x n2 e => by
      cases q : hB.get? b with
      | some y => rw [S.keep b y (S.base b y q)] at e; cases e; exact F'.keep b _ q
      | none => exact (N' (b, x) (mem_newsOf.mpr ⟨e, n2, n2, q⟩)).1
    exact ⟨F'.ns, fun b x e => k b x (fun q => by rw [q, S.off] at e; cases e) (S.keep b x e), S.low, S.base, S.off, fun b x e => ⟨k b x (S.imm b x e).2.1 (S.imm b x e).1, (S.imm b x e).2⟩, fun b x e => ⟨k b x (S.chg b x e).2.1 (S.chg b x e).1, (S.chg b x e).2⟩, S.dis, S.hi⟩
end
section
variable {prog : Program} {w : World} {A : Around} {E : Value → Shared → Prop} {h : Heap} {gn : Array GenState} {dr : Drawn} {tk : Nat} {os : OsState} {env : Env} {K : Frag} {p : Program} {loose : List Str} {mean : ExcName → Option Value} {mg mb : Str → Option Value} {hB : Heap} {g : PM} {L : Addr} {m : Str → Option Value} {I Mu : PM}
  {ns : List (Str × NameKind)} {cl : List (Str × Addr)} {x : Str} {pos : Pos} {v : Value}
theorem kl_snoc : ∀ (vs : List Value) (v : Value), kl_last (vs ++ [v]) = some (vs, v)
  | [], _ => rfl
  | a :: r, v => by
    show (match kl_last (r ++ [v]) with | some (p, y) => some (a :: p, y) | none => some ([], a)) = _
    rw [kl_snoc r v]
-- methods of lists and dicts
theorem r_listMeth {name : Str} {id : String} {pl : Sem Bool} {a : Addr} {vs : List Value} {n : Nat} {Q : Value × List Value → Shared → Prop} (S : St hB g L m I Mu h) (hm : At I Mu a (lstO vs n)) (slot : Slot "list" name id) (hty : typeOf (.builtin id) = pure (.type "method_descriptor"))
    (q : Q (.builtin id, [.ref a]) ⟨h, gn, dr, tk, os⟩) : wpAny (model prog w) A (getMethod (.ref a) name pl) Q E ⟨h, gn, dr, tk, os⟩ :=
  getMethod_builtin (s := ⟨h, gn, dr, tk, os⟩) ⟨_, At.get S hm, rfl⟩ PySem.F.plainAttrs_list slot hty (fun b e => by cases e; exact ⟨_, At.get S hm, rfl⟩) q
theorem r_dictMeth {name : Str} {id : String} {pl : Sem Bool} {a : Addr} {o : Obj} {kvs : List (Str × Value)} {Q : Value × List Value → Shared → Prop} (S : St hB g L m I Mu h) (hm : At I Mu a o) (ho : o.IsDictOf (strKind prog w) kvs) (slot : Slot "dict" name id) (hty : typeOf (.builtin id) = pure (.type "method_descriptor"))
    (q : Q (.builtin id, [.ref a]) ⟨h, gn, dr, tk, os⟩) : wpAny (model prog w) A (getMethod (.ref a) name pl) Q E ⟨h, gn, dr, tk, os⟩ :=
  have hd := (Heap.dictOf_iff.mpr ⟨o, At.get S hm, ho⟩ : h.DictOf (strKind prog w) a kvs)
  getMethod_builtin (s := ⟨h, gn, dr, tk, os⟩) hd.typeIs PySem.F.plainAttrs_dict slot hty hd.mapOf.noDict q
theorem r_append {a : Addr} {vs : List Value} {n : Nat} {Q : Value → Shared → Prop} (S : St hB g L m I Mu h) (hm : Mu a = some (lstO vs n)) (hz : vs.length ≤ 1000000)
    (q : ∀ h' n', St hB g L m I (Mu.upd a (lstO (vs ++ [v]) n')) h' → Q .none ⟨h', gn, dr, tk, os⟩) : wpAny (model prog w) A (call (.builtin "list.append") [.ref a, v]) Q E ⟨h, gn, dr, tk, os⟩ := by
  refine wpAny_list_append_plain (s := ⟨h, gn, dr, tk, os⟩) (items := vs.toArray) ⟨n, (S.chg _ _ hm).1⟩ (fun h' hl hs => ?_) (by rw [List.size_toArray, sizeLine_eq]; (first | lia | omega))
  obtain ⟨n', e⟩ := hl
  refine q h' n' (S.change hm hs ?_)
  rw [e]; simp
theorem r_pop {a : Addr} {vs : List Value} {n : Nat} {Q : Value → Shared → Prop} (S : St hB g L m I Mu h) (hm : Mu a = some (lstO (vs ++ [v]) n)) (hz : vs.length ≤ 1000000)
    (q : ∀ h' n', St hB g L m I (Mu.upd a (lstO vs n')) h' → Q v ⟨h', gn, dr, tk, os⟩) : wpAny (model prog w) A (call (.builtin "list.pop") [.ref a]) Q E ⟨h, gn, dr, tk, os⟩ := by
  obtain ⟨post, N, hp, back⟩ := S.via hm
  refine kl_pop (s := ⟨h, gn, dr, tk, os⟩) (its := (vs ++ [v]).toArray) (p := vs) (n := n) S.fr N ?_ (.head hp) (by rw [sizeLine_eq]; simp; (first | lia | omega)) fun h' F' N' => q h' (n + 1) (back _ h' F' N')
  exact kl_snoc vs v
theorem r_lneg {value slice : Expr} {a : Addr} {vs : List Value} {n : Nat} {u : Tok} {Q : Value → Shared → Prop} (S : St hB g L m I Mu h) (hl : At I Mu a (lstO (vs ++ [v]) n)) (hz : vs.length ≤ 1000000) (q : Q v ⟨h, gn, dr, tk, os⟩)
    (hs : subscripted slice false (.ref a) (.int (-1) u) = operate [.ref a, .int (-1) u] (getItem (.ref a) (.int (-1) u)) := by with_unfolding_all rfl) : wpAny (model prog w) A (subscriptTail value slice (.ref a) (.int (-1) u)) Q E ⟨h, gn, dr, tk, os⟩ :=
  tail_any (Heap.IsList.typeIs (s := ⟨h, gn, dr, tk, os⟩) (isL S hl)) slot_list_getitem.lookup (wpAny_getItem_list_neg (s := ⟨h, gn, dr, tk, os⟩) (isL S hl) (by decide) (by rw [List.size_toArray, List.length_append]; simp; (first | lia | omega)) (by decide) (by
    rw [List.size_toArray, List.length_append]
    simp only [List.length_cons, List.length_nil]
    rw [show ((-1 : Int) + ((vs.length + (0 + 1) : Nat) : Int)).toNat = vs.length by (first | lia | omega)]; simp) q) hs
theorem r_lsetneg {a : Addr} {vs : List Value} {v₀ : Value} {n : Nat} {u : Tok} {Q : Unit → Shared → Prop} (S : St hB g L m I Mu h) (hm : Mu a = some (lstO (vs ++ [v₀]) n)) (hz : vs.length ≤ 1000000)
    (q : ∀ h' n', St hB g L m I (Mu.upd a (lstO (vs ++ [v]) n')) h' → Q () ⟨h', gn, dr, tk, os⟩) : wpAny (model prog w) A (setItem (.ref a) (.int (-1) u) v) Q E ⟨h, gn, dr, tk, os⟩ := by
  refine ki_setBack (s := ⟨h, gn, dr, tk, os⟩) (items := (vs ++ [v₀]).toArray) (n := n) (S.chg _ _ hm).1 (by decide) (by rw [List.size_toArray, List.length_append]; simp; (first | lia | omega)) (by decide) ?_
  refine q _ n (S.change hm (Heap.SameBut.update ..) ?_)
  have z := PySem.IsL.update (n := n) (items := (vs ++ [v₀]).toArray) (S.chg _ _ hm).1 (fun x => x.setIfInBounds (-1 + ((vs ++ [v₀]).toArray.size : Int)).toNat v)
  refine z.trans ?_
  have e : (vs ++ [v₀]).toArray.setIfInBounds (-1 + ((vs ++ [v₀]).toArray.size : Int)).toNat v = (vs ++ [v]).toArray := by
    rw [List.size_toArray, List.length_append]
    simp only [List.length_cons, List.length_nil]
    rw [show ((-1 : Int) + ((vs.length + (0 + 1) : Nat) : Int)).toNat = vs.length by (first | lia | omega)]
    simp
  rw [e]; simp
theorem r_get2 {d : Addr} {o : Obj} {kvs : List (Str × Value)} {k : Str} {t : Tok} {dv : Value} {Q : Value → Shared → Prop} (B : Base K p loose mean mg mb hB) (S : St hB g L m I Mu h) (hm : At I Mu d o) (ho : o.IsDictOf (strKind prog w) kvs)
    (q : Q ((valueAt kvs k).getD dv) ⟨h, gn, dr, tk + 1, os⟩) : wpAny (model prog w) A (call (.builtin "dict.get") [.ref d, .str k t, dv]) Q E ⟨h, gn, dr, tk, os⟩ :=
  have hd := (Heap.dictOf_iff.mpr ⟨o, At.get S hm, ho⟩ : h.DictOf (strKind prog w) d kvs)
  call_meetsIn (s := ⟨h, gn, dr, tk, os⟩) PySem.F.slot_dict_get hd.typeIs PySem.F.entry_dict_get (PySem.F.args_dict_get_3 _ _ _) (meets_dict_get_default (strKind prog w) d (strKind_is prog w k t) (S.notSys B hm) dv) ⟨_, hd.mapOf, q⟩
theorem r_update {d e : Addr} {o o₂ : Obj} {kvs more : List (Str × Value)} {Q : Value → Shared → Prop} (B : Base K p loose mean mg mb hB) (S : St hB g L m I Mu h) (hm : Mu d = some o) (ho : o.IsDictOf (strKind prog w) kvs) (hm₂ : At I Mu e o₂) (ho₂ : o₂.IsDictOf (strKind prog w) more) (hne : d ≠ e) (hz : kvs.length + more.length ≤ 1000000)
    (q : ∀ h' o', St hB g L m I (Mu.upd d o') h' → o'.IsDictOf (strKind prog w) (merged kvs more) → Q .none ⟨h', gn, dr, tk, os⟩) : wpAny (model prog w) A (call (.builtin "dict.update") [.ref d, .ref e]) Q E ⟨h, gn, dr, tk, os⟩ := by
  have hd := (Heap.dictOf_iff.mpr ⟨o, (S.chg _ _ hm).1, ho⟩ : h.DictOf (strKind prog w) d kvs)
  have hd₂ := (Heap.dictOf_iff.mpr ⟨o₂, At.get S hm₂, ho₂⟩ : h.DictOf (strKind prog w) e more)
  refine call_meetsIn (s := ⟨h, gn, dr, tk, os⟩) PySem.F.slot_dict_update hd.typeIs PySem.F.entry_dict_update (PySem.F.args_dict_update_2 _ _) (meets_dict_update (strKind prog w) d e hne (S.notSys B hm₂)) ⟨kvs, more, hd, hd₂, by rw [sizeLine_eq]; (first | lia | omega), fun h' x _ hs => ?_⟩
  obtain ⟨o', ho', hi⟩ := Heap.dictOf_iff.mp x
  exact q h' o' (S.change hm hs ho') hi
end
end
section
section
variable {prog : Program} {w : World} {A : Around} {E : Value → Shared → Prop} {h : Heap} {gn : Array GenState} {dr : Drawn} {tk : Nat} {os : OsState} {env : Env} {K : Frag} {p : Program} {loose : List Str} {mean : ExcName → Option Value} {mg mb : Str → Option Value} {hB : Heap} {g : PM} {L : Addr} {m : Str → Option Value} {I Mu : PM}
  {ns : List (Str × NameKind)} {cl : List (Str × Addr)} {x : Str} {pos : Pos} {v : Value}
theorem St.freshN (_S : St hB g L m I Mu h) : h.get? h.objs.size = none := by
  cases e : h.get? h.objs.size with
  | none => rfl
  | some o => exact absurd (Heap.lt_size e) (Nat.lt_irrefl _)
theorem PM.none_of {g : PM} {I : PM} {a : Addr} (hk : ∀ b o, I b = some o → g b = none) {o : Obj} (e : g a = some o) : I a = none := by
  cases q : I a with
  | none => rfl
  | some x => rw [hk _ _ q] at e; cases e
theorem St.offG (S : St hB g L m I Mu h) {a : Addr} {o : Obj} (e : g a = some o) : I a = none ∧ Mu a = none ∧ a ≠ L :=
  ⟨PM.none_of (fun b o e => (S.imm b o e).2.2) e, PM.none_of (fun b o e => (S.chg b o e).2.2) e, fun q => by rw [q, S.off] at e; cases e⟩
/-- the outcome of a turn -/
noncomputable def Turn (hB : Heap) (g : PM) (L : Addr) (I : PM) (J Br : (Str → Option Value) → PM → PM → Prop) (Rt : Value → (Str → Option Value) → PM → PM → Prop) (gn : Array GenState) (dr : Drawn) (os : OsState) (f : Flow) (s : Shared) : Prop :=
  ∃ m' I' Mu' h' tk', s = ⟨h', gn, dr, tk', os⟩ ∧ St hB g L m' I' Mu' h' ∧ I.le I' ∧ match f with | .next | .cont => J m' I' Mu' | .brk => Br m' I' Mu' | .ret v => Rt v m' I' Mu'
theorem Turn.next {J Br : (Str → Option Value) → PM → PM → Prop} {Rt : Value → (Str → Option Value) → PM → PM → Prop} {m' : Str → Option Value} {I' Mu' : PM} {h' : Heap} {tk' : Nat} (S : St hB g L m' I' Mu' h') (hl : I.le I') (j : J m' I' Mu') : Turn hB g L I J Br Rt gn dr os .next ⟨h', gn, dr, tk', os⟩ := ⟨_, _, _, _, _, rfl, S, hl, j⟩
theorem Turn.brk {J Br : (Str → Option Value) → PM → PM → Prop} {Rt : Value → (Str → Option Value) → PM → PM → Prop} {m' : Str → Option Value} {I' Mu' : PM} {h' : Heap} {tk' : Nat} (S : St hB g L m' I' Mu' h') (hl : I.le I') (j : Br m' I' Mu') : Turn hB g L I J Br Rt gn dr os .brk ⟨h', gn, dr, tk', os⟩ := ⟨_, _, _, _, _, rfl, S, hl, j⟩
theorem Turn.ret {J Br : (Str → Option Value) → PM → PM → Prop} {Rt : Value → (Str → Option Value) → PM → PM → Prop} {m' : Str → Option Value} {I' Mu' : PM} {h' : Heap} {tk' : Nat} {v : Value} (S : St hB g L m' I' Mu' h') (hl : I.le I') (j : Rt v m' I' Mu') : Turn hB g L I J Br Rt gn dr os (.ret v) ⟨h', gn, dr, tk', os⟩ := ⟨_, _, _, _, _, rfl, S, hl, j⟩
theorem r_forW {target : Expr} {body : List Stmt} {Q : Flow → Shared → Prop} {fp wr : List Addr} {n : Nat} {P : Nat → Value → Prop} {Sw : Nat → Heap → Prop} {oit : Obj}
    (S : St hB g L m I Mu h) (W : Walks prog w A h.objs.size fp wr n P Sw) (hwr : ∀ b ∈ wr, b = h.objs.size) (hfp : ∀ b ∈ fp, b = h.objs.size ∨ ∃ o, I b = some o)
    (h0 : Sw 0 (h.push oit)) (hex : ∀ i h', Sw i h' → ∃ o, h'.get? h.objs.size = some o)
    (hgo : ∀ i v (s : Shared) (Q' : Unit → Shared → Prop) (E' : Value → Shared → Prop), P i v → Sw (i + 1) s.heap → Q' () s → wpAny (model prog w) A (letOwnedTupleGo target (.ref h.objs.size) v) Q' E' s)
    (J : Nat → (Str → Option Value) → PM → PM → Prop) (Br : (Str → Option Value) → PM → PM → Prop) (Rt : Value → (Str → Option Value) → PM → PM → Prop) (J0 : J 0 m I Mu)
    (step : ∀ i v m₁ I₁ Mu₁ g₁ h₁ tk₁ (E' : Value → Shared → Prop), i < n → P i v → J i m₁ I₁ Mu₁ → I.le I₁ → g.le g₁ → St hB g₁ L m₁ I₁ Mu₁ h₁ →
      wpAny (model prog w) A (assign target env v) (fun _ s₂ => wpAny (model prog w) A (execs body env) (Turn hB g₁ L I₁ (J (i + 1)) Br Rt gn dr os) E' s₂) E' ⟨h₁, gn, dr, tk₁, os⟩)
    (done : ∀ m' I' Mu' h' tk', J n m' I' Mu' ∨ Br m' I' Mu' → I.le I' → St hB g L m' I' Mu' h' → Q .next ⟨h', gn, dr, tk', os⟩)
    (ret : ∀ v m' I' Mu' h' tk', Rt v m' I' Mu' → I.le I' → St hB g L m' I' Mu' h' → Q (.ret v) ⟨h', gn, dr, tk', os⟩) :
    codeAny (model prog w) A (.forLoop target (.ref h.objs.size) body [] env) (fun r s' => match r with | .ok f => Q f s' | .error e => cameBackBy (model prog w) A env E e s') ⟨h.push oit, gn, dr, tk, os⟩ := by
  generalize hit : h.objs.size = it at *
  have hf := S.fresh
  rw [hit] at hf
  refine codeAny_forLoop_any
    (fun k s' => ∀ G : Prop, (∀ h' tk' m' I' Mu' i, s' = ⟨h', gn, dr, tk', os⟩ → Sw i h' → St hB g L m' I' Mu' h' → I' it = none → Mu' it = none → J i m' I' Mu' → I.le I' → i ≤ n → k = n + 1 - i → G) → G) ?_ (n + 1)
    (fun _ q => q _ _ m I Mu 0 rfl h0 (S.push oit) hf.1 hf.2.1 J0 (PM.le_refl _) (Nat.zero_le _) rfl)
  rintro k s' hInv; refine hInv _ ?_; clear hInv; rintro h' tk' m' I' Mu' i rfl hsw S' hI' hM' hJ hle hi rfl
  by_cases hlt : i < n
  · refine W.item i _ _ _ hlt hsw fun v h₁ tk₁ hP hsw₁ hk₁ => ?_
    have S₁ := S'.but (it := it) hf.2.2.1 hf.2.2.2 hI' hM' fun b o hb e => hk₁ b o (fun q => hb (hwr b q)) e
    refine hgo i v _ _ _ hP hsw₁ ?_
    obtain ⟨o₁, ho₁⟩ := hex _ _ hsw₁
    have S₂ := S₁.addG ho₁ hI' hM' hf.2.2.1 hf.2.2.2
    refine wpAny_mono (step i v m' I' Mu' _ h₁ tk₁ _ hlt hP hJ hle (PM.le_upd hf.2.2.2) S₂) (fun _ s₂ h₂ => wpAny_mono h₂ (fun f s₃ h₃ => ?_) fun _ _ e => e) fun _ _ e => e
    obtain ⟨m₃, I₃, Mu₃, h₃, tk₃, rfl, S₃, hl₃, hf₃⟩ := h₃
    have S₄ := S₃.lessG (PM.le_upd hf.2.2.2) S.base
    have z := S₃.offG (PM.upd_self g it o₁)
    have nx : J (i + 1) m₃ I₃ Mu₃ → ∃ m, m < n + 1 - i ∧ ∀ G : Prop, (∀ h' tk' m' I' Mu' i, (⟨h₃, gn, dr, tk₃, os⟩ : Shared) = ⟨h', gn, dr, tk', os⟩ → Sw i h' → St hB g L m' I' Mu' h' → I' it = none → Mu' it = none → J i m' I' Mu' → I.le I' → i ≤ n → m = n + 1 - i → G) → G := fun j =>
      ⟨n + 1 - (i + 1), by (first | lia | omega), fun _ q => q h₃ tk₃ m₃ I₃ Mu₃ (i + 1) rfl (W.frame _ _ _ hsw₁ (fun b hb o e => by
        rcases hfp b hb with rfl | ⟨oo, q⟩
        · rw [ho₁] at e; cases e; exact S₃.keep _ _ (PM.upd_self _ _ _)
        · have q1 := hle _ _ q
          rw [(S₂.imm _ _ q1).1] at e; cases e
          exact (S₃.imm _ _ (hl₃ _ _ q1)).1)) S₄ z.1 z.2.1 j (PM.le_trans hle hl₃) hlt rfl⟩
    cases f with
    | next => exact nx hf₃
    | cont => exact nx hf₃
    | brk => exact done _ _ _ _ _ (.inr hf₃) (PM.le_trans hle hl₃) S₄
    | ret v => exact ret _ _ _ _ _ _ hf₃ (PM.le_trans hle hl₃) S₄
  · obtain rfl : i = n := by (first | lia | omega)
    refine W.done _ _ _ hsw fun h₁ tk₁ hk₁ => ?_
    have S₁ := S'.but (it := it) hf.2.2.1 hf.2.2.2 hI' hM' fun b o hb e => hk₁ b o (fun q => hb (hwr b q)) e
    exact wpAny_execs_nil (done _ _ _ _ _ (.inl hJ) hle S₁)
theorem hgo_name {A : Around} {y : Str} {py : Pos} {it v : Value} (s : Shared) (Q' : Unit → Shared → Prop) (E' : Value → Shared → Prop) (q : Q' () s) : wpAny (model prog w) A (letOwnedTupleGo (.Name y py) it v) Q' E' s := wpAny_pure q
theorem r_forList {target : Expr} {body : List Stmt} {Q : Flow → Shared → Prop} {a : Addr} {vs : List Value} {n : Nat} (hh : A.handled = none)
    (S : St hB g L m I Mu h) (hl : I a = some (lstO vs n))
    (hgo : ∀ it l i v (s : Shared) (Q' : Unit → Shared → Prop) (E' : Value → Shared → Prop), v ∈ vs → s.heap.IsListIter it l i → Q' () s → wpAny (model prog w) A (letOwnedTupleGo target (.ref it) v) Q' E' s)
    (J : Nat → (Str → Option Value) → PM → PM → Prop) (Br : (Str → Option Value) → PM → PM → Prop) (Rt : Value → (Str → Option Value) → PM → PM → Prop) (J0 : J 0 m I Mu)
    (step : ∀ i v m₁ I₁ Mu₁ g₁ h₁ tk₁ (E' : Value → Shared → Prop), vs[i]? = some v → J i m₁ I₁ Mu₁ → I.le I₁ → g.le g₁ → St hB g₁ L m₁ I₁ Mu₁ h₁ →
      wpAny (model prog w) A (assign target env v) (fun _ s₂ => wpAny (model prog w) A (execs body env) (Turn hB g₁ L I₁ (J (i + 1)) Br Rt gn dr os) E' s₂) E' ⟨h₁, gn, dr, tk₁, os⟩)
    (done : ∀ m' I' Mu' h' tk', J vs.length m' I' Mu' ∨ Br m' I' Mu' → I.le I' → St hB g L m' I' Mu' h' → Q .next ⟨h', gn, dr, tk', os⟩)
    (ret : ∀ v m' I' Mu' h' tk', Rt v m' I' Mu' → I.le I' → St hB g L m' I' Mu' h' → Q (.ret v) ⟨h', gn, dr, tk', os⟩) :
    wpAny (model prog w) A (pyIter (.ref a)) (fun it s₂ => codeAny (model prog w) A (.forLoop target it body [] env) (fun r s' => match r with | .ok f => Q f s' | .error e => cameBackBy (model prog w) A env E e s') s₂) E ⟨h, gn, dr, tk, os⟩ := by
  refine wpAny_pyIter_list (s := ⟨h, gn, dr, tk, os⟩) (isL S (.inI hl)) ?_
  have hne : a ≠ h.objs.size := fun q => by rw [q, S.fresh.1] at hl; cases hl
  refine r_forW (P := fun i v => vs.toArray[i]? = some v) S ((Walks.list hh h.objs.size a hne vs.toArray)) (by simp) (by rintro b hb; rcases List.mem_cons.mp hb with rfl | hb; exact .inl rfl; rw [List.mem_singleton.mp hb]; exact .inr ⟨_, hl⟩)
    ⟨⟨_, Heap.get?_push_size _ rfl, rfl, rfl⟩, (isL S (.inI hl)).push _⟩ (fun i h' z => ⟨_, z.1.choose_spec.1⟩) (fun i v s Q' E' hv hi q => hgo _ a _ v s Q' E' (by rw [List.getElem?_toArray] at hv; exact List.mem_of_getElem? hv) hi.1 q) J Br Rt J0 (fun i v m₁ I₁ Mu₁ g₁ h₁ tk₁ E' hi hv => step i v m₁ I₁ Mu₁ g₁ h₁ tk₁ E' (by simpa using hv)) (fun m' I' Mu' h' tk' hj => done m' I' Mu' h' tk' (by simpa using hj)) ret
theorem r_forRange {target : Expr} {body : List Stmt} {Q : Flow → Shared → Prop} {a : Addr} {c : Nat} {t t2 t3 : Tok} (hh : A.handled = none)
    (S : St hB g L m I Mu h) (hr : IsRange h a 0 c 1 t t2 t3) (hc : c < 1000000)
    (hgo : ∀ it v (s : Shared) (Q' : Unit → Shared → Prop) (E' : Value → Shared → Prop), Q' () s → wpAny (model prog w) A (letOwnedTupleGo target it v) Q' E' s)
    (J : Nat → (Str → Option Value) → PM → PM → Prop) (Br : (Str → Option Value) → PM → PM → Prop) (Rt : Value → (Str → Option Value) → PM → PM → Prop) (J0 : J 0 m I Mu)
    (step : ∀ i u m₁ I₁ Mu₁ g₁ h₁ tk₁ (E' : Value → Shared → Prop), i < c → J i m₁ I₁ Mu₁ → I.le I₁ → g.le g₁ → St hB g₁ L m₁ I₁ Mu₁ h₁ →
      wpAny (model prog w) A (assign target env (.int i u)) (fun _ s₂ => wpAny (model prog w) A (execs body env) (Turn hB g₁ L I₁ (J (i + 1)) Br Rt gn dr os) E' s₂) E' ⟨h₁, gn, dr, tk₁, os⟩)
    (done : ∀ m' I' Mu' h' tk', J c m' I' Mu' ∨ Br m' I' Mu' → I.le I' → St hB g L m' I' Mu' h' → Q .next ⟨h', gn, dr, tk', os⟩)
    (ret : ∀ v m' I' Mu' h' tk', Rt v m' I' Mu' → I.le I' → St hB g L m' I' Mu' h' → Q (.ret v) ⟨h', gn, dr, tk', os⟩) :
    wpAny (model prog w) A (pyIter (.ref a)) (fun it s₂ => codeAny (model prog w) A (.forLoop target it body [] env) (fun r s' => match r with | .ok f => Q f s' | .error e => cameBackBy (model prog w) A env E e s') s₂) E ⟨h, gn, dr, tk, os⟩ := by
  refine wpAny_pyIter_range (s := ⟨h, gn, dr, tk, os⟩) hr (small_one (by decide) (by decide) (by (first | lia | omega)) (by (first | lia | omega))) ?_
  have e : Builtin.Range.rangeSize 0 c 1 = (c : Int) := by unfold Builtin.Range.rangeSize; split <;> simp <;> (first | lia | omega)
  rw [e]
  refine r_forW S (Walks.range hh h.objs.size 0 1 c) (by simp) (by simp) (by simpa using Heap.get?_push_size _ rfl) (fun _ _ z => ⟨_, z⟩) (fun i v s Q' E' _ _ q => hgo _ v s Q' E' q) J Br Rt J0 (fun i v m₁ I₁ Mu₁ g₁ h₁ tk₁ E' hi hv => ?_) (fun m' I' Mu' h' tk' hj => done m' I' Mu' h' tk' hj) ret
  obtain ⟨u, rfl⟩ := hv
  have := step i u m₁ I₁ Mu₁ g₁ h₁ tk₁ E' hi
  simpa using this
theorem r_range1 {c : Int} {t : Tok} {Q : Value → Shared → Prop} (S : St hB g L m I Mu h)
    (q : ∀ a h' t1 t2 t3 tk', St hB g L m I Mu h' → IsRange h' a 0 c 1 t1 t2 t3 → Q (.ref a) ⟨h', gn, dr, tk', os⟩) : wpAny (model prog w) A (call (.type "range") [.int c t]) Q E ⟨h, gn, dr, tk, os⟩ :=
  call_range_1 (s := ⟨h, gn, dr, tk, os⟩) (q _ _ _ _ _ _ (S.push _) (Heap.get?_push_size _ rfl))
/-- the outcome of an element of a comprehension -/
noncomputable def EltOk (hB : Heap) (g : PM) (C : Addr) (I : PM) (J : Value → PM → PM → Prop) (gn : Array GenState) (dr : Drawn) (os : OsState) (y : Value) (s : Shared) : Prop :=
  ∃ m' I' Mu' h' tk', s = ⟨h', gn, dr, tk', os⟩ ∧ St hB g C m' I' Mu' h' ∧ I.le I' ∧ J y I' Mu'
theorem EltOk.intro {C : Addr} {J : Value → PM → PM → Prop} {m' : Str → Option Value} {I' Mu' : PM} {h' : Heap} {tk' : Nat} {y : Value} (S : St hB g C m' I' Mu' h') (hl : I.le I') (j : J y I' Mu') : EltOk hB g C I J gn dr os y ⟨h', gn, dr, tk', os⟩ := ⟨_, _, _, _, _, rfl, S, hl, j⟩
theorem r_compW {elt iter : Expr} {px : Pos} {scope : Scope} {RR : Value → Addr → Result → Shared → Prop} {fp wr : List Addr} {n : Nat} {P : Nat → Value → Prop} {Sw : Nat → Heap → Prop} {oit : Obj}
    (hcell : ∀ y ∈ scope.names, y.2 ≠ .cell) (hkind : scope.kind = .function) (hx : scope.names.lookup x = some .local)
    (S : St hB g L m I Mu h) (hoit : oit.isFreed = false) (W : Walks prog w A h.objs.size fp wr n P Sw) (hwr : ∀ b ∈ wr, b = h.objs.size) (hfp : ∀ b ∈ fp, b = h.objs.size ∨ ∃ o, I b = some o)
    (h0 : Sw 0 (h.push oit)) (hex : ∀ i h', Sw i h' → ∃ o, h'.get? h.objs.size = some o) (hn : n ≤ 1000000)
    (J : Nat → List Value → PM → PM → Prop) (J0 : J 0 [] I Mu)
    (step : ∀ i v ys C m₁ I₁ Mu₁ g₁ h₁ tk₁ (E' : Value → Shared → Prop), i < n → P i v → J i ys I₁ Mu₁ → I.le I₁ → St hB g₁ C m₁ I₁ Mu₁ h₁ → m₁ x = some v →
      wpAny (model prog w) A (eval elt (compEnvC scope cl C env)) (EltOk hB g₁ C I₁ (fun y => J (i + 1) (ys ++ [y])) gn dr os) E' ⟨h₁, gn, dr, tk₁, os⟩)
    (done : ∀ D C ys I' Mu' h' tk' k m', J n ys I' Mu' → ys.length = n → I.le I' → I' D = none → St hB g L m (I'.upd D (lstO ys k)) Mu' h' → h'.Ns C m' → (C ≠ L ∧ g C = none ∧ (I'.upd D (lstO ys k)) C = none ∧ Mu' C = none) → RR (.ref D) C (.ok .next) ⟨h', gn, dr, tk', os⟩) :
    wpAny (model prog w) A (newList []) (fun acc s₃ => wpAny (model prog w) A (newFunctionEnv scope env.globals cl [] env.qual none .none (some env)) (fun cenv s₄ =>
      codeAny (model prog w) A (.compStart (.ListComp elt [⟨.Name x px, iter, [], 0⟩] scope pos) 0 (.ref h.objs.size) acc { cenv with scope := relabel scope env }) (RR acc cenv.locals) s₄) E s₃) E ⟨h.push oit, gn, dr, tk, os⟩ := by
  generalize hit : h.objs.size = it at *
  have hf := S.fresh
  rw [hit] at hf
  have hnit : h.get? it = none := by rw [← hit]; exact S.freshN
  have S0 := S.push oit
  refine wpAny_newObj_type (wpAny_newFunctionEnv hcell (by intro y hy; simp at hy) (fun h₁ hns₁ hsb₁ => ?_) hkind)
  dsimp only at hns₁ hsb₁ ⊢
  generalize hD : (h.push oit).objs.size = D at *
  have hDf := S0.fresh
  rw [hD] at hDf
  have hnD : (h.push oit).get? D = none := by rw [← hD]; exact S0.freshN
  have hDit : D ≠ it := by rw [← hD, ← hit, Heap.size_push]; exact Nat.succ_ne_self _
  have S1 := S0.push { cls := .type "list", data := .seq ([] : List Value).toArray }
  generalize hH2 : (h.push oit).push { cls := .type "list", dict := none, data := .seq ([] : List Value).toArray } = H2 at *
  have hCf := S1.fresh
  have hnC : H2.get? H2.objs.size = none := S1.freshN
  generalize hC : H2.objs.size = C at *
  have hk01 : ∀ b o, h.get? b = some o → H2.get? b = some o := fun b o e => by rw [← hH2]; exact Heap.get?_push_of_some _ (Heap.get?_push_of_some _ e)
  have hk2 : ∀ b o, H2.get? b = some o → h₁.get? b = some o := fun b o e => hsb₁.extBut b o (fun q => by rw [q, hnC] at e; cases e) (Heap.get?_push_of_some _ e)
  have hDo : H2.get? D = some (lstO [] 0) := by rw [← hH2, ← hD]; exact Heap.get?_push_size _ rfl
  have hito : H2.get? it = some oit := by rw [← hH2, ← hit]; exact Heap.get?_push_of_some _ (Heap.get?_push_size _ hoit)
  have hCD : D ≠ C := fun q => by rw [q, hnC] at hDo; cases hDo
  have hCit : it ≠ C := fun q => by rw [q, hnC] at hito; cases hito
  have hCh : h.get? C = none := by
    cases q : h.get? C with
    | none => rfl
    | some o => rw [hk01 _ _ q] at hnC; cases hnC
  have hDh : h.get? D = none := by
    cases q : h.get? D with
    | none => rfl
    | some o => rw [Heap.get?_push_of_some oit q] at hnD; cases hnD
  have hge : hB.objs.size ≤ C := by have := S1.sizeLe; rw [hC] at this; exact this
  have hgeD : hB.objs.size ≤ D := by have := S0.sizeLe; rw [hD] at this; exact this
  have SC := S.enter (L' := C) (h' := h₁) hns₁ hCh hge fun b o e => hk2 b o (hk01 b o e)
  generalize hgo : others I Mu h = go at *
  have offGo : ∀ {a}, h.get? a = none → go a = none := fun {a} e => by
    cases q : go a with
    | none => rfl
    | some o => rw [← hgo] at q; rw [of_others q] at e; cases e
  have hleG : g.le go := by rw [← hgo]; exact S.sub_others
  have hst₁ : Sw 0 h₁ := W.frame _ _ _ h0 fun b _ o e => hk2 b o (by rw [← hH2]; exact Heap.get?_push_of_some _ e)
  have loop : ∀ tk₃, codeAny (model prog w) A (.compLoop (.ListComp elt [⟨.Name x px, iter, [], 0⟩] scope pos) 0 (.ref it) (.ref D) (compEnvC scope cl C env))
        (RR (.ref D) C) ⟨h₁, gn, dr, tk₃, os⟩ := by
    intro tk₃
    refine codeAny_compLoop_list
      (fun k s' => ∀ G : Prop, (∀ h' tk' m' I' Mu' i ys n', s' = ⟨h', gn, dr, tk', os⟩ → Sw i h' → St hB go C m' I' Mu' h' → h'.get? D = some (lstO ys n') → ys.length = i → I' it = none → Mu' it = none → I' D = none → Mu' D = none → J i ys I' Mu' → I.le I' → i ≤ n → k = n + 1 - i → G) → G) ?_ (n + 1)
      (fun _ q => q h₁ tk₃ _ I Mu 0 [] 0 rfl hst₁ SC (hk2 _ _ hDo) rfl hf.1 hf.2.1 hDf.1 hDf.2.1 J0 (PM.le_refl _) (Nat.zero_le _) rfl)
    clear hst₁ S0 S1 hns₁ hsb₁ J0 h0
    rintro k s' hInv; refine hInv _ ?_; clear hInv; rintro h' tk' m' I' Mu' i ys n' rfl hsw S' hDo' hlen hI' hM' hID hMD hJ hle hi rfl
    by_cases hlt : i < n
    · refine W.item i _ _ _ hlt hsw fun v h₂ tk₂ hP hsw₂ hk₂ => ?_
      have S₂ := S'.but (it := it) hCit (offGo hnit) hI' hM' fun b o hb e => hk₂ b o (fun q => hb (hwr b q)) e
      obtain ⟨o₂, ho₂⟩ := hex _ _ hsw₂
      have hD₂ := hk₂ D _ (fun q => hDit (hwr D q)) hDo'
      refine wpAny_assign_Name (wpAny_storeName_local (env := compEnvC scope cl C env) (lookup_relabel_local hx) S₂.ns (fun h₃ hn₃ hs₃ => ?_) (by simp [compEnvC, relabel, hkind]))
      have S₃ := S₂.set hn₃ hs₃
      have hD₃ := hs₃.extBut D _ hCD hD₂
      have hI₃ := hs₃.extBut it _ hCit ho₂
      have hsw₃ : Sw (i + 1) h₃ := W.frame _ _ _ hsw₂ fun b hb o e => hs₃.extBut b o (by
        rcases hfp b hb with rfl | ⟨oo, q⟩
        · exact hCit
        · rintro rfl; exact (S'.imm _ _ (hle _ _ q)).2.1 rfl) e
      have S₄ := (S₃.addG hD₃ hID hMD hCD (offGo hDh)).addG hI₃ hI' hM' hCit (by rw [PM.upd_ne _ _ (Ne.symm hDit)]; exact offGo hnit)
      refine wpAny_mono (step i v ys C _ I' Mu' _ h₃ _ _ hlt hP hJ hle S₄ (by simp)) (fun y s₄ h₄ => ?_) fun _ _ e => e
      obtain ⟨m₅, I₅, Mu₅, h₅, tk₅, rfl, S₅, hl₅, hJ₅⟩ := h₄
      have zi := S₅.offG (PM.upd_self _ it o₂)
      have zD := S₅.offG (a := D) (o := lstO ys n') (by rw [PM.upd_ne _ _ hDit, PM.upd_self])
      have hD₅ := S₅.keep D (lstO ys n') (by rw [PM.upd_ne _ _ hDit, PM.upd_self])
      have hit₅ := S₅.keep it o₂ (PM.upd_self _ _ _)
      have S₆ := S₅.lessG (g' := go) (PM.le_trans (PM.le_upd (offGo hDh)) (PM.le_upd (by rw [PM.upd_ne _ _ (Ne.symm hDit)]; exact offGo hnit))) SC.base
      refine wpAny_list_append_plain (s := ⟨h₅, gn, dr, tk₅, os⟩) (items := ys.toArray) ⟨n', hD₅⟩ (fun h₆ hl₆ hs₆ => ?_) (by rw [List.size_toArray, sizeLine_eq]; (first | lia | omega))
      obtain ⟨n₆, hD₆⟩ := hl₆
      have S₇ := S₆.but (it := D) hCD (offGo hDh) zD.1 zD.2.1 fun b o hb e => hs₆.extBut b o hb e
      refine ⟨n + 1 - (i + 1), by (first | lia | omega), fun _ q => q h₆ tk₅ m₅ I₅ Mu₅ (i + 1) (ys ++ [y]) n₆ rfl ?_ S₇ (by rw [hD₆]; simp) (by simp [hlen]) zi.1 zi.2.1 zD.1 zD.2.1 hJ₅ (PM.le_trans hle hl₅) hlt rfl⟩
      refine W.frame _ _ _ hsw₃ fun b hb o e => ?_
      rcases hfp b hb with rfl | ⟨oo, q⟩
      · rw [hI₃] at e; cases e; exact hs₆.extBut _ _ (Ne.symm hDit) hit₅
      · have q1 := hle _ _ q
        rw [(S₄.imm _ _ q1).1] at e; cases e
        exact (S₇.imm _ _ (hl₅ _ _ q1)).1
    · obtain rfl : i = n := by (first | lia | omega)
      refine W.done _ _ _ hsw fun h₂ tk₂ hk₂ => ?_
      have S₂ := S'.but (it := it) hCit (offGo hnit) hI' hM' fun b o hb e => hk₂ b o (fun q => hb (hwr b q)) e
      have hD₂ := hk₂ D _ (fun q => hDit (hwr D q)) hDo'
      have SL := S.back (g' := go) (by rw [hgo]; exact PM.le_refl _) S₂
      have hIC : I' C = none := by
        cases q : I' C with
        | none => rfl
        | some o => exact absurd rfl (S'.imm _ _ q).2.1
      have hMC : Mu' C = none := by
        cases q : Mu' C with
        | none => rfl
        | some o => exact absurd rfl (S'.chg _ _ q).2.1
      exact done D C ys I' Mu' h₂ tk₂ n' m' hJ hlen hle hID (SL.addI hD₂ hMD hDf.2.2.1 hDf.2.2.2 hgeD) S₂.ns ⟨hCf.2.2.1, hCf.2.2.2, by rw [PM.upd_ne _ _ (Ne.symm hCD)]; exact hIC, hMC⟩
  exact codeAny_compStart_list (loop _) (W.self 0 _ _ _ hst₁ (loop _))
end
end
section
section
variable {prog : Program} {w : World} {A : Around} {E : Value → Shared → Prop} {h : Heap} {gn : Array GenState} {dr : Drawn} {tk : Nat} {os : OsState} {env : Env} {K : Frag} {p : Program} {loose : List Str} {mean : ExcName → Option Value} {mg mb : Str → Option Value} {hB : Heap} {g : PM} {L : Addr} {m : Str → Option Value} {I Mu : PM}
  {ns : List (Str × NameKind)} {cl : List (Str × Addr)} {x : Str} {pos : Pos} {v : Value}
/-- the environment of a comprehension -/
theorem EnvOk.comp {scope : Scope} {C : Addr} (hE : EnvOk env ns L cl) (hk : scope.kind = .function) {cl' : List (Str × Addr)} : EnvOk (compEnvC scope cl' C env) (relabel scope env).names C cl' :=
  ⟨hk, rfl, rfl, hE.globals, hE.builtins, rfl⟩
noncomputable abbrev CompGoal (prog : Program) (w : World) (A : Around) (E : Value → Shared → Prop) (elt iter : Expr) (x : Str) (px : Pos) (scope : Scope) (cl : List (Str × Addr)) (pos : Pos) (env : Env) (RR : Value → Addr → Result → Shared → Prop) (xv : Value) (s₁ : Shared) : Prop :=
  wpAny (model prog w) A (pyIter xv) (fun it s₂ =>
      wpAny (model prog w) A (newList []) (fun acc s₃ => wpAny (model prog w) A (newFunctionEnv scope env.globals cl [] env.qual none .none (some env)) (fun cenv s₄ =>
      codeAny (model prog w) A (.compStart (.ListComp elt [⟨.Name x px, iter, [], 0⟩] scope pos) 0 it acc { cenv with scope := relabel scope env }) (RR acc cenv.locals) s₄) E s₃) E s₂) E s₁
theorem r_ListComp {elt iter : Expr} {x : Str} {px : Pos} {scope : Scope} {Q : Value → Shared → Prop} {s : Shared}
    (hclos : closureFor scope env = pure cl) (hkind : scope.kind = .function) (hnames : (scope.names.all fun x => x.2 != .local || scope.names.lookup x.1 == some .local) = true)
    (q : wpAny (model prog w) A (eval iter env) (CompGoal prog w A E elt iter x px scope cl pos env (fun acc C => compPost (model prog w) A E none Q acc C)) E s)
    (hs : ∀ x, foldedSetIterable iter env x = pure x) :
    wpAny (model prog w) A (eval (.ListComp elt [⟨.Name x px, iter, [], 0⟩] scope pos) env) Q E s := by
  rw [eval_ListComp]
  refine wpAny_comprehension_free (use := none) rfl hs hclos hkind (fun x hx hl => ?_) q
  have := List.all_eq_true.mp hnames x hx
  rw [hl] at this
  simpa using this
theorem r_compList {elt iter : Expr} {px : Pos} {scope : Scope} {RR : Value → Addr → Result → Shared → Prop} {a : Addr} {vs : List Value} {n : Nat} (hh : A.handled = none)
    (hcell : (scope.names.all fun y => y.2 != .cell) = true) (hkind : scope.kind = .function) (hx : scope.names.lookup x = some .local)
    (S : St hB g L m I Mu h) (hl : I a = some (lstO vs n)) (hn : vs.length ≤ 1000000)
    (J : Nat → List Value → PM → PM → Prop) (J0 : J 0 [] I Mu)
    (step : ∀ i v ys C m₁ I₁ Mu₁ g₁ h₁ tk₁ (E' : Value → Shared → Prop), vs[i]? = some v → J i ys I₁ Mu₁ → I.le I₁ → St hB g₁ C m₁ I₁ Mu₁ h₁ → m₁ x = some v →
      wpAny (model prog w) A (eval elt (compEnvC scope cl C env)) (EltOk hB g₁ C I₁ (fun y => J (i + 1) (ys ++ [y])) gn dr os) E' ⟨h₁, gn, dr, tk₁, os⟩)
    (done : ∀ D C ys I' Mu' h' tk' k m', J vs.length ys I' Mu' → ys.length = vs.length → I.le I' → I' D = none → St hB g L m (I'.upd D (lstO ys k)) Mu' h' → h'.Ns C m' → (C ≠ L ∧ g C = none ∧ (I'.upd D (lstO ys k)) C = none ∧ Mu' C = none) → RR (.ref D) C (.ok .next) ⟨h', gn, dr, tk', os⟩) :
    CompGoal prog w A E elt iter x px scope cl pos env RR (.ref a) ⟨h, gn, dr, tk, os⟩ := by
  have hne : a ≠ h.objs.size := fun q => by rw [q, S.fresh.1] at hl; cases hl
  refine wpAny_pyIter_list (s := ⟨h, gn, dr, tk, os⟩) (isL S (.inI hl)) ?_
  exact r_compW (P := fun i v => vs.toArray[i]? = some v) (n := vs.length) (fun y hy e => by have := List.all_eq_true.mp hcell y hy; rw [e] at this; cases this) hkind hx S rfl (Walks.list hh h.objs.size a hne vs.toArray) (by simp) (by rintro b hb; rcases List.mem_cons.mp hb with rfl | hb; exact .inl rfl; rw [List.mem_singleton.mp hb]; exact .inr ⟨_, hl⟩)
    ⟨⟨_, Heap.get?_push_size _ rfl, rfl, rfl⟩, (isL S (.inI hl)).push _⟩ (fun i h' z => ⟨_, z.1.choose_spec.1⟩) hn J J0 (fun i v ys C m₁ I₁ Mu₁ g₁ h₁ tk₁ E' hi hv => step i v ys C m₁ I₁ Mu₁ g₁ h₁ tk₁ E' (by simpa using hv)) done
theorem r_compTup {elt iter : Expr} {px : Pos} {scope : Scope} {RR : Value → Addr → Result → Shared → Prop} {a : Addr} {vs : List Value} (hh : A.handled = none)
    (hcell : (scope.names.all fun y => y.2 != .cell) = true) (hkind : scope.kind = .function) (hx : scope.names.lookup x = some .local)
    (S : St hB g L m I Mu h) (hl : I a = some (tupO vs)) (hn : vs.length ≤ 1000000)
    (J : Nat → List Value → PM → PM → Prop) (J0 : J 0 [] I Mu)
    (step : ∀ i v ys C m₁ I₁ Mu₁ g₁ h₁ tk₁ (E' : Value → Shared → Prop), vs[i]? = some v → J i ys I₁ Mu₁ → I.le I₁ → St hB g₁ C m₁ I₁ Mu₁ h₁ → m₁ x = some v →
      wpAny (model prog w) A (eval elt (compEnvC scope cl C env)) (EltOk hB g₁ C I₁ (fun y => J (i + 1) (ys ++ [y])) gn dr os) E' ⟨h₁, gn, dr, tk₁, os⟩)
    (done : ∀ D C ys I' Mu' h' tk' k m', J vs.length ys I' Mu' → ys.length = vs.length → I.le I' → I' D = none → St hB g L m (I'.upd D (lstO ys k)) Mu' h' → h'.Ns C m' → (C ≠ L ∧ g C = none ∧ (I'.upd D (lstO ys k)) C = none ∧ Mu' C = none) → RR (.ref D) C (.ok .next) ⟨h', gn, dr, tk', os⟩) :
    CompGoal prog w A E elt iter x px scope cl pos env RR (.ref a) ⟨h, gn, dr, tk, os⟩ := by
  have hne : a ≠ h.objs.size := fun q => by rw [q, S.fresh.1] at hl; cases hl
  have ht : h.IsTuple a vs.toArray := ⟨_, (S.imm _ _ hl).1, rfl, 0, rfl⟩
  refine wpAny_pyIter_tuple (s := ⟨h, gn, dr, tk, os⟩) ht ?_
  exact r_compW (P := fun i v => vs.toArray[i]? = some v) (n := vs.length) (fun y hy e => by have := List.all_eq_true.mp hcell y hy; rw [e] at this; cases this) hkind hx S rfl (Walks.tuple hh h.objs.size a hne vs.toArray) (by simp) (by rintro b hb; rcases List.mem_cons.mp hb with rfl | hb; exact .inl rfl; rw [List.mem_singleton.mp hb]; exact .inr ⟨_, hl⟩)
    ⟨⟨_, Heap.get?_push_size _ rfl, rfl, rfl⟩, ⟨_, Heap.get?_push_of_some _ (S.imm _ _ hl).1, rfl, 0, rfl⟩⟩ (fun i h' z => ⟨_, z.1.choose_spec.1⟩) hn J J0 (fun i v ys C m₁ I₁ Mu₁ g₁ h₁ tk₁ E' hi hv => step i v ys C m₁ I₁ Mu₁ g₁ h₁ tk₁ E' (by simpa using hv)) done
theorem r_compRange {elt iter : Expr} {px : Pos} {scope : Scope} {RR : Value → Addr → Result → Shared → Prop} {a : Addr} {c : Nat} {t t2 t3 : Tok} (hh : A.handled = none)
    (hcell : (scope.names.all fun y => y.2 != .cell) = true) (hkind : scope.kind = .function) (hx : scope.names.lookup x = some .local)
    (S : St hB g L m I Mu h) (hr : IsRange h a 0 c 1 t t2 t3) (hc : c < 1000000)
    (J : Nat → List Value → PM → PM → Prop) (J0 : J 0 [] I Mu)
    (step : ∀ i ys C m₁ I₁ Mu₁ g₁ h₁ tk₁ (E' : Value → Shared → Prop), i < c → J i ys I₁ Mu₁ → I.le I₁ → St hB g₁ C m₁ I₁ Mu₁ h₁ →
      wpAny (model prog w) A (eval elt (compEnvC scope cl C env)) (EltOk hB g₁ C I₁ (fun y => J (i + 1) (ys ++ [y])) gn dr os) E' ⟨h₁, gn, dr, tk₁, os⟩)
    (done : ∀ D C ys I' Mu' h' tk' k m', J c ys I' Mu' → ys.length = c → I.le I' → I' D = none → St hB g L m (I'.upd D (lstO ys k)) Mu' h' → h'.Ns C m' → (C ≠ L ∧ g C = none ∧ (I'.upd D (lstO ys k)) C = none ∧ Mu' C = none) → RR (.ref D) C (.ok .next) ⟨h', gn, dr, tk', os⟩) :
    CompGoal prog w A E elt iter x px scope cl pos env RR (.ref a) ⟨h, gn, dr, tk, os⟩ := by
  refine wpAny_pyIter_range (s := ⟨h, gn, dr, tk, os⟩) hr (small_one (by decide) (by decide) (by (first | lia | omega)) (by (first | lia | omega))) ?_
  have e : Builtin.Range.rangeSize 0 c 1 = (c : Int) := by unfold Builtin.Range.rangeSize; split <;> simp <;> (first | lia | omega)
  rw [e]
  exact r_compW (n := c) (fun y hy e => by have := List.all_eq_true.mp hcell y hy; rw [e] at this; cases this) hkind hx S rfl (Walks.range hh h.objs.size 0 1 c) (by simp) (by simp) (by simpa using Heap.get?_push_size _ rfl) (fun _ _ z => ⟨_, z⟩) (by (first | lia | omega)) J J0
    (fun i v ys C m₁ I₁ Mu₁ g₁ h₁ tk₁ E' hi hv hj hl hs _ => step i ys C m₁ I₁ Mu₁ g₁ h₁ tk₁ E' hi hj hl hs) done
/-- the end of a comprehension whose value is handed on -/
theorem comp_end {Q : Value → Shared → Prop} {D C : Addr} {m' : Str → Option Value} (S : St hB g L m I Mu h) (hn : h.Ns C m') (hC : C ≠ L ∧ g C = none ∧ I C = none ∧ Mu C = none)
    (q : ∀ h', St hB g L m I Mu h' → Q (.ref D) ⟨h', gn, dr, tk, os⟩) : compPost (model prog w) A E none Q (.ref D) C (.ok .next) ⟨h, gn, dr, tk, os⟩ :=
  ⟨m', hn, fun h' hs => q h' (S.but (it := C) hC.1 hC.2.1 hC.2.2.1 hC.2.2.2 fun b o hb e => hs.extBut b o hb e)⟩
/-- the end of a comprehension whose value is stored -/
theorem comp_use {Q : Value → Shared → Prop} {D C : Addr} {m' : Str → Option Value} {y : Str} {py : Pos} (hE : EnvOk env ns L cl) (S : St hB g L m I Mu h) (hn : h.Ns C m') (hC : C ≠ L ∧ g C = none ∧ I C = none ∧ Mu C = none) (hy : ns.lookup y = some .local)
    (q : ∀ h', St hB g L (setm m y (.ref D)) I Mu h' → Q .none ⟨h', gn, dr, tk + 1, os⟩) : compPost (model prog w) A E (some (assign (.Name y py) env)) Q (.ref D) C (.ok .next) ⟨h, gn, dr, tk, os⟩ := by
  show wpAny _ A (assign (.Name y py) env (.ref D)) _ _ _
  refine wpAny_assign_Name (wpAny_storeName_local (by rw [Env.kindOf, hE.names]; exact hy) (hE.locals ▸ S.ns) (fun h₂ hn₂ hs₂ => ?_) (by rw [hE.kind]; rfl))
  rw [hE.locals] at hn₂ hs₂
  have S₂ := S.set hn₂ hs₂
  exact ⟨m', hn.sameBut hs₂ hC.1, fun h' hs => q h' (S₂.but (it := C) hC.1 hC.2.1 hC.2.2.1 hC.2.2.2 fun b o hb e => hs.extBut b o hb e)⟩
theorem r_asgComp {elt iter : Expr} {x y : Str} {px py spos : Pos} {scope : Scope} {cl' : List (Str × Addr)} {Q : Flow → Shared → Prop} {s : Shared}
    (hsw : swapsWith (.ListComp elt [⟨.Name x px, iter, [], 0⟩] scope pos) (some (.Name y py)) spos.line env = pure true)
    (hclos : closureFor scope env = pure cl') (hkind : scope.kind = .function) (hnames : (scope.names.all fun x => x.2 != .local || scope.names.lookup x.1 == some .local) = true)
    (q : wpAny (model prog w) A (eval iter env) (CompGoal prog w A E elt iter x px scope cl' pos env (fun acc C => compPost (model prog w) A E (some (assign (.Name y py) env)) (fun _ s' => Q .next s') acc C)) E s)
    (hs : ∀ x, foldedSetIterable iter env x = pure x) :
    wpAny (model prog w) A (exec (.Assign [.Name y py] (.ListComp elt [⟨.Name x px, iter, [], 0⟩] scope pos) spos) env) Q E s := by
  rw [exec_Assign_Name_used _ _ _ _ hsw]
  refine wpAny_bind (wpAny_standAt (wpAny_bind ?_))
  show wpAny _ A (do let _ ← comprehension (.ListComp elt [⟨.Name x px, iter, [], 0⟩] scope pos) scope env _ (newList []) false (eval iter env) (some (assign (.Name y py) env))) _ _ s
  exact wpAny_bind (wpAny_mono (wpAny_comprehension_free (use := some (assign (.Name y py) env)) (Q := fun _ s' => Q .next s') rfl hs hclos hkind (fun x hx hl => by
    have := List.all_eq_true.mp hnames x hx
    rw [hl] at this
    simpa using this) q) (fun _ s' hq => wpAny_pure (wpAny_pure hq)) fun _ _ e => e)
end
end
section
/-- what my tells: sigil ($ or @), name (x, y, z), number -/
structure T where
  sig : Bool
  nm : Nat
  id : Nat
/-- a use: and whose it is -/
structure U where
  sig : Bool
  nm : Nat
  id : Option Nat
/-- a row of statements -/
inductive B where
  | nil
  | asg (t : T) (u : U) (r : B)
  | two (u v : U) (r : B)
  | bare (b r : B)
  | sub (b r : B)
  | each (t : T) (u : U) (b r : B)
  | cond (t : T) (u : U) (b r : B)
noncomputable def sigS : Bool → Str
  | false => "$"
  | true => "@"
noncomputable def endS : Bool → Str
  | false => "s"
  | true => "a"
noncomputable def nmOf : Nat → Str
  | 0 => "x"
  | 1 => "y"
  | _ => "z"
noncomputable def vname (n : Nat) : Str := ("v" : Str) ++ Str.ofString (toString (n : Int))
/-- a naming -/
structure Nm where
  t : T → Str
  u : U → Str
noncomputable def nmOne : Nm := ⟨fun t => nmOf t.nm, fun u => nmOf u.nm⟩
noncomputable def nmOther : Nm := ⟨fun t => vname t.id, fun u => match u.id with | some i => vname i | none => nmOf u.nm⟩
noncomputable def myD (N : Nm) (t : T) : D := .tup [.str "my", .str (sigS t.sig), .str (N.t t)]
noncomputable def nameD (N : Nm) (u : U) : D := .tup [.str "name", .str (sigS u.sig), .str (N.u u)]
noncomputable def asgD (x y : D) : D := .tup [.str "expr", .int 1, .tup [.str "assign", x, y]]
noncomputable def twoD (x y : D) : D := .tup [.str "expr", .int 1, .tup [.str "list", .lst [x, y]]]
noncomputable def blockD (l : List D) : D := .tup [.str "block", .lst l]
noncomputable def bareD (l : List D) : D := .tup [.str "bare", .str "", blockD l]
noncomputable def subD (l : List D) (n : Int) (c : List D) : D := .tup [.str "expr", .int 1, .tup [.str "anonsub", .tup [.str "subdef", .str "", blockD l, .int n, .lst c]]]
noncomputable def eachD (x y : D) (l : List D) : D := .tup [.str "foreach", .str "", x, y, blockD l]
noncomputable def condD (x y : D) (l : List D) : D := .tup [.str "if", .lst [.tup [.tup [.str "assign", x, y], blockD l]], .none]
noncomputable def stms (N : Nm) : B → List D
  | .nil => []
  | .asg t u r => asgD (myD N t) (nameD N u) :: stms N r
  | .two u v r => twoD (nameD N u) (nameD N v) :: stms N r
  | .bare b r => bareD (stms N b) :: stms N r
  | .sub b r => subD (stms N b) 0 [] :: stms N r
  | .each t u b r => eachD (myD N t) (nameD N u) (stms N b) :: stms N r
  | .cond t u b r => condD (myD N t) (nameD N u) (stms N b) :: stms N r
section
variable {κ : Type} [DecidableEq κ]
noncomputable def lk {α : Type} (kvs : List (κ × α)) (k : κ) : Option α := (kvs.find? fun kv => kv.1 = k).map (·.2)
noncomputable def put {α : Type} (kvs : List (κ × α)) (k : κ) (v : α) : List (κ × α) :=
  if kvs.any (fun kv => kv.1 = k) then kvs.map (fun kv => if kv.1 = k then (kv.1, v) else kv) else kvs ++ [(k, v)]
end
/-- the builder's counters -/
structure BS where
  at_ : Nat
  left : Nat
  fresh : Nat
  told : Nat
  opn : Nat
noncomputable def restL : List Int := [4, 0, 0, 0, 0, 1, 5, 0, 0, 0, 0, 1, 1, 0, 0, 0, 1, 3, 0, 0, 0, 1, 0, 0, 4, 0, 1, 1, 0, 0, 1, 0, 1, 0, 0, 2, 1, 0, 0, 0, 0, 0, 1, 0, 0, 1, 2, 1, 0, 0, 0, 1]
/-- the k-th number that is drawn -/
noncomputable def pick (ns : List Int) (k : Nat) : Int := if k < ns.length then ns.getD k 0 else restL.getD (k % 52) 0
noncomputable def draw (ns : List Int) (k : Nat) (many : Int) : Int := (pick ns k).fmod many
noncomputable abbrev Seen := List (Str × Nat)
noncomputable def keyOf (sig : Bool) (nm : Nat) : Str := sigS sig ++ nmOf nm
noncomputable def bUse (is : List Int) (seen : Seen) (b : BS) : U × BS :=
  let sig := decide (draw is b.at_ 2 = 1)
  let nm := (draw is (b.at_ + 1) 3).toNat
  let id := lk seen (keyOf sig nm)
  (⟨sig, nm, id⟩, { b with at_ := b.at_ + 2, told := if id.isSome then b.told + 1 else b.told, opn := if id.isSome then b.opn else b.opn + 1 })
noncomputable def bTell (is : List Int) (b : BS) : T × BS :=
  (⟨decide (draw is b.at_ 2 = 1), (draw is (b.at_ + 1) 3).toNat, b.fresh + 1⟩, { b with at_ := b.at_ + 2, fresh := b.fresh + 1 })
noncomputable def tkey (t : T) : Str := keyOf t.sig t.nm
noncomputable def bTurn (is : List Int) (deep : Bool) (inner : Seen → BS → B × BS) (seen : Seen) (b : BS) : (B → B) × BS × Seen :=
  let b₁ : BS := { b with left := b.left - 1, at_ := b.at_ + 1 }
  let way := draw is b.at_ (if deep then 6 else 2)
  if way = 0 then
    let t := bTell is b₁
    let u := bUse is seen t.2
    (.asg t.1 u.1, u.2, put seen (tkey t.1) t.1.id)
  else if way = 1 then
    let u := bUse is seen b₁
    let v := bUse is seen u.2
    (.two u.1 v.1, v.2, seen)
  else if way = 2 then
    let x := inner seen b₁
    (.bare x.1, x.2, seen)
  else if way = 3 then
    let x := inner seen b₁
    (.sub x.1, x.2, seen)
  else
    let t := bTell is b₁
    let u := bUse is seen t.2
    let x := inner (put seen (tkey t.1) t.1.id) u.2
    (if way = 4 then .each t.1 u.1 x.1 else .cond t.1 u.1 x.1, x.2, seen)
noncomputable def bLoop (is : List Int) (deep : Bool) (inner : Seen → BS → B × BS) : Nat → Seen → BS → B × BS
  | 0, _, b => (.nil, b)
  | n + 1, seen, b =>
    if b.left = 0 then (.nil, b) else
    let x := bTurn is deep inner seen b
    let r := bLoop is deep inner n x.2.2 x.2.1
    (x.1 r.1, r.2)
noncomputable def blk (is : List Int) : Nat → Seen → BS → B × BS
  | 0, seen, b => bLoop is false (fun _ b => (.nil, b)) (1 + draw is b.at_ 5).toNat seen { b with at_ := b.at_ + 1 }
  | d + 1, seen, b => bLoop is true (blk is d) (1 + draw is b.at_ 5).toNat seen { b with at_ := b.at_ + 1 }
/-- what a nested block gives -/
noncomputable def inn (is : List Int) : Nat → Seen → BS → B × BS
  | 0 => fun _ b => (.nil, b)
  | d + 1 => blk is d
theorem blk_eq (is : List Int) (deep : Nat) (seen : Seen) (b : BS) : blk is deep seen b = bLoop is (decide (0 < deep)) (inn is deep) (1 + draw is b.at_ 5).toNat seen { b with at_ := b.at_ + 1 } := by
  cases deep <;> rfl
theorem put_length {α : Type} (s : List (Str × α)) (k : Str) (v : α) : (put s k v).length ≤ s.length + 1 := by
  unfold put; split
  · rw [List.length_map]; (first | lia | omega)
  · rw [List.length_append]; exact Nat.le_refl _
noncomputable def Bd (k : Nat) (b b' : BS) : Prop := b'.at_ + 10 * b'.left ≤ b.at_ + 10 * b.left + k ∧ b'.fresh + b'.left ≤ b.fresh + b.left ∧ b'.left ≤ b.left
theorem bTurn_bd {is : List Int} {deep : Bool} {inner : Seen → BS → B × BS} (hin : ∀ s b, Bd 1 b (inner s b).2) {seen : Seen} {b : BS} (h : b.left ≠ 0) : Bd 0 b (bTurn is deep inner seen b).2.1 := by
  unfold bTurn
  dsimp only
  generalize draw is b.at_ (if deep = true then 6 else 2) = way
  split
  · simp only [Bd, bTell, bUse]; (first | lia | omega)
  · split
    · simp only [Bd, bTell, bUse]; (first | lia | omega)
    · split
      · have := hin seen { b with left := b.left - 1, at_ := b.at_ + 1 }
        simp only [Bd] at this ⊢; (first | lia | omega)
      · split
        · have := hin seen { b with left := b.left - 1, at_ := b.at_ + 1 }
          simp only [Bd] at this ⊢; (first | lia | omega)
        · have := hin (put seen (tkey (bTell is { b with left := b.left - 1, at_ := b.at_ + 1 }).1) (bTell is { b with left := b.left - 1, at_ := b.at_ + 1 }).1.id) (bUse is seen (bTell is { b with left := b.left - 1, at_ := b.at_ + 1 }).2).2
          simp only [Bd, bTell, bUse] at this ⊢; (first | lia | omega)
theorem bLoop_bd {is : List Int} {deep : Bool} {inner : Seen → BS → B × BS} (hin : ∀ s b, Bd 1 b (inner s b).2) : ∀ (n : Nat) (seen : Seen) (b : BS), Bd 0 b (bLoop is deep inner n seen b).2
  | 0, _, b => by simp only [bLoop, Bd]; (first | lia | omega)
  | n + 1, seen, b => by
    rw [bLoop]
    split
    · simp only [Bd]; (first | lia | omega)
    · rename_i h
      have h1 := bTurn_bd (is := is) (deep := deep) hin (seen := seen) h
      have h2 := bLoop_bd (is := is) (deep := deep) hin n (bTurn is deep inner seen b).2.2 (bTurn is deep inner seen b).2.1
      dsimp only
      simp only [Bd] at h1 h2 ⊢; (first | lia | omega)
theorem blk_bd (is : List Int) : ∀ (d : Nat) (s : Seen) (b : BS), Bd 1 b (blk is d s b).2
  | 0, s, b => by
    rw [blk]
    have := bLoop_bd (is := is) (deep := false) (inner := fun _ b => (.nil, b)) (fun s b => by simp only [Bd]; (first | lia | omega)) (1 + draw is b.at_ 5).toNat s { b with at_ := b.at_ + 1 }
    simp only [Bd] at this ⊢; (first | lia | omega)
  | d + 1, s, b => by
    rw [blk]
    have := bLoop_bd (is := is) (deep := true) (inner := blk is d) (blk_bd is d) (1 + draw is b.at_ 5).toNat s { b with at_ := b.at_ + 1 }
    simp only [Bd] at this ⊢; (first | lia | omega)
theorem inn_succ (is : List Int) {deep : Nat} (h : 0 < deep) : inn is deep = blk is (deep - 1) := by
  cases deep with
  | zero => (first | lia | omega)
  | succ d => rfl
end
section
inductive RKvs {α : Type} (R : Value → α → Prop) : List (Str × Value) → List (Str × α) → Prop
  | nil : RKvs R [] []
  | cons {k : Str} {v : Value} {x : α} {r : List (Str × Value)} {s : List (Str × α)} : R v x → RKvs R r s → RKvs R ((k, v) :: r) ((k, x) :: s)
theorem lk_cons {α : Type} (k' k : Str) (x : α) (s : List (Str × α)) : lk ((k', x) :: s) k = if k' = k then some x else lk s k := by
  unfold lk; rw [List.find?_cons]; by_cases e : k' = k <;> simp [e]
theorem valueAt_cons (k' k : Str) (x : Value) (s : List (Str × Value)) : valueAt ((k', x) :: s) k = if k' = k then some x else valueAt s k := by
  unfold valueAt; rw [List.find?_cons]; by_cases e : k' = k <;> simp [e]
theorem RKvs.at {α : Type} {R : Value → α → Prop} {kvs : List (Str × Value)} {ps : List (Str × α)} (h : RKvs R kvs ps) (k : Str) : (lk ps k = none ∧ valueAt kvs k = none) ∨ ∃ x v, lk ps k = some x ∧ valueAt kvs k = some v ∧ R v x := by
  induction h with
  | nil => exact .inl ⟨rfl, rfl⟩
  | @cons k' v x r s hr _ ih =>
    rw [lk_cons, valueAt_cons]
    by_cases e : k' = k
    · rw [if_pos e, if_pos e]; exact .inr ⟨x, v, rfl, rfl, hr⟩
    · rw [if_neg e, if_neg e]; exact ih
theorem RKvs.any {α : Type} {R : Value → α → Prop} {kvs : List (Str × Value)} {ps : List (Str × α)} (h : RKvs R kvs ps) (k : Str) : kvs.any (fun kv => kv.1 = k) = ps.any (fun kv => kv.1 = k) := by
  induction h with
  | nil => rfl
  | cons _ _ ih => simp only [List.any_cons, ih]
theorem RKvs.set {α : Type} {R : Value → α → Prop} {kvs : List (Str × Value)} {ps : List (Str × α)} (h : RKvs R kvs ps) {k : Str} {v : Value} {x : α} (hr : R v x) : RKvs R (stored kvs k v) (put ps k x) := by
  unfold stored put
  rw [h.any k]
  split
  · rename_i q; clear q
    induction h with
    | nil => exact .nil
    | cons hr' _ ih =>
      simp only [List.map_cons]
      split
      · exact .cons hr ih
      · exact .cons hr' ih
  · rename_i q; clear q
    induction h with
    | nil => exact .cons hr .nil
    | cons hr' _ ih => exact .cons hr' ih
theorem RKvs.length {α : Type} {R : Value → α → Prop} {kvs : List (Str × Value)} {ps : List (Str × α)} (h : RKvs R kvs ps) : kvs.length = ps.length := by
  induction h with
  | nil => rfl
  | cons _ _ ih => simp [ih]
noncomputable def VName (v : Value) (i : Nat) : Prop := ∃ t, v = .str (vname i) t
noncomputable def SeenAt (prog : Program) (w : World) (I Mu : PM) (d : Addr) (s : Seen) : Prop := ∃ o kvs, At I Mu d o ∧ o.IsDictOf (strKind prog w) kvs ∧ RKvs VName kvs s
section
variable {prog : Program} {w : World} {hB : Heap} {d u : Nat} {f : Value} {vs : List Value} {I Mu : PM} {Post : Value → PM → PM → Prop}
theorem CallOk.up (h : CallOk prog w hB d u f vs I Mu Post) {d' u' : Nat} (hd : d ≤ d') (hu : u ≤ u') : CallOk prog w hB d' u' f vs I Mu Post :=
  fun A g L m h₁ gn dr tk os Q E hh a b => h A g L m h₁ gn dr tk os Q E hh (Nat.lt_of_le_of_lt (Nat.add_le_add_left hd _) a) (Nat.lt_of_le_of_lt (Nat.add_le_add_left hu _) b)
theorem CallOk.mono (h : CallOk prog w hB d u f vs I Mu Post) {Post' : Value → PM → PM → Prop} (hp : ∀ v I' Mu', I.le I' → Post v I' Mu' → Post' v I' Mu') : CallOk prog w hB d u f vs I Mu Post' :=
  fun A g L m h₁ gn dr tk os Q E hh a b S q => h A g L m h₁ gn dr tk os Q E hh a b S fun r I' Mu' h' tk' S' hle hpost => q r I' Mu' h' tk' S' hle (hp r I' Mu' hle hpost)
/-- a call in a frame -/
theorem CallOk.go (c : CallOk prog w hB d u f vs I Mu Post) {A : Around} {g : PM} {L : Addr} {m : Str → Option Value} {h : Heap} {gn : Array GenState} {dr : Drawn} {tk : Nat} {os : OsState} {Q E : Value → Shared → Prop}
    (hh : A.handled = none) (S : St hB g L m I Mu h) (hd : A.depth + d < recursionLimit) (hu : A.units + u < cLine) (q : ∀ r I' Mu' h' tk', St hB g L m I' Mu' h' → I.le I' → Post r I' Mu' → Q r ⟨h', gn, dr, tk', os⟩) : wpAny (model prog w) A (call f vs) Q E ⟨h, gn, dr, tk, os⟩ :=
  c A g L m h gn dr tk os Q E hh hd hu S q
theorem At.le {I J Mu : PM} {a : Addr} {o : Obj} (q : At I Mu a o) (h : I.le J) : At J Mu a o := q.imp (h _ _) id
end
section
variable {M : Model} {A : Around} {E : Value → Shared → Prop} {s : Shared} {env : Env}
theorem r_swap2 {elts k tpos value pos} {x y : Str} {Q : Flow → Shared → Prop}
    (h : wpAny M A (eval value env) (fun v s₁ => wpAny M A (unpackItems v 2 none) (fun items s₂ => ∃ v1 v2, items = [v1, v2] ∧
      wpAny M A (storeName env y v2) (fun _ s₃ => wpAny M A (storeName env x v1) (fun _ s₄ => Q .next s₄) E s₃) E s₂) E s₁) E s)
    (hw : swappedStores [.Tuple elts k tpos] value env = pure (some [x, y])) (hs : swapsWithSole [.Tuple elts k tpos] value pos.line env = pure false := by rfl) :
    wpAny M A (exec (.Assign [.Tuple elts k tpos] value pos) env) Q E s := by
  refine Assign_Tuple_swapped (names := [x, y]) (wpAny_mono h (fun v s₁ q => wpAny_mono q (fun items s₂ q => ?_) fun _ _ x => x) fun _ _ x => x) hs hw
  obtain ⟨v1, v2, rfl, q⟩ := q
  exact r_inOrdB (ys := [x]) (wpAny_mono q (fun _ s₃ q => r_inOrdB (ys := []) (wpAny_mono q (fun _ s₄ q => r_inOrdBN q) fun _ _ x => x)) fun _ _ x => x)
theorem r_swap3 {elts k tpos value pos} {x y z : Str} {Q : Flow → Shared → Prop}
    (h : wpAny M A (eval value env) (fun v s₁ => wpAny M A (unpackItems v 3 none) (fun items s₂ => ∃ v1 v2 v3, items = [v1, v2, v3] ∧
      wpAny M A (storeName env z v3) (fun _ s₂ => wpAny M A (storeName env y v2) (fun _ s₃ => wpAny M A (storeName env x v1) (fun _ s₄ => Q .next s₄) E s₃) E s₂) E s₂) E s₁) E s)
    (hw : swappedStores [.Tuple elts k tpos] value env = pure (some [x, y, z])) (hs : swapsWithSole [.Tuple elts k tpos] value pos.line env = pure false := by rfl) :
    wpAny M A (exec (.Assign [.Tuple elts k tpos] value pos) env) Q E s := by
  refine Assign_Tuple_swapped (names := [x, y, z]) (wpAny_mono h (fun v s₁ q => wpAny_mono q (fun items s₂ q => ?_) fun _ _ x => x) fun _ _ x => x) hs hw
  obtain ⟨v1, v2, v3, rfl, q⟩ := q
  exact r_inOrdB (ys := [y, x]) (wpAny_mono q (fun _ s₃ q => r_inOrdB (ys := [x]) (wpAny_mono q (fun _ s₃ q => r_inOrdB (ys := []) (wpAny_mono q (fun _ s₄ q => r_inOrdBN q) fun _ _ x => x)) fun _ _ x => x)) fun _ _ x => x)
end
section
variable {prog : Program} {w : World} {A : Around} {E : Value → Shared → Prop} {h : Heap} {gn : Array GenState} {dr : Drawn} {tk : Nat} {os : OsState} {env : Env} {hB : Heap} {g : PM} {L : Addr} {m : Str → Option Value} {I Mu : PM}
/-- a new tuple, never changed -/
theorem r_newTup {vs : List Value} {Q : Value → Shared → Prop} (S : St hB g L m I Mu h) (hz : vs.length ≤ 1000000)
    (q : ∀ a h' I', I.le I' → I' a = some (tupO vs) → St hB g L m I' Mu h' → Q (.ref a) ⟨h', gn, dr, tk, os⟩) : wpAny (model prog w) A (newTuple vs) Q E ⟨h, gn, dr, tk, os⟩ :=
  r_newTupI S hz fun a h' ha S' => q a h' _ (PM.le_upd ha) (PM.upd_self _ _ _) S'
end
theorem Is.two {I : PM} {v : Value} {d1 d2 : D} (h : Is I v (.tup [d1, d2])) : ∃ a v1 v2, v = .ref a ∧ I a = some (tupO [v1, v2]) ∧ Is I v1 d1 ∧ Is I v2 d2 :=
  let ⟨a, _, e, ha, r⟩ := h.tupInv
  let ⟨v1, _, e1, i1, r1⟩ := r.consInv
  let ⟨v2, _, e2, i2, r2⟩ := r1.consInv
  ⟨a, v1, v2, e, by rw [ha, e1, e2, r2.nilInv], i1, i2⟩
theorem Is.three {I : PM} {v : Value} {d1 d2 d3 : D} (h : Is I v (.tup [d1, d2, d3])) : ∃ a v1 v2 v3, v = .ref a ∧ I a = some (tupO [v1, v2, v3]) ∧ Is I v1 d1 ∧ Is I v2 d2 ∧ Is I v3 d3 :=
  let ⟨a, _, e, ha, r⟩ := h.tupInv
  let ⟨v1, _, e1, i1, r1⟩ := r.consInv
  let ⟨v2, _, e2, i2, r2⟩ := r1.consInv
  let ⟨v3, _, e3, i3, r3⟩ := r2.consInv
  ⟨a, v1, v2, v3, e, by rw [ha, e1, e2, e3, r3.nilInv], i1, i2, i3⟩
theorem Is.twoE {I : PM} {v : Value} {d1 d2 : D} {G : Prop} (h : Is I v (.tup [d1, d2])) (k : ∀ a v1 v2, v = .ref a → I a = some (tupO [v1, v2]) → Is I v1 d1 → Is I v2 d2 → G) : G :=
  let ⟨a, v1, v2, e, q, r1, r2⟩ := h.two
  k a v1 v2 e q r1 r2
theorem Is.threeE {I : PM} {v : Value} {d1 d2 d3 : D} {G : Prop} (h : Is I v (.tup [d1, d2, d3])) (k : ∀ a v1 v2 v3, v = .ref a → I a = some (tupO [v1, v2, v3]) → Is I v1 d1 → Is I v2 d2 → Is I v3 d3 → G) : G :=
  let ⟨a, v1, v2, v3, e, q, r1, r2, r3⟩ := h.three
  k a v1 v2 v3 e q r1 r2 r3
theorem Is.tup2 {I : PM} {a : Addr} {v1 v2 : Value} {d1 d2 : D} (e : I a = some (tupO [v1, v2])) (h1 : Is I v1 d1) (h2 : Is I v2 d2) : Is I (.ref a) (.tup [d1, d2]) := .tup e (.cons h1 (.cons h2 .nil))
theorem Is.tup3 {I : PM} {a : Addr} {v1 v2 v3 : Value} {d1 d2 d3 : D} (e : I a = some (tupO [v1, v2, v3])) (h1 : Is I v1 d1) (h2 : Is I v2 d2) (h3 : Is I v3 d3) : Is I (.ref a) (.tup [d1, d2, d3]) := .tup e (.cons h1 (.cons h2 (.cons h3 .nil)))
end
section
section
variable {prog : Program} {w : World} {A : Around} {E : Value → Shared → Prop} {h : Heap} {gn : Array GenState} {dr : Drawn} {tk : Nat} {os : OsState} {env : Env} {K : Frag} {p : Program} {loose : List Str} {mean : ExcName → Option Value} {mg mb : Str → Option Value} {hB : Heap} {g : PM} {L : Addr} {m : Str → Option Value} {I Mu : PM}
  {ns : List (Str × NameKind)} {cl : List (Str × Addr)} {x : Str} {pos : Pos} {v : Value}
noncomputable abbrev emptyD : Obj := { cls := .type "dict", data := .dict #[] }
theorem emptyD_is : emptyD.IsDictOf (strKind prog w) [] := by
  obtain ⟨o, ho, hi⟩ := Heap.dictOf_iff.mp (Heap.DictOf.new (knd := strKind prog w) default)
  rw [Heap.get?_push_size _ rfl] at ho
  cases ho; exact hi
theorem r_dictE {Q : Value → Shared → Prop} (S : St hB g L m I Mu h)
    (q : ∀ d h', I d = none → Mu d = none → St hB g L m I (Mu.upd d emptyD) h' → Q (.ref d) ⟨h', gn, dr, tk, os⟩) : wpAny (model prog w) A (eval (.Dict [] [] pos) env) Q E ⟨h, gn, dr, tk, os⟩ :=
  wpAny_Dict_empty (s := ⟨h, gn, dr, tk, os⟩) (q _ _ S.fresh.1 S.fresh.2.1 (S.pushMu _))
/-- the pairs of a dict display -/
noncomputable def PairsOk (prog : Program) (w : World) (hB : Heap) (g : PM) (L : Addr) (m : Str → Option Value) (d : Addr) (Q : Value → Shared → Prop) (gn : Array GenState) (dr : Drawn) (os : OsState) (vs : List (Value × Value)) (s : Shared) : Prop :=
  ∃ I Mu h tk kvs, s = ⟨h, gn, dr, tk, os⟩ ∧ St hB g L m I Mu h ∧ Mu d = some emptyD ∧ Carries (strKind prog w) vs kvs ∧ ∀ h' o' tk', St hB g L m I (Mu.upd d o') h' → o'.IsDictOf (strKind prog w) (merged [] kvs) → Q (.ref d) ⟨h', gn, dr, tk', os⟩
theorem r_dict {keys : List (Option Expr)} {values : List Expr} {Q : Value → Shared → Prop} (S : St hB g L m I Mu h)
    (hall : keys.all (·.isSome) = true) (hl : keys.length = values.length) (h0 : keys ≠ []) (hlen : keys.length ≤ 15)
    (q : ∀ d h', I d = none → Mu d = none → St hB g L m I (Mu.upd d emptyD) h' → wpAny (model prog w) A (evalPairs (pairTrees keys values env pos)) (PairsOk prog w hB g L m d Q gn dr os) E ⟨h', gn, dr, tk, os⟩) :
    wpAny (model prog w) A (eval (.Dict keys values pos) env) Q E ⟨h, gn, dr, tk, os⟩ := by
  refine Dict_made (knd := strKind prog w) (s := ⟨h, gn, dr, tk, os⟩) S.fr hall hl h0 hlen fun F' => ?_
  refine wpAny_mono (q _ _ S.fresh.1 S.fresh.2.1 (S.pushMu _)) (fun vs s₁ q => ?_) fun _ _ x => x
  obtain ⟨I₁, Mu₁, h₁, tk₁, kvs, rfl, S₁, hm, hc, hq⟩ := q
  refine ⟨kvs, hc, Heap.dictOf_iff.mpr ⟨_, (S₁.chg _ _ hm).1, emptyD_is⟩, fun h' hd hs => ?_⟩
  obtain ⟨o', ho', hi⟩ := Heap.dictOf_iff.mp hd
  exact hq h' o' _ (S₁.change hm hs ho') hi
theorem r_pairC {k v : Expr} {ks : List (Option Expr)} {vs : List Expr} {Q : List (Value × Value) → Shared → Prop} {s : Shared}
    (q : wpAny (model prog w) A (eval k env) (fun kv s₁ => wpAny (model prog w) A (eval v env) (fun vv s₂ => wpAny (model prog w) A (evalPairs (pairTrees ks vs env pos)) (fun r s₃ => Q ((kv, vv) :: r) s₃) E s₂) E s₁) E s) :
    wpAny (model prog w) A (evalPairs (pairTrees (some k :: ks) (v :: vs) env pos)) Q E s := pairTrees_cons_walk q
theorem r_pairN {Q : List (Value × Value) → Shared → Prop} {s : Shared} (q : Q [] s) : wpAny (model prog w) A (evalPairs (pairTrees [] [] env pos)) Q E s := pairTrees_nil_walk q
theorem PairsOk.fin {d : Addr} {Q : Value → Shared → Prop} {vs : List (Value × Value)} {kvs : List (Str × Value)} (S : St hB g L m I Mu h) (hm : Mu d = some emptyD) (hc : Carries (strKind prog w) vs kvs)
    (q : ∀ h' o' tk', St hB g L m I (Mu.upd d o') h' → o'.IsDictOf (strKind prog w) (merged [] kvs) → Q (.ref d) ⟨h', gn, dr, tk', os⟩) : PairsOk prog w hB g L m d Q gn dr os vs ⟨h, gn, dr, tk, os⟩ := ⟨I, Mu, h, tk, kvs, rfl, S, hm, hc, q⟩
/-- dict(d) -/
theorem r_dictOf {d : Addr} {o : Obj} {kvs : List (Str × Value)} {Q : Value → Shared → Prop} (B : Base K p loose mean mg mb hB) (S : St hB g L m I Mu h) (hm : At I Mu d o) (ho : o.IsDictOf (strKind prog w) kvs) (hz : kvs.length ≤ 1000000)
    (q : ∀ e h' o', I e = none → Mu e = none → St hB g L m I (Mu.upd e o') h' → o'.IsDictOf (strKind prog w) kvs → Q (.ref e) ⟨h', gn, dr, tk, os⟩) : wpAny (model prog w) A (call (.type "dict") [.ref d]) Q E ⟨h, gn, dr, tk, os⟩ := by
  refine kt_call_dict (s := ⟨h, gn, dr, tk, os⟩) (knd := strKind prog w) (S.notSys B hm) (Heap.dictOf_iff.mpr ⟨o, At.get S hm, ho⟩) (by rw [sizeLine_eq]; (first | lia | omega)) fun h' hd hs => ?_
  obtain ⟨o', ho', hi⟩ := Heap.dictOf_iff.mp hd
  refine q _ h' o' S.fresh.1 S.fresh.2.1 ?_ hi
  have S1 := S.pushMu emptyD
  have := S1.change (PM.upd_self _ _ _) hs ho'
  refine this.less fun a x e => ?_
  by_cases ha : a = h.objs.size
  · subst ha; rw [PM.upd_self] at e ⊢; exact e
  · rw [PM.upd_ne _ _ ha] at e ⊢; rw [PM.upd_ne _ _ ha]; exact e
theorem r_strInt {n : Nat} {t : Tok} {Q : Value → Shared → Prop} (hn : n < 1000000) (q : Q (.str (Str.ofString (toString (n : Int))) tk) ⟨h, gn, dr, tk + 1, os⟩) : wpAny (model prog w) A (call (.type "str") [.int n t]) Q E ⟨h, gn, dr, tk, os⟩ := by
  refine PySem.P.str_of_int (s := ⟨h, gn, dr, tk, os⟩) ?_ q
  show n.log2 < 1920
  by_cases h0 : n = 0
  · subst h0; decide
  · exact Nat.lt_of_lt_of_le ((Nat.log2_lt h0).mpr (show n < 2 ^ 20 by (first | lia | omega))) (by decide)
-- attributes of instances
theorem r_getattr {a C dx : Addr} {es : List DictEntry} {n : Nat} {name : Str} {attr : Option Value} {Q : Value → Shared → Prop} (B : Base K p loose mean mg mb hB) (S : St hB g L m I Mu h) (hx : At I Mu a (instObj C dx)) (hd : At I Mu dx (dictOf es n))
    (hl : getL name es = some (some v)) (hg : plainGet K C name = true) (hh : hasDictIn K C = true) (ha : findIn K (.ref C) name = some attr) (hn : noGet K attr = true) (hv : handedIn v = true) (q : Q v ⟨h, gn, dr, tk + 1, os⟩) :
    wpAny (model prog w) A (getAttr (.ref a) name true) Q E ⟨h, gn, dr, tk, os⟩ :=
  get_own (s := ⟨h, gn, dr, tk, os⟩) S.fr B.k ⟨At.get S hx, rfl, rfl, At.get S hd⟩ hg hh ha hn hl hv q
theorem r_setattr {a C dx : Addr} {es es' : List DictEntry} {n n' : Nat} {name : Str} {Q : Unit → Shared → Prop} (B : Base K p loose mean mg mb hB) (S : St hB g L m I Mu h) (hx : At I Mu a (instObj C dx)) (hd : Mu dx = some (dictOf es n))
    (hs : findIn K (.ref C) "__setattr__" = some (some (.builtin "object.__setattr__"))) (hp : plainOver K C = true) (ht : takerIn K C name = some none) (hh : hasDictIn K C = true) (hl : (getL name es).isSome = true)
    (e : (putL name (PyData.keyHash w.params name) (.str name (tk + 1)) v es, putN name es n) = (es', n')) (hz : es'.length ≤ 1000)
    (q : ∀ h', St hB g L m I (Mu.upd dx (dictOf es' n')) h' → Q () ⟨h', gn, dr, tk + 2, os⟩) :
    wpAny (model prog w) A (setAttr (.ref a) name v) Q E ⟨h, gn, dr, tk, os⟩ := by
  obtain ⟨post, N, hpost, back⟩ := S.via hd
  exact set_dict (s := ⟨h, gn, dr, tk, os⟩) S.fr B.k N ⟨At.get S hx, rfl, rfl, (S.chg _ _ hd).1⟩ rfl hs hp ht hh hl e (.head hpost) hz fun h' F' N' => q h' (back _ h' F' N')
end
section
variable {prog : Program} {w : World} {A : Around} {E : Value → Shared → Prop} {h : Heap} {gn : Array GenState} {dr : Drawn} {tk : Nat} {os : OsState} {env : Env} {hB : Heap} {g : PM} {L : Addr} {m : Str → Option Value} {I Mu : PM}
/-- a new list that is never changed -/
theorem r_newLstF {vs : List Value} {Q : Value → Shared → Prop} (S : St hB g L m I Mu h) (hz : vs.length ≤ 1000000)
    (q : ∀ a h' I', I.le I' → I' a = some (lstO vs 0) → St hB g L m I' Mu h' → Q (.ref a) ⟨h', gn, dr, tk, os⟩) : wpAny (model prog w) A (newList vs) Q E ⟨h, gn, dr, tk, os⟩ :=
  wpAny_newObj_type (q _ _ _ (PM.le_upd S.fresh.1) (PM.upd_self _ _ _) (S.pushI _)) (by show vs.toArray.size ≤ sizeLine; rw [List.size_toArray, sizeLine_eq]; (first | lia | omega))
end
end
section
section
variable {prog : Program} {w : World} {A : Around} {E : Value → Shared → Prop} {h : Heap} {gn : Array GenState} {dr : Drawn} {tk : Nat} {os : OsState} {env : Env} {K : Frag} {p : Program} {loose : List Str} {mean : ExcName → Option Value} {mg mb : Str → Option Value} {hB : Heap} {g : PM} {L : Addr} {m : Str → Option Value} {I Mu : PM}
  {ns : List (Str × NameKind)} {cl : List (Str × Addr)} {x : Str} {pos : Pos} {v : Value}
/-- a rule of the library that makes one new object (and perhaps others) -/
theorem St.viaOne (S : St hB g L m I Mu h) : ∃ post, News hB L h post ∧ ∀ h' D o, Fr hB L h' m → News hB L h' ((D, o) :: post) → h.objs.size ≤ D → St hB g L m (I.upd D o) Mu h' ∧ I.le (I.upd D o) := by
  refine ⟨newsOf hB L h L, fun q hq => ?_, fun h' D o F' N' lt => ?_⟩
  · have z := mem_newsOf (a := q.1) (o := q.2).mp hq; exact ⟨z.1, z.2.1, z.2.2.2⟩
  · have k : ∀ b x, b ≠ L → h.get? b = some x → h'.get? b = some x := fun b x n2 e => by
      cases q : hB.get? b with
      | some y => rw [S.keep b y (S.base b y q)] at e; cases e; exact F'.keep b _ q
      | none => exact (N' (b, x) (.tail _ (mem_newsOf.mpr ⟨e, n2, n2, q⟩))).1
    have S' : St hB g L m I Mu h' := ⟨F'.ns, fun b x e => k b x (fun q => by rw [q, S.off] at e; cases e) (S.keep b x e), S.low, S.base, S.off, fun b x e => ⟨k b x (S.imm b x e).2.1 (S.imm b x e).1, (S.imm b x e).2⟩, fun b x e => ⟨k b x (S.chg b x e).2.1 (S.chg b x e).1, (S.chg b x e).2⟩, S.dis, S.hi⟩
    have hD := N' (D, o) (.head _)
    have hn : h.get? D = none := by
      cases q : h.get? D with
      | none => rfl
      | some y => exact absurd (Heap.lt_size q) (Nat.not_lt.mpr lt)
    have f := S.fresh' hn
    exact ⟨S'.addI hD.1 f.2.1 f.2.2.1 f.2.2.2 (Nat.le_trans S.sizeLe lt), PM.le_upd f.1⟩
/-- vs[::-1] of a list -/
theorem r_srev {value slice : PySem.Expr} {l : Addr} {vs : List Value} {n : Nat} {vk : Value} {ops : List Value} {Q : Value → Shared → Prop} (S : St hB g L m I Mu h) (hm : At I Mu l (lstO vs n)) (pk : IsPart vk (some (-1))) (hz : vs.length ≤ 1000000)
    (hs : subscripted slice false (.ref l) (.ref h.objs.size) = operate ops (getItem (.ref l) (.ref h.objs.size)))
    (q : ∀ D h' I', I.le I' → I' D = some (lstO vs.reverse 0) → St hB g L m I' Mu h' → Q (.ref D) ⟨h', gn, dr, tk, os⟩) :
    wpAny (model prog w) A (subscriptTail value slice (.ref l) (.ref h.objs.size)) Q E ⟨h.push { cls := .type "slice", data := .fields #[.none, .none, vk] }, gn, dr, tk, os⟩ := by
  have hl := (isL S hm).push { cls := .type "slice", data := .fields #[.none, .none, vk] }
  refine tail_any (Heap.IsList.typeIs (s := ⟨_, gn, dr, tk, os⟩) hl) list_getitem_lookup (wpAny_getItem_list_slice hl (Heap.IsSliceOf.new ..) .none .none pk (by decide) ?_ (by rw [List.size_toArray, sizeLine_eq]; (first | lia | omega))) hs
  rw [krv_pick]
  have S1 := S.push { cls := .type "slice", data := .fields #[.none, .none, vk] }
  exact q _ _ _ (PM.le_upd S1.fresh.1) (PM.upd_self _ _ _) (S1.pushI _)
/-- vs[a:] of a tuple -/
theorem r_tfrom {value slice : PySem.Expr} {l : Addr} {vs : List Value} {a : Nat} {u : Tok} {ops : List Value} {Q : Value → Shared → Prop} (S : St hB g L m I Mu h) (hm : At I Mu l (tupO vs)) (h1 : 1 ≤ a) (ha : a ≤ vs.length) (hz : vs.length ≤ 1000000)
    (hs : subscripted slice false (.ref l) (.ref h.objs.size) = operate ops (getItem (.ref l) (.ref h.objs.size)))
    (q : ∀ D h' I', I.le I' → I' D = some (tupO (vs.drop a)) → St hB g L m I' Mu h' → Q (.ref D) ⟨h', gn, dr, tk, os⟩) :
    wpAny (model prog w) A (subscriptTail value slice (.ref l) (.ref h.objs.size)) Q E ⟨h.push { cls := .type "slice", data := .fields #[.int a u, .none, .none] }, gn, dr, tk, os⟩ := by
  have ht' : IsTup (h.push { cls := .type "slice", data := .fields #[.int a u, .none, .none] }) l vs.toArray := (isT S hm).keeps fun _ _ e => Heap.get?_push_of_some _ e
  refine tail_any (s := ⟨_, gn, dr, tk, os⟩) (IsTup.typeIs (s := ⟨_, gn, dr, tk, os⟩) ht') slot_tuple_getitem.lookup (getItem_tuple_from ht' (Heap.IsSliceOf.new ..) h1 (by simpa using ha) ?_ (by rw [List.size_toArray, sizeLine_eq]; (first | lia | omega))) hs
  have S1 := S.push { cls := .type "slice", data := .fields #[.int a u, .none, .none] }
  exact q _ _ _ (PM.le_upd S1.fresh.1) (by rw [PM.upd_self]) (S1.pushI _)
theorem r_evN {M : Model} {s : Shared} {Q : Value → Shared → Prop} (q : Q .none s) : wpAny M A (evalPart none env) Q E s := wpAny_pure q
theorem r_evS {M : Model} {s : Shared} {e : PySem.Expr} {Q : Value → Shared → Prop} (q : wpAny M A (eval e env) Q E s) : wpAny M A (evalPart (some e) env) Q E s := q
theorem r_sliceF {M : Model} {s : Shared} {e : PySem.Expr} {Q : Value → Shared → Prop} {pos : Pos} (q : wpAny M A (eval e env) (fun v s₁ => Q (.ref s₁.heap.objs.size) { s₁ with heap := s₁.heap.push { cls := .type "slice", data := .fields #[v, .none, .none] } }) E s) : wpAny M A (eval (.Slice (some e) none none pos) env) Q E s :=
  wpAny_Slice (r_evS (wpAny_mono q (fun _ _ q => r_evN (r_evN q)) fun _ _ x => x))
theorem r_sliceR {M : Model} {s : Shared} {e : PySem.Expr} {Q : Value → Shared → Prop} {pos : Pos} (q : wpAny M A (eval e env) (fun v s₁ => Q (.ref s₁.heap.objs.size) { s₁ with heap := s₁.heap.push { cls := .type "slice", data := .fields #[.none, .none, v] } }) E s) : wpAny M A (eval (.Slice none none (some e) pos) env) Q E s :=
  wpAny_Slice (r_evN (r_evN (r_evS q)))
theorem r_sliceT {M : Model} {s : Shared} {e : PySem.Expr} {Q : Value → Shared → Prop} {pos : Pos} (q : wpAny M A (eval e env) (fun v s₁ => Q (.ref s₁.heap.objs.size) { s₁ with heap := s₁.heap.push { cls := .type "slice", data := .fields #[.none, v, .none] } }) E s) : wpAny M A (eval (.Slice none (some e) none pos) env) Q E s :=
  wpAny_Slice (r_evN (r_evS (wpAny_mono q (fun _ _ q => r_evN q) fun _ _ x => x)))
end
theorem ite_t {A B : Prop} [Decidable (true = true)] (h : A) : if true = true then A else B := by rw [if_pos rfl]; exact h
theorem ite_f {A B : Prop} [Decidable (false = true)] (h : B) : if false = true then A else B := by rw [if_neg Bool.false_ne_true]; exact h
theorem ite_nt {A B : Prop} [Decidable ((!true) = true)] (h : B) : if (!true) = true then A else B := by rw [if_neg (by simp)]; exact h
theorem ite_nf {A B : Prop} [Decidable ((!false) = true)] (h : A) : if (!false) = true then A else B := by rw [if_pos (by simp)]; exact h
theorem ite_nnt {A B : Prop} [Decidable ((!!true) = true)] (h : A) : if (!!true) = true then A else B := by rw [if_pos (by simp)]; exact h
theorem ite_nnf {A B : Prop} [Decidable ((!!false) = true)] (h : B) : if (!!false) = true then A else B := by rw [if_neg (by simp)]; exact h
section
variable {prog : Program} {w : World} {A : Around} {E : Value → Shared → Prop} {h : Heap} {gn : Array GenState} {dr : Drawn} {tk : Nat} {os : OsState} {hB : Heap} {g : PM} {L : Addr} {m : Str → Option Value} {I Mu : PM}
/-- list + list, never changed -/
theorem r_addL {a b : Addr} {vs ws : List Value} {n n' : Nat} {Q : Value → Shared → Prop} (S : St hB g L m I Mu h) (ha : At I Mu a (lstO vs n)) (hb : At I Mu b (lstO ws n')) (hz : vs.length + ws.length ≤ 1000000)
    (q : ∀ c h' I', I.le I' → I' c = some (lstO (vs ++ ws) 0) → St hB g L m I' Mu h' → Q (.ref c) ⟨h', gn, dr, tk, os⟩) : wpAny (model prog w) A (binaryOp .Add (.ref a) (.ref b)) Q E ⟨h, gn, dr, tk, os⟩ := by
  obtain ⟨post, N, back⟩ := S.viaOne
  refine add_lists (s := ⟨h, gn, dr, tk, os⟩) S.fr N (isL S ha) (isL S hb) (fun h' F' N' => ?_) (by rw [sizeLine_eq]; (first | lia | omega))
  obtain ⟨S', le⟩ := back h' _ _ F' N' (Nat.le_refl _)
  exact q _ h' _ le (PM.upd_self _ _ _) S'
/-- tuple(list) -/
theorem r_tupOf {a : Addr} {vs : List Value} {n : Nat} {Q : Value → Shared → Prop} (S : St hB g L m I Mu h) (ha : At I Mu a (lstO vs n)) (hz : vs.length ≤ 1000000)
    (q : ∀ c h' I', I.le I' → I' c = some (tupO vs) → St hB g L m I' Mu h' → Q (.ref c) ⟨h', gn, dr, tk, os⟩) : wpAny (model prog w) A (call (.type "tuple") [.ref a]) Q E ⟨h, gn, dr, tk, os⟩ := by
  refine call_tuple_list (s := ⟨h, gn, dr, tk, os⟩) (isL S ha) (fun h' hk => ?_) (by rw [List.size_toArray, sizeLine_eq]; (first | lia | omega))
  have S1 := S.keeps hk
  exact q _ _ _ (PM.le_upd S1.fresh.1) (PM.upd_self _ _ _) (S1.pushI _)
end
end
section
/-- a scope: captures, the block of captures, blocks and waiting names (the innermost first), the next slot -/
structure Sc (κ : Type) where
  caps : List (Nat × Nat × Bool)
  capB : List (κ × Nat)
  blocks : List (List (κ × Nat))
  waits : List (List (κ × Nat))
  size : Nat
section
variable {κ : Type} [DecidableEq κ]
noncomputable def hereB (k : κ) : List (List (κ × Nat)) → Option Nat
  | [] => none
  | b :: r => match lk b k with
    | some n => some n
    | none => hereB k r
noncomputable def Sc.here (s : Sc κ) (k : κ) : Option Nat := match hereB k s.blocks with
  | some n => some n
  | none => lk s.capB k
noncomputable def find (sig : Bool) (k : κ) : List (Sc κ) → Option Nat × List (Sc κ)
  | [] => (none, [])
  | s :: r => match s.here k with
    | some i => (some i, s :: r)
    | none => match find sig k r with
      | (none, r') => (none, s :: r')
      | (some pl, r') => (some s.size, { s with size := s.size + 1, caps := s.caps ++ [(pl, s.size, sig)], capB := put s.capB k s.size } :: r')
theorem find_here {sig : Bool} {k : κ} {s : Sc κ} {r : List (Sc κ)} {i : Nat} (h : s.here k = some i) : find sig k (s :: r) = (some i, s :: r) := by simp only [find, h]
theorem find_none {sig : Bool} {k : κ} {s : Sc κ} {r r' : List (Sc κ)} (h : s.here k = none) (e : find sig k r = (none, r')) : find sig k (s :: r) = (none, s :: r') := by simp only [find, h, e]
theorem find_some {sig : Bool} {k : κ} {s : Sc κ} {r r' : List (Sc κ)} {pl : Nat} (h : s.here k = none) (e : find sig k r = (some pl, r')) :
    find sig k (s :: r) = (some s.size, { s with size := s.size + 1, caps := s.caps ++ [(pl, s.size, sig)], capB := put s.capB k s.size } :: r') := by simp only [find, h, e]
noncomputable def enterS : List (Sc κ) → List (Sc κ)
  | s :: r => { s with blocks := [] :: s.blocks, waits := [] :: s.waits } :: r
  | [] => []
noncomputable def leaveS : List (Sc κ) → List (Sc κ)
  | s :: r => { s with blocks := s.blocks.tail, waits := s.waits.tail } :: r
  | [] => []
noncomputable def puts (b : List (κ × Nat)) (w : List (κ × Nat)) : List (κ × Nat) := w.foldl (fun b kv => put b kv.1 kv.2) b
noncomputable def introS : List (Sc κ) → List (Sc κ)
  | s :: r => (match s.blocks, s.waits with
    | b :: bs, w :: ws => { s with blocks := puts b w :: bs, waits := [] :: ws }
    | _, _ => s) :: r
  | [] => []
noncomputable def tellS (k : κ) : List (Sc κ) → List (Sc κ)
  | s :: r => { s with size := s.size + 1, waits := match s.waits with | w :: ws => (w ++ [(k, s.size)]) :: ws | [] => [] } :: r
  | [] => []
noncomputable def sizeS : List (Sc κ) → Nat
  | s :: _ => s.size
  | [] => 0
end
noncomputable def myR (sig : Bool) (n : Nat) : D := .tup [.str ("my" ++ endS sig), .int n]
noncomputable def padR (sig : Bool) (n : Nat) : D := .tup [.str ("pad" ++ endS sig), .int n]
noncomputable def globR (sig : Bool) (s : Str) : D := .tup [.str ("glob" ++ endS sig), .str ("main::" ++ s)]
noncomputable def capD (c : Nat × Nat × Bool) : D := .tup [.int c.1, .int c.2.1, .str (sigS c.2.2)]
/-- keys for a naming -/
structure Kf (κ : Type) where
  t : T → κ
  u : U → κ
  g : U → Str
section
variable {κ : Type} [DecidableEq κ]
noncomputable def rMy (K : Kf κ) (t : T) (s : List (Sc κ)) : D × List (Sc κ) := (myR t.sig (sizeS s), tellS (K.t t) s)
noncomputable def rName (K : Kf κ) (u : U) (s : List (Sc κ)) : D × List (Sc κ) := match find u.sig (K.u u) s with
  | (some n, s') => (padR u.sig n, s')
  | (none, s') => (globR u.sig (K.g u), s')
noncomputable def newSc : Sc κ := ⟨[], [], [], [], 0⟩
noncomputable def res (K : Kf κ) : B → List (Sc κ) → List D × List (Sc κ)
  | .nil, s => ([], s)
  | .asg t u r, s =>
    let x := rMy K t s
    let y := rName K u x.2
    let z := res K r (introS y.2)
    (asgD x.1 y.1 :: z.1, z.2)
  | .two u v r, s =>
    let x := rName K u s
    let y := rName K v x.2
    let z := res K r (introS y.2)
    (twoD x.1 y.1 :: z.1, z.2)
  | .bare b r, s =>
    let x := res K b (enterS s)
    let z := res K r (introS (leaveS x.2))
    (bareD x.1 :: z.1, z.2)
  | .sub b r, s =>
    let x := res K b (enterS (newSc :: s))
    let y := leaveS x.2
    let z := res K r (introS y.tail)
    (subD x.1 (sizeS y) ((match y with | q :: _ => q.caps | [] => []).map capD) :: z.1, z.2)
  | .each t u b r, s =>
    let x := rMy K t (enterS s)
    let y := rName K u x.2
    let v := res K b (enterS (introS y.2))
    let z := res K r (introS (leaveS (leaveS v.2)))
    (eachD x.1 y.1 v.1 :: z.1, z.2)
  | .cond t u b r, s =>
    let x := rMy K t (enterS s)
    let y := rName K u x.2
    let v := res K b (enterS (introS y.2))
    let z := res K r (introS (leaveS (leaveS v.2)))
    (condD x.1 y.1 v.1 :: z.1, z.2)
end
-- the scopes in the heap
structure Ad where
  a : Addr
  d : Addr
  bl : Addr
  wl : Addr
  cp : Addr
  cb : Addr
  w0 : Addr
  bs : List Addr
  ws : List Addr
noncomputable def Ad.all (x : Ad) : List Addr := x.a :: x.d :: x.bl :: x.wl :: x.cp :: x.cb :: x.w0 :: (x.bs ++ x.ws)
noncomputable def IntV (v : Value) (n : Nat) : Prop := ∃ t, v = .int (n : Int) t
noncomputable def DictN (prog : Program) (w : World) (Mu : PM) (a : Addr) (kvs : List (Str × Nat)) : Prop := ∃ o vs, Mu a = some o ∧ o.IsDictOf (strKind prog w) vs ∧ RKvs IntV vs kvs
noncomputable def waitD (kv : Str × Nat) : D := .tup [.str kv.1, .int kv.2]
noncomputable def WaitN (I Mu : PM) (a : Addr) (kvs : List (Str × Nat)) : Prop := ∃ vs n, Mu a = some (lstO vs n) ∧ IsAll I vs (kvs.map waitD)
noncomputable def attrEs (P : Params) (k : Nat → Tok) (out pk bl wl sz cp ln : Value) : List DictEntry :=
  [⟨PyData.keyHash P "outer", .str "outer" (k 0), out⟩, ⟨PyData.keyHash P "package", .str "package" (k 1), pk⟩, ⟨PyData.keyHash P "blocks", .str "blocks" (k 2), bl⟩, ⟨PyData.keyHash P "waiting", .str "waiting" (k 3), wl⟩,
   ⟨PyData.keyHash P "size", .str "size" (k 4), sz⟩, ⟨PyData.keyHash P "captures", .str "captures" (k 5), cp⟩, ⟨PyData.keyHash P "line", .str "line" (k 6), ln⟩]
inductive F2 {α : Type} (P : Addr → α → Prop) : List Addr → List α → Prop
  | nil : F2 P [] []
  | cons {a : Addr} {k : α} {l : List Addr} {ks : List α} : P a k → F2 P l ks → F2 P (a :: l) (k :: ks)
structure ScAt (prog : Program) (w : World) (I Mu : PM) (x : Ad) (s : Sc Str) (out : Value) : Prop where
  inst : Mu x.a = some (instObj 108 x.d)
  attrs : ∃ (k : Nat → Tok) (t1 t2 t3 : Tok) (l : Int) (n : Nat), Mu x.d = some (dictOf (attrEs w.params k out (.str "main" t1) (.ref x.bl) (.ref x.wl) (.int s.size t2) (.ref x.cp) (.int l t3)) n)
  bl : ∃ n, Mu x.bl = some (lstO (.ref x.cb :: x.bs.reverse.map .ref) n)
  wl : ∃ n, Mu x.wl = some (lstO (.ref x.w0 :: x.ws.reverse.map .ref) n)
  cp : ∃ vs n, Mu x.cp = some (lstO vs n) ∧ IsAll I vs (s.caps.map capD)
  cb : DictN prog w Mu x.cb s.capB
  w0 : ∃ n, Mu x.w0 = some (lstO [] n)
  bs : F2 (DictN prog w Mu) x.bs s.blocks
  ws : F2 (WaitN I Mu) x.ws s.waits
theorem DictN.at {prog : Program} {w : World} {Mu Mu' : PM} {a : Addr} {kvs : List (Str × Nat)} (h : DictN prog w Mu a kvs) (e : Mu' a = Mu a) : DictN prog w Mu' a kvs := let ⟨o, vs, q, r⟩ := h; ⟨o, vs, e.trans q, r⟩
theorem WaitN.at {I I' Mu Mu' : PM} {a : Addr} {kvs : List (Str × Nat)} (h : WaitN I Mu a kvs) (hI : I.le I') (e : Mu' a = Mu a) : WaitN I' Mu' a kvs := let ⟨o, vs, q, r⟩ := h; ⟨o, vs, e.trans q, r.mono hI⟩
theorem F2.at {α : Type} {P Q : Addr → α → Prop} {l : List Addr} {ks : List α} (h : F2 P l ks) (e : ∀ a ∈ l, ∀ k, P a k → Q a k) : F2 Q l ks := by
  induction h with
  | nil => exact .nil
  | cons p _ ih => exact .cons (e _ (.head _) _ p) (ih fun a ha => e a (.tail _ ha))
theorem ScAt.frame {prog : Program} {w : World} {I I' Mu Mu' : PM} {x : Ad} {s : Sc Str} {out : Value} (h : ScAt prog w I Mu x s out) (hI : I.le I') (e : ∀ a ∈ x.all, Mu' a = Mu a) : ScAt prog w I' Mu' x s out := by
  unfold Ad.all at e
  refine ⟨(e _ (by simp)).trans h.inst, ?_, ?_, ?_, ?_, h.cb.at (e _ (by simp)), ?_, F2.at h.bs fun a ha k q => q.at (e _ (by simp [ha])), F2.at h.ws fun a ha k q => q.at hI (e _ (by simp [ha]))⟩
  · obtain ⟨k, t1, t2, t3, l, n, q⟩ := h.attrs; exact ⟨k, t1, t2, t3, l, n, (e _ (by simp)).trans q⟩
  · obtain ⟨n, q⟩ := h.bl; exact ⟨n, (e _ (by simp)).trans q⟩
  · obtain ⟨n, q⟩ := h.wl; exact ⟨n, (e _ (by simp)).trans q⟩
  · obtain ⟨vs, n, q, r⟩ := h.cp; exact ⟨vs, n, (e _ (by simp)).trans q, r.mono hI⟩
  · obtain ⟨n, q⟩ := h.w0; exact ⟨n, (e _ (by simp)).trans q⟩
theorem ScAt.objs {prog : Program} {w : World} {I Mu : PM} {x : Ad} {s : Sc Str} {out : Value} (h : ScAt prog w I Mu x s out) : ∀ a ∈ x.all, ∃ o, Mu a = some o := by
  have fb : ∀ {l : List Addr} {ks : List (List (Str × Nat))}, F2 (DictN prog w Mu) l ks → ∀ a ∈ l, ∃ o, Mu a = some o := fun q => by
    induction q with
    | nil => intro a ha; cases ha
    | cons p _ ih =>
      intro a ha
      rcases List.mem_cons.mp ha with rfl | ha
      · obtain ⟨o, _, e, _⟩ := p; exact ⟨o, e⟩
      · exact ih a ha
  have fw : ∀ {l : List Addr} {ks : List (List (Str × Nat))}, F2 (WaitN I Mu) l ks → ∀ a ∈ l, ∃ o, Mu a = some o := fun q => by
    induction q with
    | nil => intro a ha; cases ha
    | cons p _ ih =>
      intro a ha
      rcases List.mem_cons.mp ha with rfl | ha
      · obtain ⟨_, _, e, _⟩ := p; exact ⟨_, e⟩
      · exact ih a ha
  intro a ha
  simp only [Ad.all, List.mem_cons, List.mem_append] at ha
  rcases ha with rfl | rfl | rfl | rfl | rfl | rfl | rfl | ha | ha
  · exact ⟨_, h.inst⟩
  · obtain ⟨k, t1, t2, t3, l, n, q⟩ := h.attrs; exact ⟨_, q⟩
  · obtain ⟨n, q⟩ := h.bl; exact ⟨_, q⟩
  · obtain ⟨n, q⟩ := h.wl; exact ⟨_, q⟩
  · obtain ⟨vs, n, q, r⟩ := h.cp; exact ⟨_, q⟩
  · obtain ⟨o, _, e, _⟩ := h.cb; exact ⟨o, e⟩
  · obtain ⟨n, q⟩ := h.w0; exact ⟨_, q⟩
  · exact fb h.bs a ha
  · exact fw h.ws a ha
noncomputable def outV : List Addr → Value
  | [] => .none
  | a :: _ => .ref a
inductive ChAt (prog : Program) (w : World) (I Mu : PM) : List Ad → List (Sc Str) → Prop
  | nil : ChAt prog w I Mu [] []
  | cons {x : Ad} {xs : List Ad} {s : Sc Str} {r : List (Sc Str)} : ScAt prog w I Mu x s (outV (xs.map Ad.a)) → ChAt prog w I Mu xs r → ChAt prog w I Mu (x :: xs) (s :: r)
noncomputable def allA (xs : List Ad) : List Addr := xs.flatMap Ad.all
theorem ChAt.frame {prog : Program} {w : World} {I I' Mu Mu' : PM} {xs : List Ad} {s : List (Sc Str)} (h : ChAt prog w I Mu xs s) (hI : I.le I') (e : ∀ a ∈ allA xs, Mu' a = Mu a) : ChAt prog w I' Mu' xs s := by
  induction h with
  | nil => exact .nil
  | cons p _ ih => exact .cons (p.frame hI fun a ha => e a (by simp [allA, ha])) (ih fun a ha => e a (by simp only [allA, List.flatMap_cons, List.mem_append]; exact .inr ha))
theorem ChAt.objs {prog : Program} {w : World} {I Mu : PM} {xs : List Ad} {s : List (Sc Str)} (h : ChAt prog w I Mu xs s) : ∀ a ∈ allA xs, ∃ o, Mu a = some o := by
  induction h with
  | nil => intro a ha; cases ha
  | cons p _ ih =>
    intro a ha
    simp only [allA, List.flatMap_cons, List.mem_append] at ha
    exact ha.elim (p.objs a) (ih a)
/-- a chain of scopes, the innermost first, and what else is the caller's own -/
noncomputable def Chn (prog : Program) (w : World) (I Mu : PM) (as : List Addr) (s : List (Sc Str)) (F : List (Addr × Obj)) : Prop :=
  ∃ xs, xs.map Ad.a = as ∧ ChAt prog w I Mu xs s ∧ (∀ q ∈ F, Mu q.1 = some q.2) ∧ (allA xs ++ F.map (·.1)).Nodup
section
variable {prog : Program} {w : World} {I I' Mu Mu' : PM} {as : List Addr} {s : List (Sc Str)} {F : List (Addr × Obj)} {a : Addr} {o o' : Obj}
theorem Chn.mono (h : Chn prog w I Mu as s F) (hI : I.le I') : Chn prog w I' Mu as s F := let ⟨xs, e, c, f, n⟩ := h; ⟨xs, e, c.frame hI fun _ _ => rfl, f, n⟩
theorem Chn.add (h : Chn prog w I Mu as s F) (ha : Mu a = none) : Chn prog w I (Mu.upd a o) as s ((a, o) :: F) := by
  obtain ⟨xs, e, c, f, n⟩ := h
  have h1 : ∀ b ∈ allA xs, b ≠ a := fun b hb q => by obtain ⟨o, ho⟩ := c.objs b hb; rw [q, ha] at ho; cases ho
  have h2 : ∀ q ∈ F, q.1 ≠ a := fun q hq e => by have := f q hq; rw [e, ha] at this; cases this
  refine ⟨xs, e, c.frame (PM.le_refl _) fun b hb => PM.upd_ne _ _ (h1 b hb), fun q hq => ?_, ?_⟩
  · rcases List.mem_cons.mp hq with rfl | hq
    · exact PM.upd_self _ _ _
    · rw [PM.upd_ne _ _ (h2 q hq)]; exact f q hq
  · simp only [List.map_cons]
    refine List.Perm.nodup_iff (List.perm_middle) |>.mpr (List.nodup_cons.mpr ⟨fun hm => ?_, n⟩)
    rcases List.mem_append.mp hm with hm | hm
    · exact h1 _ hm rfl
    · obtain ⟨q, hq, e⟩ := List.mem_map.mp hm; exact h2 q hq e
theorem Chn.ownNe (h : Chn prog w I Mu as s ((a, o) :: F)) : ∃ xs, xs.map Ad.a = as ∧ ChAt prog w I Mu xs s ∧ (∀ q ∈ F, Mu q.1 = some q.2) ∧ (∀ b ∈ allA xs, b ≠ a) ∧ (∀ q ∈ F, q.1 ≠ a) ∧ (allA xs ++ F.map (·.1)).Nodup := by
  obtain ⟨xs, e, c, f, n⟩ := h
  simp only [List.map_cons] at n
  have n' := List.nodup_cons.mp (List.Perm.nodup_iff (List.perm_middle) |>.mp n)
  exact ⟨xs, e, c, fun q hq => f q (.tail _ hq), fun b hb q => n'.1 (List.mem_append.mpr (.inl (q ▸ hb))), fun q hq e => n'.1 (List.mem_append.mpr (.inr (e ▸ List.mem_map_of_mem (f := (·.1)) hq))), n'.2⟩
theorem Chn.own (h : Chn prog w I Mu as s ((a, o) :: F)) : Mu a = some o := let ⟨_, _, _, f, _⟩ := h; f _ (.head _)
theorem Chn.set (h : Chn prog w I Mu as s ((a, o) :: F)) : Chn prog w I (Mu.upd a o') as s ((a, o') :: F) := by
  obtain ⟨xs, e, c, f, h1, h2, n⟩ := h.ownNe
  refine ⟨xs, e, c.frame (PM.le_refl _) fun b hb => PM.upd_ne _ _ (h1 b hb), fun q hq => ?_, ?_⟩
  · rcases List.mem_cons.mp hq with rfl | hq
    · exact PM.upd_self _ _ _
    · rw [PM.upd_ne _ _ (h2 q hq)]; exact f q hq
  · simp only [List.map_cons]
    refine List.Perm.nodup_iff (List.perm_middle) |>.mpr (List.nodup_cons.mpr ⟨fun hm => ?_, n⟩)
    rcases List.mem_append.mp hm with hm | hm
    · exact h1 _ hm rfl
    · obtain ⟨q, hq, e⟩ := List.mem_map.mp hm; exact h2 q hq e
theorem Chn.drop (h : Chn prog w I Mu as s ((a, o) :: F)) : Chn prog w I (Mu.del a) as s F := by
  obtain ⟨xs, e, c, f, h1, h2, n⟩ := h.ownNe
  exact ⟨xs, e, c.frame (PM.le_refl _) fun b hb => PM.del_ne _ (h1 b hb), fun q hq => by rw [PM.del_ne _ (h2 q hq)]; exact f q hq, n⟩
theorem Chn.forget (h : Chn prog w I Mu as s ((a, o) :: F)) : Chn prog w I Mu as s F := let ⟨xs, e, c, f, _, _, n⟩ := h.ownNe; ⟨xs, e, c, f, n⟩
/-- the innermost scope, and how it may change -/
theorem Chn.head {a0 : Addr} {q : Sc Str} (h : Chn prog w I Mu (a0 :: as) (q :: s) F) : ∃ x : Ad, x.a = a0 ∧ ScAt prog w I Mu x q (outV as) ∧ x.all.Nodup ∧ (∀ y ∈ F, y.1 ∉ x.all) ∧
    ∀ (I' Mu' : PM) (x' : Ad) (q' : Sc Str), I.le I' → x'.a = a0 → ScAt prog w I' Mu' x' q' (outV as) → x'.all.Nodup → (∀ b ∈ x'.all, b ∈ x.all ∨ Mu b = none) → (∀ b o, b ∉ x.all → Mu b = some o → Mu' b = some o) → Chn prog w I' Mu' (a0 :: as) (q' :: s) F := by
  obtain ⟨xs, e, c, f, n⟩ := h
  cases c with
  | @cons x xs _ _ p r =>
    simp only [List.map_cons, List.cons.injEq] at e
    obtain ⟨e1, e2⟩ := e
    simp only [allA, List.flatMap_cons, List.append_assoc] at n
    have n1 := (List.nodup_append.mp n).1
    have n2 := (List.nodup_append.mp n).2.1
    have n3 := (List.nodup_append.mp n).2.2
    refine ⟨x, e1, e2 ▸ p, n1, fun y hy hm => n3 _ hm _ (List.mem_append.mpr (.inr (List.mem_map_of_mem (f := (·.1)) hy))) rfl, fun I' Mu' x' q' hI hx' p' nx hsub hk => ?_⟩
    have same : ∀ b, b ∈ allA xs ++ F.map (·.1) → Mu' b = Mu b ∧ b ∉ x.all ∧ ∃ o, Mu b = some o := fun b hb => by
      have hb' : b ∉ x.all := fun hm => n3 _ hm _ hb rfl
      obtain ⟨o, ho⟩ : ∃ o, Mu b = some o := by
        rcases List.mem_append.mp hb with hb | hb
        · exact r.objs b hb
        · obtain ⟨y, hy, e⟩ := List.mem_map.mp hb; exact ⟨_, e ▸ f y hy⟩
      exact ⟨(hk b o hb' ho).trans ho.symm, hb', o, ho⟩
    refine ⟨x' :: xs, by simp [hx', e2], .cons (e2.symm ▸ p') (r.frame hI fun b hb => (same b (List.mem_append.mpr (.inl hb))).1), fun y hy => ?_, ?_⟩
    · rw [(same y.1 (List.mem_append.mpr (.inr (List.mem_map_of_mem (f := (·.1)) hy)))).1]; exact f y hy
    · simp only [allA, List.flatMap_cons, List.append_assoc]
      refine List.nodup_append.mpr ⟨nx, n2, fun b hb c hc e => ?_⟩
      subst e
      have z := same b hc
      rcases hsub b hb with h1 | h1
      · exact z.2.1 h1
      · obtain ⟨o, ho⟩ := z.2.2; rw [h1] at ho; cases ho
/-- the outer scopes alone: the innermost is the caller's own -/
theorem ScAt.attrsE {x : Ad} {q : Sc Str} {out : Value} {G : Prop} (hS : ScAt prog w I Mu x q out) (f : ∀ (k : Nat → Tok) (t1 t2 t3 : Tok) (l : Int) (n : Nat), Mu x.d = some (dictOf (attrEs w.params k out (.str "main" t1) (.ref x.bl) (.ref x.wl) (.int q.size t2) (.ref x.cp) (.int l t3)) n) → G) : G :=
  let ⟨k, t1, t2, t3, l, n, e⟩ := hS.attrs
  f k t1 t2 t3 l n e
theorem Chn.headE {a0 : Addr} {q : Sc Str} {G : Prop} (h : Chn prog w I Mu (a0 :: as) (q :: s) F) (k : ∀ x : Ad, x.a = a0 → ScAt prog w I Mu x q (outV as) → x.all.Nodup → (∀ y ∈ F, y.1 ∉ x.all) →
    (∀ (I' Mu' : PM) (x' : Ad) (q' : Sc Str), I.le I' → x'.a = a0 → ScAt prog w I' Mu' x' q' (outV as) → x'.all.Nodup → (∀ b ∈ x'.all, b ∈ x.all ∨ Mu b = none) → (∀ b o, b ∉ x.all → Mu b = some o → Mu' b = some o) → Chn prog w I' Mu' (a0 :: as) (q' :: s) F) → G) : G :=
  let ⟨x, a, b, c, d, e⟩ := h.head
  k x a b c d e
theorem Chn.outer {a0 : Addr} {q : Sc Str} (h : Chn prog w I Mu (a0 :: as) (q :: s) F) : ∃ F0, Chn prog w I Mu as s (F0 ++ F) ∧ ∀ (I' Mu' : PM) (s' : List (Sc Str)), I.le I' → Chn prog w I' Mu' as s' (F0 ++ F) → Chn prog w I' Mu' (a0 :: as) (q :: s') F := by
  obtain ⟨xs, e, c, f, n⟩ := h
  cases c with
  | @cons x xs _ _ p r =>
    simp only [List.map_cons, List.cons.injEq] at e
    obtain ⟨e1, e2⟩ := e
    simp only [allA, List.flatMap_cons, List.append_assoc] at n
    have hp := p.objs
    refine ⟨x.all.map fun b => (b, (Mu b).getD default), ⟨xs, e2, r, fun y hy => ?_, ?_⟩, fun I' Mu' s' hI h' => ?_⟩
    · rcases List.mem_append.mp hy with hy | hy
      · obtain ⟨b, hb, rfl⟩ := List.mem_map.mp hy
        obtain ⟨o, ho⟩ := hp b hb
        show Mu b = _; rw [ho]; rfl
      · exact f y hy
    · simp only [List.map_append, List.map_map]
      have : (List.map ((fun x : Addr × Obj => x.1) ∘ fun b => (b, (Mu b).getD default)) x.all) = x.all := by simp [Function.comp_def]
      rw [this]
      refine (List.Perm.nodup_iff ?_).mp n
      rw [← List.append_assoc, ← List.append_assoc]
      exact List.Perm.append_right _ List.perm_append_comm
    · obtain ⟨xs', e', c', f', n'⟩ := h'
      simp only [List.map_append, List.map_map] at n'
      have hm : (List.map ((fun x : Addr × Obj => x.1) ∘ fun b => (b, (Mu b).getD default)) x.all) = x.all := by simp [Function.comp_def]
      rw [hm] at n'
      refine ⟨x :: xs', by simp [e1, e'], .cons ?_ c', fun y hy => f' y (List.mem_append.mpr (.inr hy)), ?_⟩
      · rw [e', ← e2]
        refine p.frame hI fun b hb => ?_
        obtain ⟨o, ho⟩ := hp b hb
        have := f' (b, (Mu b).getD default) (List.mem_append.mpr (.inl (List.mem_map_of_mem hb)))
        rw [ho] at this ⊢; exact this
      · simp only [allA, List.flatMap_cons, List.append_assoc]
        refine (List.Perm.nodup_iff ?_).mp n'
        rw [← List.append_assoc, ← List.append_assoc]
        exact List.Perm.append_right _ List.perm_append_comm
end
theorem Ad.ne {x : Ad} (h : x.all.Nodup) : (x.a ≠ x.d ∧ x.a ≠ x.bl ∧ x.a ≠ x.wl ∧ x.a ≠ x.cp ∧ x.a ≠ x.cb ∧ x.a ≠ x.w0 ∧ x.a ∉ x.bs ∧ x.a ∉ x.ws) ∧ (x.d ≠ x.bl ∧ x.d ≠ x.wl ∧ x.d ≠ x.cp ∧ x.d ≠ x.cb ∧ x.d ≠ x.w0 ∧ x.d ∉ x.bs ∧ x.d ∉ x.ws) ∧
   (x.bl ≠ x.wl ∧ x.bl ≠ x.cp ∧ x.bl ≠ x.cb ∧ x.bl ≠ x.w0 ∧ x.bl ∉ x.bs ∧ x.bl ∉ x.ws) ∧ (x.wl ≠ x.cp ∧ x.wl ≠ x.cb ∧ x.wl ≠ x.w0 ∧ x.wl ∉ x.bs ∧ x.wl ∉ x.ws) ∧ (x.cp ≠ x.cb ∧ x.cp ≠ x.w0 ∧ x.cp ∉ x.bs ∧ x.cp ∉ x.ws) ∧ (x.cb ≠ x.w0 ∧ x.cb ∉ x.bs ∧ x.cb ∉ x.ws) ∧ (x.w0 ∉ x.bs ∧ x.w0 ∉ x.ws) ∧ x.bs.Nodup ∧ x.ws.Nodup ∧ ∀ a ∈ x.bs, a ∉ x.ws := by
  simp only [Ad.all, List.nodup_cons, List.mem_cons, List.mem_append, not_or, List.nodup_append] at h
  grind
theorem Ad.neE {x : Ad} {G : Prop} (h : x.all.Nodup) (k : (x.a ≠ x.d ∧ x.a ≠ x.bl ∧ x.a ≠ x.wl ∧ x.a ≠ x.cp ∧ x.a ≠ x.cb ∧ x.a ≠ x.w0 ∧ x.a ∉ x.bs ∧ x.a ∉ x.ws) → (x.d ≠ x.bl ∧ x.d ≠ x.wl ∧ x.d ≠ x.cp ∧ x.d ≠ x.cb ∧ x.d ≠ x.w0 ∧ x.d ∉ x.bs ∧ x.d ∉ x.ws) → (x.bl ≠ x.wl ∧ x.bl ≠ x.cp ∧ x.bl ≠ x.cb ∧ x.bl ≠ x.w0 ∧ x.bl ∉ x.bs ∧ x.bl ∉ x.ws) → (x.wl ≠ x.cp ∧ x.wl ≠ x.cb ∧ x.wl ≠ x.w0 ∧ x.wl ∉ x.bs ∧ x.wl ∉ x.ws) → (x.cp ≠ x.cb ∧ x.cp ≠ x.w0 ∧ x.cp ∉ x.bs ∧ x.cp ∉ x.ws) → (x.cb ≠ x.w0 ∧ x.cb ∉ x.bs ∧ x.cb ∉ x.ws) → (x.w0 ∉ x.bs ∧ x.w0 ∉ x.ws) → (x.bs.Nodup) → (x.ws.Nodup) → (∀ a ∈ x.bs, a ∉ x.ws) → G) : G :=
  let ⟨a0, a1, a2, a3, a4, a5, a6, a7, a8, a9⟩ := Ad.ne h
  k a0 a1 a2 a3 a4 a5 a6 a7 a8 a9
theorem Ad.perm1 (a d bl wl cp cb w0 f : Addr) (bs ws : List Addr) : (Ad.mk a d bl wl cp cb w0 bs (f :: ws)).all.Perm (f :: (Ad.mk a d bl wl cp cb w0 bs ws).all) :=
  show ([a, d, bl, wl, cp, cb, w0] ++ (bs ++ f :: ws)).Perm (f :: ([a, d, bl, wl, cp, cb, w0] ++ (bs ++ ws))) from (List.Perm.append_left _ List.perm_middle).trans List.perm_middle
theorem Ad.perm2 (a d bl wl cp cb w0 e f : Addr) (bs ws : List Addr) : (Ad.mk a d bl wl cp cb w0 (e :: bs) (f :: ws)).all.Perm (e :: f :: (Ad.mk a d bl wl cp cb w0 bs ws).all) :=
  show ([a, d, bl, wl, cp, cb, w0] ++ (e :: (bs ++ f :: ws))).Perm (e :: f :: ([a, d, bl, wl, cp, cb, w0] ++ (bs ++ ws))) from
    List.perm_middle.trans (.cons _ ((List.Perm.append_left _ List.perm_middle).trans List.perm_middle))
theorem Ad.push_nodup {a d bl wl cp cb w0 e f : Addr} {bs ws : List Addr} (nx : (Ad.mk a d bl wl cp cb w0 bs ws).all.Nodup) (fr : ∀ y ∈ (Ad.mk a d bl wl cp cb w0 bs ws).all, y ≠ e ∧ y ≠ f) (h : e ≠ f) :
    (Ad.mk a d bl wl cp cb w0 (e :: bs) (f :: ws)).all.Nodup := by
  rw [(Ad.perm2 ..).nodup_iff, List.nodup_cons, List.nodup_cons, List.mem_cons, not_or]
  exact ⟨⟨h, fun m => (fr _ m).1 rfl⟩, fun m => (fr _ m).2 rfl, nx⟩
theorem Ad.pop_nodup {a d bl wl cp cb w0 e f : Addr} {bs ws : List Addr} (nx : (Ad.mk a d bl wl cp cb w0 (e :: bs) (f :: ws)).all.Nodup) : (Ad.mk a d bl wl cp cb w0 bs ws).all.Nodup := by
  rw [(Ad.perm2 ..).nodup_iff, List.nodup_cons, List.nodup_cons] at nx
  exact nx.2.2
theorem Ad.fresh_of {a d bl wl cp cb w0 f f' : Addr} {bs ws : List Addr} (nx : (Ad.mk a d bl wl cp cb w0 bs (f :: ws)).all.Nodup) (o : ∀ y ∈ (Ad.mk a d bl wl cp cb w0 bs (f :: ws)).all, y ≠ f → y ≠ f') : f' ∉ (Ad.mk a d bl wl cp cb w0 bs ws).all := by
  rw [(Ad.perm1 ..).nodup_iff, List.nodup_cons] at nx
  exact fun m => o f' ((Ad.perm1 ..).mem_iff.mpr (.tail _ m)) (fun e => nx.1 (e ▸ m)) rfl
theorem Ad.swap_nodup {a d bl wl cp cb w0 f f' : Addr} {bs ws : List Addr} (nx : (Ad.mk a d bl wl cp cb w0 bs (f :: ws)).all.Nodup) (h : f' ∉ (Ad.mk a d bl wl cp cb w0 bs ws).all) : (Ad.mk a d bl wl cp cb w0 bs (f' :: ws)).all.Nodup := by
  rw [(Ad.perm1 ..).nodup_iff, List.nodup_cons] at nx ⊢
  exact ⟨h, nx.2⟩
end
section
section
variable {κ : Type} [DecidableEq κ]
set_option linter.unusedSectionVars false
noncomputable def wt (q : Sc κ) : Nat := q.size + q.caps.length + q.capB.length + (q.blocks.map List.length).sum + (q.waits.map List.length).sum + q.blocks.length + q.waits.length
noncomputable def shp (q : Sc κ) : Nat × Nat := (q.blocks.length, q.waits.length)
/-- every scope weighs at most W -/
noncomputable def Wt (W : Nat) (s : List (Sc κ)) : Prop := ∀ q ∈ s, wt q ≤ W
theorem Wt.up {W W' : Nat} {s : List (Sc κ)} (h : Wt W s) (le : W ≤ W') : Wt W' s := fun q hq => Nat.le_trans (h q hq) le
theorem Wt.cons {W : Nat} {q : Sc κ} {s : List (Sc κ)} (h : wt q ≤ W) (r : Wt W s) : Wt W (q :: s) := fun x hx => by
  rcases List.mem_cons.mp hx with rfl | hx
  · exact h
  · exact r x hx
/-- it adds at most c to each scope, and keeps the blocks -/
noncomputable def GOk {α : Type} (c : Nat) (g : List (Sc κ) → α × List (Sc κ)) : Prop := ∀ W s, Wt W s → Wt (W + c) (g s).2 ∧ (g s).2.map shp = s.map shp
theorem put_len {α : Type} (s : List (κ × α)) (k : κ) (v : α) : (put s k v).length ≤ s.length + 1 := by
  unfold put; split
  · rw [List.length_map]; (first | lia | omega)
  · rw [List.length_append]; exact Nat.le_refl _
theorem puts_len (w b : List (κ × Nat)) : (puts b w).length ≤ b.length + w.length := by
  induction w generalizing b with
  | nil => exact Nat.le_refl _
  | cons x r ih =>
    have h1 := ih (put b x.1 x.2)
    have h2 := put_len b x.1 x.2
    show (puts (put b x.1 x.2) r).length ≤ _
    simp only [List.length_cons]; (first | lia | omega)
theorem find_g (sig : Bool) (k : κ) : GOk 3 (find sig k) := by
  intro W s
  induction s with
  | nil => intro h; exact ⟨fun q hq => (nomatch hq), rfl⟩
  | cons q s ih =>
    intro h
    have hq := h q (.head _)
    have ih' := ih fun x hx => h x (.tail _ hx)
    cases hh : q.here k with
    | some i => rw [find_here hh]; exact ⟨h.up (by (first | lia | omega)), rfl⟩
    | none =>
      rcases hf : find sig k s with ⟨_ | pl, r'⟩
      · rw [hf] at ih'
        rw [find_none hh hf]
        exact ⟨.cons (by (first | lia | omega)) ih'.1, by simp only [List.map_cons, ih'.2]⟩
      · rw [hf] at ih'
        rw [find_some hh hf]
        refine ⟨.cons ?_ ih'.1, ?_⟩
        · have := put_len q.capB k q.size
          unfold wt at hq ⊢
          simp only [List.length_append, List.length_cons, List.length_nil]
          (first | lia | omega)
        · simp only [List.map_cons, ih'.2]; rfl
theorem tell_g (k : κ) : GOk (α := Unit) 2 (fun s => ((), tellS k s)) := by
  intro W s h
  cases s with
  | nil => exact ⟨fun q hq => (nomatch hq), rfl⟩
  | cons q s =>
    have hq := h q (.head _)
    have hs : Wt (W + 2) s := fun x hx => Nat.le_trans (h x (.tail _ hx)) (by (first | lia | omega))
    obtain ⟨caps, capB, blocks, waits, size⟩ := q
    cases waits with
    | nil => exact ⟨.cons (by simp only [wt] at hq ⊢; (first | lia | omega)) hs, rfl⟩
    | cons w ws =>
      refine ⟨.cons ?_ hs, rfl⟩
      simp only [wt, List.map_cons, List.sum_cons, List.length_append, List.length_cons, List.length_nil] at hq ⊢; (first | lia | omega)
theorem intro_g : GOk (κ := κ) (α := Unit) 0 (fun s => ((), introS s)) := by
  intro W s h
  cases s with
  | nil => exact ⟨fun q hq => (nomatch hq), rfl⟩
  | cons q s =>
    have hq := h q (.head _)
    have hs : Wt (W + 0) s := fun x hx => h x (.tail _ hx)
    obtain ⟨caps, capB, blocks, waits, size⟩ := q
    cases blocks with
    | nil => exact ⟨h, rfl⟩
    | cons b bs =>
      cases waits with
      | nil => exact ⟨h, rfl⟩
      | cons w ws =>
        refine ⟨.cons ?_ hs, rfl⟩
        have := puts_len w b
        simp only [wt, List.map_cons, List.sum_cons, List.length_cons, List.length_nil] at hq ⊢; (first | lia | omega)
theorem enter_w {W : Nat} {s : List (Sc κ)} (h : Wt W s) : Wt (W + 2) (enterS s) := by
  cases s with
  | nil => exact fun q hq => nomatch hq
  | cons q s =>
    have hq := h q (.head _)
    refine .cons ?_ fun x hx => Nat.le_trans (h x (.tail _ hx)) (by (first | lia | omega))
    simp only [wt, List.map_cons, List.sum_cons, List.length_cons, List.length_nil] at hq ⊢; (first | lia | omega)
theorem sum_tail (l : List Nat) : l.tail.sum ≤ l.sum := by cases l <;> simp
theorem leave_w {W : Nat} {s : List (Sc κ)} (h : Wt W s) : Wt W (leaveS s) := by
  cases s with
  | nil => exact fun q hq => nomatch hq
  | cons q s =>
    have hq := h q (.head _)
    refine .cons ?_ fun x hx => h x (.tail _ hx)
    have h1 := sum_tail (q.blocks.map List.length)
    have h2 := sum_tail (q.waits.map List.length)
    simp only [wt, List.map_tail, List.length_tail] at hq ⊢; (first | lia | omega)
/-- a turn within a block of its own -/
theorem inside_g {α : Type} {c : Nat} {g : List (Sc κ) → α × List (Sc κ)} (h : GOk c g) : GOk (c + 2) (fun s => ((g (enterS s)).1, leaveS (g (enterS s)).2)) := by
  intro W s hw
  obtain ⟨h1, h2⟩ := h _ _ (enter_w hw)
  refine ⟨(leave_w h1).up (by (first | lia | omega)), ?_⟩
  cases s with
  | nil =>
    have : (g (enterS [])).2 = [] := by simpa [enterS] using h2
    show (leaveS (g (enterS [])).2).map shp = _
    rw [this]; rfl
  | cons q s =>
    show (leaveS (g (enterS (q :: s))).2).map shp = _
    cases hg : (g (enterS (q :: s))).2 with
    | nil => rw [hg] at h2; simp [enterS] at h2
    | cons q' s' =>
      rw [hg] at h2
      simp only [enterS, List.map_cons, List.cons.injEq, shp, Prod.mk.injEq, List.length_cons] at h2
      simp only [leaveS, List.map_cons, h2.2, List.cons.injEq, shp, Prod.mk.injEq, List.length_tail]
      exact ⟨⟨by (first | lia | omega), by (first | lia | omega)⟩, trivial⟩
end
end
local macro_rules | `(tactic| walk_at "ne") => `(tactic| first | assumption | (apply Ne.symm; assumption))
local macro_rules | `(tactic| walk_at "mu") => `(tactic| first | assumption | exact PM.upd_self _ _ _ | (refine (PM.upd_ne _ _ ?hne).trans ?hrest; (case hne => walk_at "ne"); (case hrest => walk_at "mu")))
local macro_rules | `(tactic| walk_at "hi") => `(tactic| first | ((with_reducible first | refine' Hid.nx ?hh ?_ | refine' Hid.re ?hh ?_ | refine' Hid.br ?hh ?_ | refine' Hid.co ?hh ?_); (case hh => assumption)) | ((with_reducible refine' HidV.on ?hh ?_); (case hh => assumption)))
local macro_rules | `(tactic| walk_at "hid") => `(tactic| repeat walk_at "hi")
local macro_rules | `(tactic| walk_at "s1") => `(tactic| first
  | ((with_reducible refine r_cons ?_); intro _ _)
  | walk_at "hi"
  | (with_reducible first
    | refine wpAny_execs_nil ?_
    | refine wpAny_If ?_
    | refine wpAny_Return_some ?_
    | refine wpAny_BinOp ?_
    | refine r_int ?_
    | refine r_str ?_
    | refine Constant_bool ?_
    | refine Constant_none ?_
    | refine Subscript_ ?_
    | refine wpAny_truthy_bool ?_
    | refine r_add ?_
    | refine r_sub ?_
    | refine r_iadd ?_
    | refine r_isub ?_
    | refine PyProof.Rows.le_int ?_)
  | ((with_reducible refine' wpAny_AugAssign_Subscript_any ?_ ?ha); (case ha => (intro _ _ _; rfl)))
  | ((with_reducible first | refine' wpAny_isTrue_Compare1 ?_ ?ha | refine' wpAny_Compare1 ?_ ?ha); (case ha => with_unfolding_all rfl))
  | ((with_reducible refine' r_local ?S ?E ?hx ?hv ?_ ?d); (case S => assumption); (case E => assumption); (case hx => rfl); (case hv => first | rfl | assumption); (case d => decide))
  | ((with_reducible refine' r_glob ?B ?S ?E ?hx ?hv ?_ ?d); (case B => assumption); (case S => assumption); (case E => assumption); (case hx => rfl); (case hv => first | rfl | assumption); (case d => decide))
  | ((with_reducible refine' r_boot ?B ?S ?E ?hx ?he ?hv ?_ ?n ?d); (case B => assumption); (case S => assumption); (case E => assumption); (case hx => rfl); (case he => rfl); (case hv => boot_by_name); (case n => decide); (case d => decide))
  | ((with_reducible first | refine' r_Call ?_ ?ha | refine' r_splC ?_ ?ha); (case ha => rfl))
  | ((with_reducible refine' r_callB ?_ ?hb ?ha); (case ha => rfl); (case hb => rfl))
  | ((with_reducible refine' r_callT ?_ ?hb ?ha); (case ha => rfl); (case hb => rfl))
  | (with_reducible refine r_splN ?_))
local macro_rules | `(tactic| walk_at "envrfl") => `(tactic| first | rfl | ((have hq := ‹envX _ _ _ _ _ _ = _›); rewrite [← hq]; rfl) | ((have hq := ‹compEnvC _ _ _ _ = _›); (have hr := ‹envX _ _ _ _ _ _ = _›); rewrite [← hq, ← hr]; rfl) | (subst_vars; rfl) | with_unfolding_all rfl)
local macro_rules | `(tactic| walk_at "s2") => `(tactic| first
  | walk_at "s1"
  | (with_reducible first
    | refine r_tup ?_
    | refine IfExp_ ?_
    | refine PyProof.Rows.List_ ?_
    | refine wpAny_Break ?_
    | refine PyProof.Rows.eq_int ?_
    | refine PyProof.Rows.gt_int ?_
    | refine PyProof.Rows.lt_int ?_)
  | ((with_reducible refine' wpAny_Expr ?_ ?ha ?hb); (case ha => walk_at "envrfl"); (case hb => walk_at "envrfl"))
  | ((with_reducible refine' wpAny_Assign_Name ?_ ?ha); (case ha => walk_at "envrfl"))
  | ((with_reducible refine' r_callK ?B ?hk ?_ ?he ?hp); (case B => assumption); (case hk => rfl); (case he => rfl); (case hp => rfl))
  | with_reducible refine and_st (by assumption) ?_
  | ((with_reducible refine' r_cell ?S ?E ?hx ?hc ?hm ?ho ?_ ?d); (case S => assumption); (case E => assumption); (case hx => rfl); (case hc => rfl); (case hm => assumption); (case ho => assumption); (case d => decide))
  | ((with_reducible refine' MethodCall_ ?_ ?ha); (case ha => rfl)))
local macro_rules | `(tactic| walk_at "st") => `(tactic| (walk_at "hid"; (with_reducible refine' r_store ?S ?E ?hx ?_); (case S => assumption); (case E => assumption); (case hx => rfl)))
section
noncomputable def canKvs (r : Addr) (b : BS) (t1 t2 t3 t4 t5 : Tok) : List (Str × Value) :=
  [("row", .ref r), ("at", .int b.at_ t1), ("left", .int b.left t2), ("fresh", .int b.fresh t3), ("told", .int b.told t4), ("open", .int b.opn t5)]
noncomputable def CanAt (prog : Program) (w : World) (Mu : PM) (c r : Addr) (b : BS) : Prop := ∃ o t1 t2 t3 t4 t5, Mu c = some o ∧ o.IsDictOf (strKind prog w) (canKvs r b t1 t2 t3 t4 t5)
theorem ints_at : ∀ {vs : List Value} {is : List Int}, IntsAre vs is → ∀ k, k < is.length → ∃ t, vs[k]? = some (.int (is.getD k 0) t)
  | _, _, .nil, k, h => absurd h (Nat.not_lt_zero _)
  | _, _, .cons n t r, 0, _ => ⟨t, rfl⟩
  | _, _, .cons n t r, k + 1, h => by
    obtain ⟨t', e⟩ := ints_at r k (Nat.lt_of_succ_lt_succ h)
    exact ⟨t', by simpa using e⟩
variable {prog : Program} {w : World} {p : Program} {loose : List Str} {mean : ExcName → Option Value} {mg mb : Str → Option Value} {hB : Heap}
theorem rest_K (P : Params) : ∃ vs, (KK P).lookup 298 = some ⟨.type "tuple", none, .seq (List.toArray vs) 0, #[]⟩ ∧ IntsAre vs restL := ⟨_, by rfl, by repeat (first | exact .nil | refine .cons _ _ ?_)⟩
theorem drip_ok (B : Base (KK w.params) p loose mean mg mb hB) (c r : Addr) (n : Int) (t : Tok) (I Mu : PM) (b : BS) (vs : List Value) (nn : Nat) (is : List Int)
    (hc : CanAt prog w Mu c r b) (hr : I r = some (lstO vs nn)) (hi : IntsAre vs is) (hlen : is.length ≤ 60) (hat : b.at_ < 1000000) (hn : 0 < n) :
    CallOk prog w hB 1 3 (.ref 305) [.ref c, .int n t] I Mu (fun v I' Mu' => I = I' ∧ (∃ t, v = .int (draw is b.at_ n) t) ∧ CanAt prog w Mu' c r { b with at_ := b.at_ + 1 } ∧ ∀ a, a ≠ c → Mu' a = Mu a) := by
  refine hideP ?_; intro _ hG_
  obtain ⟨o, t1, t2, t3, t4, t5, hmu, ho⟩ := hc
  refine hG_ ?_; clear hG_
  refine call_def B (by rfl) (by rfl) (fun s => BindsTo.of_eq rfl) (locs rfl) (by decide) ?_
  intro A g L h gn dr tk os hh hd hu S
  generalize henv : envX _ _ _ _ _ _ = env
  have hE := EnvOk.of henv
  clear henv
  dsimp only at hE
  refine r_hide ?_; intro _ _
  iterate 4 walk_at "s1"
  refine r_dget S (.inMu hmu) ho (by rfl) ?_
  iterate 2 walk_at "s1"
  refine r_dset S hmu ho (Nat.le_of_ble_eq_true rfl) ?_
  intro h' o' S' ho'
  replace ho' : o'.IsDictOf (strKind prog w) (canKvs r { b with at_ := b.at_ + 1 } _ t2 t3 t4 t5) := ho'
  try dsimp only
  clear S
  repeat walk_at "s1"
  refine r_ditem S' (.inMu (PM.upd_self _ _ _)) ho' (by rfl) ?_
  try dsimp only
  repeat walk_at "s1"
  refine r_ditem S' (.inMu (PM.upd_self _ _ _)) ho' (by rfl) ?_
  try dsimp only
  repeat walk_at "s1"
  refine r_llen S' (.inI hr) (by rw [hi.length]; (first | lia | omega)) ?_
  repeat walk_at "s1"
  refine split_bool ?_ ?_ <;> intro hle
  · have hlt : b.at_ < is.length := by have := of_decide_eq_true hle; rw [← hi.length]; (first | lia | omega)
    obtain ⟨tv, hv⟩ := ints_at hi b.at_ hlt
    repeat walk_at "s1"
    refine r_ditem S' (.inMu (PM.upd_self _ _ _)) ho' (by rfl) ?_
    try dsimp only
    repeat walk_at "s1"
    refine r_ditem S' (.inMu (PM.upd_self _ _ _)) ho' (by rfl) ?_
    try dsimp only
    repeat walk_at "s1"
    refine r_litem S' (.inI hr) (by (first | lia | omega)) (by (first | lia | omega)) (by rw [show ((↑(b.at_ + 1) : Int) - 1).toNat = b.at_ by (first | lia | omega)]; exact hv) ?_
    repeat walk_at "s1"
    refine r_mod (by (first | lia | omega)) ?_
    walk_at "hid"; refine Back.intro S' (PM.le_refl _) ⟨rfl, ⟨_, by rw [draw, pick, if_pos hlt]⟩, ⟨_, _, _, _, _, _, PM.upd_self _ _ _, ho'⟩, fun a ha => PM.upd_ne _ _ ha⟩
  · have hlt : ¬ b.at_ < is.length := by have := of_decide_eq_false hle; rw [hi.length] at this; (first | lia | omega)
    obtain ⟨rv, hrv, hri⟩ := rest_K w.params
    obtain ⟨tv, hv⟩ := ints_at hri (b.at_ % 52) (Nat.mod_lt _ (by decide))
    repeat walk_at "s1"
    refine r_ditem S' (.inMu (PM.upd_self _ _ _)) ho' (by rfl) ?_
    try dsimp only
    repeat walk_at "s1"
    refine r_tlen' (isTK B S' hrv) (n := 52) hri.length (by decide) ?_
    refine r_mod (by decide) ?_
    refine r_titem' (isTK B S' hrv) (Int.fmod_nonneg (by (first | lia | omega)) (by decide)) (by have := Int.fmod_lt_of_pos ((↑(b.at_ + 1) : Int) - 1) (show (0 : Int) < (52 : Nat) by decide); (first | lia | omega)) (by
      rw [show (((↑(b.at_ + 1) : Int) - 1).fmod (52 : Nat)).toNat = b.at_ % 52 by rw [Int.fmod_eq_emod_of_nonneg _ (by decide)]; (first | lia | omega)]; exact hv) ?_
    repeat walk_at "s1"
    refine r_mod (by (first | lia | omega)) ?_
    walk_at "hid"; refine Back.intro S' (PM.le_refl _) ⟨rfl, ⟨_, by rw [draw, pick, if_neg hlt]⟩, ⟨_, _, _, _, _, _, PM.upd_self _ _ _, ho'⟩, fun a ha => PM.upd_ne _ _ ha⟩
end
section
variable {prog : Program} {w : World} {p : Program} {loose : List Str} {mean : ExcName → Option Value} {mg mb : Str → Option Value} {hB : Heap}
theorem draw_range (is : List Int) (k : Nat) {n : Int} (h : 0 < n) : 0 ≤ draw is k n ∧ draw is k n < n := ⟨Int.fmod_nonneg_of_pos _ h, Int.fmod_lt_of_pos _ h⟩
theorem sig_at (is : List Int) (k : Nat) (t u : Tok) : ∃ t', [Value.str ("$" : Str) t, .str ("@" : Str) u][(draw is k 2).toNat]? = some (.str (sigS (decide (draw is k 2 = 1))) t') := by
  have := draw_range is k (n := 2) (by decide)
  generalize draw is k 2 = d at *
  obtain rfl | rfl : d = 0 ∨ d = 1 := by (first | lia | omega)
  · exact ⟨t, rfl⟩
  · exact ⟨u, rfl⟩
theorem names_K (P : Params) : ∃ vs t1 t2 t3, (KK P).lookup 297 = some ⟨.type "tuple", none, .seq (List.toArray vs) 0, #[]⟩ ∧ vs = [.str "x" t1, .str "y" t2, .str "z" t3] := ⟨_, _, _, _, by rfl, by rfl⟩
theorem nm_at (is : List Int) (k : Nat) (t u r : Tok) : ∃ t', [Value.str ("x" : Str) t, .str ("y" : Str) u, .str ("z" : Str) r][(draw is k 3).toNat]? = some (.str (nmOf (draw is k 3).toNat) t') := by
  have := draw_range is k (n := 3) (by decide)
  generalize draw is k 3 = d at *
  obtain rfl | rfl | rfl : d = 0 ∨ d = 1 ∨ d = 2 := by (first | lia | omega)
  · exact ⟨t, rfl⟩
  · exact ⟨u, rfl⟩
  · exact ⟨r, rfl⟩
theorem sig_len (b : Bool) : (sigS b).length ≤ 1 := by cases b <;> decide
theorem nm_len (n : Nat) : (nmOf n).length ≤ 1 := by
  match n with
  | 0 => decide
  | 1 => decide
  | _ + 2 => show Str.length "z" ≤ 1; decide
theorem use_ok (B : Base (KK w.params) p loose mean mg mb hB) (c r d : Addr) (I Mu : PM) (b : BS) (seen : Seen) (vs : List Value) (nn : Nat) (is : List Int)
    (hc : CanAt prog w Mu c r b) (hr : I r = some (lstO vs nn)) (hi : IntsAre vs is) (hlen : is.length ≤ 60) (hat : b.at_ < 999000) (hs : SeenAt prog w I Mu d seen) (hdc : d ≠ c) :
    CallOk prog w hB 2 6 (.ref 312) [.ref c, .ref d] I Mu (fun v I' Mu' => Is I' v (.tup [nameD nmOne (bUse is seen b).1, nameD nmOther (bUse is seen b).1]) ∧ CanAt prog w Mu' c r (bUse is seen b).2 ∧ ∀ a, a ≠ c → Mu' a = Mu a) := by
  refine call_def B (by rfl) (by rfl) (fun s => BindsTo.of_eq rfl) (locs rfl) (by decide) ?_
  intro A g L h gn dr tk os hh hd hu S
  generalize henv : envX _ _ _ _ _ _ = env
  have hE := EnvOk.of henv
  dsimp only at hE
  refine r_hide ?_; intro _ _
  refine r_cons ?_; intro _ _
  refine r_swap2 (x := "sigil") (y := "name") ?_ (by rewrite [← henv]; rfl)
  repeat walk_at "s2"
  refine r_newTupI S (Nat.le_of_ble_eq_true rfl) ?_
  intro a1 h1 ha1 S1
  repeat walk_at "s2"
  refine r_hide ?_; intro _ _; refine (drip_ok B c r 2 _ _ _ b vs nn is hc (PM.le_upd ha1 _ _ hr) hi hlen (by (first | lia | omega)) (by decide)).go hh S1 (by (first | lia | omega)) (by (first | lia | omega)) ?_
  rintro v2 I2 Mu2 h2 tk2 S2 hle2 ⟨rfl, ⟨u2, rfl⟩, hc2, hm2⟩
  obtain ⟨t2, hv2⟩ := sig_at is b.at_ tk (tk + 1)
  walk_at "hid"
  refine r_titem S2 (.inI (PM.upd_self _ _ _)) (draw_range is _ (by decide)).1 (by have := (draw_range is b.at_ (n := 2) (by decide)).2; (first | lia | omega)) hv2 ?_
  repeat walk_at "s2"
  refine r_hide ?_; intro _ _; refine (drip_ok B c r 3 _ _ _ _ vs nn is hc2 (PM.le_upd ha1 _ _ hr) hi hlen (by show b.at_ + 1 < _; (first | lia | omega)) (by decide)).go hh S2 (by (first | lia | omega)) (by (first | lia | omega)) ?_
  rintro v3 I3 Mu3 h3 tk3 S3 hle3 ⟨rfl, ⟨u3, rfl⟩, hc3, hm3⟩
  refine hideP ?_; intro _ hG_; obtain ⟨nvs, t1', t2', t3', hnv, hnv'⟩ := names_K w.params; refine hG_ ?_; clear hG_
  obtain ⟨t3, hv3⟩ := nm_at is (b.at_ + 1) t1' t2' t3'
  walk_at "hid"
  refine r_titem' (isTK B S3 hnv) (draw_range is _ (by decide)).1 (by have := (draw_range is (b.at_ + 1) (n := 3) (by decide)).2; show draw is (b.at_ + 1) 3 < _; (first | lia | omega)) (by rw [hnv']; exact hv3) ?_
  repeat walk_at "s2"
  refine r_newTupI S3 (Nat.le_of_ble_eq_true rfl) ?_
  intro a4 h4 ha4 S4
  repeat walk_at "s2"
  refine r_unpackItems S4 hh (isT S4 (.inI (PM.upd_self _ _ _))) rfl ?_
  intro h5 S5
  refine ⟨_, _, rfl, ?_⟩
  walk_at "st"; intro h6 S6
  walk_at "st"; intro h7 S7
  repeat walk_at "s2"
  clear S S1 S2 S3 S4 S5 S6 hc hc2
  refine r_addS (by have := sig_len (decide (draw is b.at_ 2 = 1)); have := nm_len (draw is (b.at_ + 1) 3).toNat; (first | lia | omega)) ?_
  intro t8 tk8
  repeat walk_at "s2"
  refine hideP ?_; intro _ hG_; obtain ⟨so, skv, hsm, hso, hsk⟩ := hs; refine hG_ ?_; clear hG_
  have hsm3 : ∀ J : PM, I.le J → At J Mu3 d so := fun J hJ => hsm.elim (fun e => .inl (hJ _ _ e)) fun e => .inr (by rw [hm3 d hdc, hm2 d hdc]; exact e)
  have hle4 := PM.le_trans (PM.le_upd (o := tupO [Value.str ("$" : Str) tk, Value.str ("@" : Str) (tk + 1)]) ha1) (PM.le_upd (o := tupO [Value.str (sigS (decide (draw is b.at_ 2 = 1))) t2, Value.str (nmOf (draw is (b.at_ + 1) 3).toNat) t3]) ha4)
  refine r_din S7 (hsm3 _ hle4) hso (S7.notSys B (hsm3 _ hle4)) ?_
  repeat walk_at "s2"
  refine hideP ?_; intro _ hG_; obtain ⟨co, c1, c2, c3, c4, c5, hcm, hco⟩ := hc3; refine hG_ ?_; clear hG_
  have key : (valueAt skv (sigS (decide (draw is b.at_ 2 = 1)) ++ nmOf (draw is (b.at_ + 1) 3).toNat)).isSome = (lk seen (keyOf (decide (draw is b.at_ 2 = 1)) (draw is (b.at_ + 1) 3).toNat)).isSome := by
    rcases hsk.at (keyOf (decide (draw is b.at_ 2 = 1)) (draw is (b.at_ + 1) 3).toNat) with ⟨e1, e2⟩ | ⟨x, v, e1, e2, _⟩
    · rw [e1]; exact congrArg Option.isSome e2
    · rw [e1]; exact congrArg Option.isSome e2
  generalize hq : valueAt skv (sigS (decide (draw is b.at_ 2 = 1)) ++ nmOf (draw is (b.at_ + 1) 3).toNat) = q at *
  rw [key]
  refine hideP ?_; intro _ hG_; obtain ⟨m7, hm7c, hm7s, hm7g, hm7n, I7, hle7, S7'⟩ : ∃ m7, m7 "can" = some (.ref c) ∧ m7 "seen" = some (.ref d) ∧ m7 "sigil" = some (.str (sigS (decide (draw is b.at_ 2 = 1))) t2) ∧ m7 "name" = some (.str (nmOf (draw is (b.at_ + 1) 3).toNat) t3) ∧ ∃ I7, I.le I7 ∧ St hB g L m7 I7 Mu3 h7 := ⟨_, rfl, rfl, rfl, rfl, _, hle4, S7⟩; refine hG_ ?_; clear hG_
  clear S7
  replace hsm3 := hsm3 _ hle7
  have hdc' : d ≠ c := hdc
  refine split_bool ?_ ?_ <;> intro hle
  all_goals
    repeat walk_at "s2"
    refine r_dget S7' (.inMu hcm) hco (by rfl) ?_
    repeat walk_at "s2"
    refine r_dset S7' hcm hco (Nat.le_of_ble_eq_true rfl) ?_
    intro h9 o9 S9 ho9
    try dsimp only
    repeat walk_at "s2"
    refine r_newTup S9 (Nat.le_of_ble_eq_true rfl) ?_
    intro a10 h10 I10 hle10 ha10 S10
    repeat walk_at "s2"
    have hsm10 : At I10 (Mu3.upd c o9) d so := hsm3.elim (fun e => .inl (hle10 _ _ e)) fun e => .inr (by rw [PM.upd_ne _ _ hdc]; exact e)
    refine r_dictMeth S10 (o := so) (kvs := skv) hsm10 hso PySem.F.slot_dict_get PySem.F.type_dict_get ?_
    repeat walk_at "s2"
    refine r_addS (by have := sig_len (decide (draw is b.at_ 2 = 1)); have := nm_len (draw is (b.at_ + 1) 3).toNat; (first | lia | omega)) ?_
    intro t11 tk11
    repeat walk_at "s2"
    refine r_get2 B S10 (o := so) (kvs := skv) hsm10 hso ?_
    rw [hq]
    repeat walk_at "s2"
    obtain ⟨t12, he12⟩ : ∃ t12, q.getD (.str (nmOf (draw is (b.at_ + 1) 3).toNat) t3) = .str (nmOther.u (bUse is seen b).1) t12 := by
      subst hq
      rcases hsk.at (keyOf (decide (draw is b.at_ 2 = 1)) (draw is (b.at_ + 1) 3).toNat) with ⟨e1, e2⟩ | ⟨x, v, e1, e2, t, rfl⟩
      · exact ⟨t3, by rw [show valueAt skv (sigS _ ++ nmOf _) = _ from e2]; simp [nmOther, bUse, e1]⟩
      · exact ⟨t, by rw [show valueAt skv (sigS _ ++ nmOf _) = _ from e2]; simp [nmOther, bUse, e1]⟩
    rw [he12]
    refine r_newTup S10 (Nat.le_of_ble_eq_true rfl) ?_
    intro a13 h13 I13 hle13 ha13 S13
    repeat walk_at "s2"
    refine r_newTup S13 (Nat.le_of_ble_eq_true rfl) ?_
    intro a14 h14 I14 hle14 ha14 S14
    walk_at "hid"; refine Back.intro S14 (PM.le_trans hle7 (PM.le_trans hle10 (PM.le_trans hle13 hle14))) ⟨?_, ?_, ?_⟩
    · have i10 : Is I14 (.ref a10) (nameD nmOne (bUse is seen b).1) := .tup (hle14 _ _ (hle13 _ _ ha10)) (.cons (.str _ _) (.cons (.str _ _) (.cons (.str _ _) .nil)))
      have i13 : Is I14 (.ref a13) (nameD nmOther (bUse is seen b).1) := .tup (hle14 _ _ ha13) (.cons (.str _ _) (.cons (.str _ _) (.cons (.str _ _) .nil)))
      exact .tup ha14 (.cons i10 (.cons i13 .nil))
    · have e : (bUse is seen b).2 = ⟨b.at_ + 2, b.left, b.fresh, if (lk seen (keyOf (decide (draw is b.at_ 2 = 1)) (draw is (b.at_ + 1) 3).toNat)).isSome = true then b.told + 1 else b.told, if (lk seen (keyOf (decide (draw is b.at_ 2 = 1)) (draw is (b.at_ + 1) 3).toNat)).isSome = true then b.opn else b.opn + 1⟩ := rfl
      obtain ⟨t4, t5, hf⟩ : ∃ t4 t5, Obj.IsDictOf (strKind prog w) o9 (canKvs r (bUse is seen b).2 c1 c2 c3 t4 t5) := by
        rw [e, hle]
        first | exact ⟨_, c5, ho9⟩ | exact ⟨c4, _, ho9⟩
      exact ⟨_, c1, c2, c3, t4, t5, PM.upd_self _ _ _, hf⟩
    · intro a ha; rw [PM.upd_ne _ _ ha, hm3 a ha, hm2 a ha]
end
section
variable {prog : Program} {w : World} {p : Program} {loose : List Str} {mean : ExcName → Option Value} {mg mb : Str → Option Value} {hB : Heap}
theorem tells_ok (B : Base (KK w.params) p loose mean mg mb hB) (c r : Addr) (I Mu : PM) (b : BS) (vs : List Value) (nn : Nat) (is : List Int)
    (hc : CanAt prog w Mu c r b) (hr : I r = some (lstO vs nn)) (hi : IntsAre vs is) (hlen : is.length ≤ 60) (hat : b.at_ < 999000) (hfr : b.fresh < 990000) :
    CallOk prog w hB 2 6 (.ref 319) [.ref c] I Mu (fun v I' Mu' => ∃ a v1 v2 d o t, v = .ref a ∧ I' a = some (tupO [v1, v2, .ref d]) ∧ Is I' v1 (myD nmOne (bTell is b).1) ∧ Is I' v2 (myD nmOther (bTell is b).1) ∧ Mu' d = some o ∧
      o.IsDictOf (strKind prog w) [(tkey (bTell is b).1, .str (vname (bTell is b).1.id) t)] ∧ Mu d = none ∧ CanAt prog w Mu' c r (bTell is b).2 ∧ ∀ a o, a ≠ c → Mu a = some o → Mu' a = some o) := by
  refine call_def B (by rfl) (by rfl) (fun s => BindsTo.of_eq rfl) (locs rfl) (by decide) ?_
  intro A g L h gn dr tk os hh hd hu S
  generalize henv : envX _ _ _ _ _ _ = env
  have hE := EnvOk.of henv
  dsimp only at hE
  refine r_hide ?_; intro _ _
  refine r_cons ?_; intro _ _
  refine r_swap2 (x := "sigil") (y := "name") ?_ (by rewrite [← henv]; rfl)
  repeat walk_at "s2"
  refine r_newTup S (Nat.le_of_ble_eq_true rfl) ?_
  intro a1 h1 I1 hle1 ha1 S1
  repeat walk_at "s2"
  refine r_hide ?_; intro _ _; refine (drip_ok B c r 2 _ _ _ b vs nn is hc (hle1 _ _ hr) hi hlen (by (first | lia | omega)) (by decide)).go hh S1 (by (first | lia | omega)) (by (first | lia | omega)) ?_
  rintro v2 I2 Mu2 h2 tk2 S2 - ⟨rfl, ⟨u2, rfl⟩, hc2, hm2⟩
  obtain ⟨t2, hv2⟩ := sig_at is b.at_ tk (tk + 1)
  walk_at "hid"
  refine r_titem S2 (.inI ha1) (draw_range is _ (by decide)).1 (by have := (draw_range is b.at_ (n := 2) (by decide)).2; (first | lia | omega)) hv2 ?_
  repeat walk_at "s2"
  refine r_hide ?_; intro _ _; refine (drip_ok B c r 3 _ _ _ _ vs nn is hc2 (hle1 _ _ hr) hi hlen (by show b.at_ + 1 < _; (first | lia | omega)) (by decide)).go hh S2 (by (first | lia | omega)) (by (first | lia | omega)) ?_
  rintro v3 I3 Mu3 h3 tk3 S3 - ⟨rfl, ⟨u3, rfl⟩, hc3, hm3⟩
  refine hideP ?_; intro _ hG_; obtain ⟨nvs, t1', t2', t3', hnv, hnv'⟩ := names_K w.params; refine hG_ ?_; clear hG_
  obtain ⟨t3, hv3⟩ := nm_at is (b.at_ + 1) t1' t2' t3'
  walk_at "hid"
  refine r_titem' (isTK B S3 hnv) (draw_range is _ (by decide)).1 (by have := (draw_range is (b.at_ + 1) (n := 3) (by decide)).2; show draw is (b.at_ + 1) 3 < _; (first | lia | omega)) (by rw [hnv']; exact hv3) ?_
  repeat walk_at "s2"
  refine r_newTup S3 (Nat.le_of_ble_eq_true rfl) ?_
  intro a4 h4 I4 hle4 ha4 S4
  repeat walk_at "s2"
  refine r_unpackItems S4 hh (isT S4 (.inI ha4)) rfl ?_
  intro h5 S5
  refine ⟨_, _, rfl, ?_⟩
  walk_at "st"; intro h6 S6
  walk_at "st"; intro h7 S7
  clear S S1 S2 S3 S4 S5 S6 hc hc2
  repeat walk_at "s2"
  refine hideP ?_; intro _ hG_; obtain ⟨co, c1, c2, c3, c4, c5, hcm, hco⟩ := hc3; refine hG_ ?_; clear hG_
  refine r_dget S7 (.inMu hcm) hco (by rfl) ?_
  repeat walk_at "s2"
  refine r_dset S7 hcm hco (Nat.le_of_ble_eq_true rfl) ?_
  intro h8 o8 S8 ho8
  try dsimp only
  repeat walk_at "s2"
  refine r_ditem S8 (.inMu (PM.upd_self _ _ _)) ho8 (by rfl) ?_
  try dsimp only
  repeat walk_at "s2"
  refine r_strInt (n := b.fresh + 1) (by (first | lia | omega)) ?_
  repeat walk_at "s2"
  refine r_addS (by have := len_str_of_int ((b.fresh + 1 : Nat) : Int); have h9 : ((b.fresh + 1 : Nat) : Int).natAbs = b.fresh + 1 := rfl; have : Str.length "v" = 1 := rfl; (first | lia | omega)) ?_
  intro t9 tk9
  walk_at "st"; intro h10 S10
  clear S7 S8
  repeat walk_at "s2"
  refine r_newTup S10 (Nat.le_of_ble_eq_true rfl) ?_
  intro a11 h11 I11 hle11 ha11 S11
  repeat walk_at "s2"
  refine r_newTup S11 (Nat.le_of_ble_eq_true rfl) ?_
  intro a12 h12 I12 hle12 ha12 S12
  repeat walk_at "s2"
  refine r_dict S12 rfl rfl (by decide) (by decide) ?_
  intro d h13 hId hMd S13
  refine r_pairC ?_
  repeat walk_at "s2"
  refine r_addS (by have := sig_len (decide (draw is b.at_ 2 = 1)); have := nm_len (draw is (b.at_ + 1) 3).toNat; (first | lia | omega)) ?_
  intro t14 tk14
  repeat walk_at "s2"
  refine r_pairN ?_
  refine PairsOk.fin S13 (PM.upd_self _ _ _) (kvs := [(keyOf (decide (draw is b.at_ 2 = 1)) (draw is (b.at_ + 1) 3).toNat, .str (vname (b.fresh + 1)) t9)]) ⟨strKind_is prog w _ _, rfl, trivial⟩ ?_
  intro h15 o15 tk15 S15 ho15
  repeat walk_at "s2"
  refine r_newTup S15 (Nat.le_of_ble_eq_true rfl) ?_
  intro a16 h16 I16 hle16 ha16 S16
  have hdc : d ≠ c := fun e => by rw [e, PM.upd_self] at hMd; cases hMd
  walk_at "hid"; refine Back.intro S16 (PM.le_trans hle1 (PM.le_trans hle4 (PM.le_trans hle11 (PM.le_trans hle12 hle16)))) ⟨a16, _, _, d, o15, t9, rfl, ha16, ?_, ?_, ?_, ho15, ?_, ?_, ?_⟩
  · exact .tup (hle16 _ _ (hle12 _ _ ha11)) (.cons (.str _ _) (.cons (.str _ _) (.cons (.str _ _) .nil)))
  · exact .tup (hle16 _ _ ha12) (.cons (.str _ _) (.cons (.str _ _) (.cons (.str _ _) .nil)))
  · exact PM.upd_self _ _ _
  · rw [PM.upd_ne _ _ hdc, hm3 d hdc, hm2 d hdc] at hMd; exact hMd
  · exact ⟨o8, c1, c2, _, c4, c5, by rw [PM.upd_ne _ _ (Ne.symm hdc), PM.upd_ne _ _ (Ne.symm hdc), PM.upd_self], ho8⟩
  · intro a o ha ho
    have had : a ≠ d := fun e => by
      rw [PM.upd_ne _ _ hdc, hm3 d hdc, hm2 d hdc, ← e, ho] at hMd; cases hMd
    rw [PM.upd_ne _ _ had, PM.upd_ne _ _ had, PM.upd_ne _ _ ha, hm3 a ha, hm2 a ha]; exact ho
end
section
variable {prog : Program} {w : World} {p : Program} {loose : List Str} {mean : ExcName → Option Value} {mg mb : Str → Option Value} {hB : Heap}
noncomputable abbrev kvsLen (a : List (Str × Value)) (b : Seen) : Prop := a.length = b.length
structure Objs (prog : Program) (w : World) (Mu0 : PM) (c one other ds cs cc : Addr) (I : PM) (D1 D2 : List D) (seen : Seen) (Mu : PM) : Prop where
  keep : ∀ a o, a ≠ c → Mu0 a = some o → Mu a = some o
  off : ∀ a ∈ [one, other, ds, cs, cc], Mu0 a = none ∧ a ≠ c
  nd : [one, other, ds, cs, cc].Nodup
  l1 : ∃ vs n, Mu one = some (lstO vs n) ∧ IsAll I vs D1
  l2 : ∃ vs n, Mu other = some (lstO vs n) ∧ IsAll I vs D2
  s : ∃ o kvs, Mu ds = some o ∧ o.IsDictOf (strKind prog w) kvs ∧ RKvs VName kvs seen
  hcs : ∃ o, Mu cs = some o ∧ o.data = .cell (some (.ref ds))
  hcc : ∃ o, Mu cc = some o ∧ o.data = .cell (some (.ref c))
section
variable {Mu0 : PM} {c one other ds cs cc : Addr} {I I' : PM} {D1 D2 : List D} {seen : Seen} {Mu Mu' : PM} {prog : Program} {w : World}
theorem Objs.step (O : Objs prog w Mu0 c one other ds cs cc I D1 D2 seen Mu) (hI : I.le I') (hk : ∀ a o, a ≠ c → Mu a = some o → Mu' a = some o) : Objs prog w Mu0 c one other ds cs cc I' D1 D2 seen Mu' where
  keep := fun a o n e => hk a o n (O.keep a o n e)
  off := O.off
  nd := O.nd
  l1 := let ⟨vs, n, e, q⟩ := O.l1; ⟨vs, n, hk _ _ (O.off one (by simp)).2 e, IsAll.mono hI q⟩
  l2 := let ⟨vs, n, e, q⟩ := O.l2; ⟨vs, n, hk _ _ (O.off other (by simp)).2 e, IsAll.mono hI q⟩
  s := let ⟨o, k, e, q⟩ := O.s; ⟨o, k, hk _ _ (O.off ds (by simp)).2 e, q⟩
  hcs := let ⟨o, e, q⟩ := O.hcs; ⟨o, hk _ _ (O.off cs (by simp)).2 e, q⟩
  hcc := let ⟨o, e, q⟩ := O.hcc; ⟨o, hk _ _ (O.off cc (by simp)).2 e, q⟩
theorem Objs.ne (O : Objs prog w Mu0 c one other ds cs cc I D1 D2 seen Mu) : one ≠ other ∧ one ≠ ds ∧ one ≠ cs ∧ one ≠ cc ∧ other ≠ ds ∧ other ≠ cs ∧ other ≠ cc ∧ ds ≠ cs ∧ ds ≠ cc ∧ cs ≠ cc := by
  have := O.nd
  simp only [List.nodup_cons, List.mem_cons, List.not_mem_nil, or_false, not_or, List.nodup_nil, and_true] at this
  refine hideP ?_; intro _ hG_; obtain ⟨⟨a, b, c, d⟩, ⟨e, f, g⟩, ⟨h, i⟩, j, _⟩ := this; refine hG_ ?_; clear hG_
  exact ⟨a, b, c, d, e, f, g, h, i, j⟩
theorem Objs.upd_keep (O : Objs prog w Mu0 c one other ds cs cc I D1 D2 seen Mu) {x : Addr} {o' : Obj} (hx : x ∈ [one, other, ds, cs, cc]) : ∀ a o, a ≠ c → Mu0 a = some o → (Mu.upd x o') a = some o := fun a o n e => by
  rw [PM.upd_ne _ _ (fun q => by rw [q, (O.off x hx).1] at e; cases e)]; exact O.keep a o n e
theorem Objs.app1 (O : Objs prog w Mu0 c one other ds cs cc I D1 D2 seen Mu) {vs : List Value} {n n' : Nat} {v : Value} {d : D} (e : Mu one = some (lstO vs n)) (hv : Is I v d) : Objs prog w Mu0 c one other ds cs cc I (D1 ++ [d]) D2 seen (Mu.upd one (lstO (vs ++ [v]) n')) := by
  refine hideP ?_; intro _ hG_; obtain ⟨h1, h2, h3, h4, -⟩ := O.ne; refine hG_ ?_; clear hG_
  refine ⟨O.upd_keep (by simp), O.off, O.nd, ⟨_, _, PM.upd_self _ _ _, ?_⟩, ?_, ?_, ?_, ?_⟩
  · refine hideP ?_; intro _ hG_; obtain ⟨vs', n', e', q⟩ := O.l1; refine hG_ ?_; clear hG_
    rw [e] at e'; cases e'; exact q.snoc hv
  · obtain ⟨a, b, e, q⟩ := O.l2; exact ⟨a, b, by rw [PM.upd_ne _ _ (Ne.symm h1)]; exact e, q⟩
  · obtain ⟨a, b, e, q⟩ := O.s; exact ⟨a, b, by rw [PM.upd_ne _ _ (Ne.symm h2)]; exact e, q⟩
  · obtain ⟨a, e, q⟩ := O.hcs; exact ⟨a, by rw [PM.upd_ne _ _ (Ne.symm h3)]; exact e, q⟩
  · obtain ⟨a, e, q⟩ := O.hcc; exact ⟨a, by rw [PM.upd_ne _ _ (Ne.symm h4)]; exact e, q⟩
theorem Objs.app2 (O : Objs prog w Mu0 c one other ds cs cc I D1 D2 seen Mu) {vs : List Value} {n n' : Nat} {v : Value} {d : D} (e : Mu other = some (lstO vs n)) (hv : Is I v d) : Objs prog w Mu0 c one other ds cs cc I D1 (D2 ++ [d]) seen (Mu.upd other (lstO (vs ++ [v]) n')) := by
  refine hideP ?_; intro _ hG_; obtain ⟨h1, h2, h3, h4, h5, h6, h7, -⟩ := O.ne; refine hG_ ?_; clear hG_
  refine ⟨O.upd_keep (by simp), O.off, O.nd, ?_, ⟨_, _, PM.upd_self _ _ _, ?_⟩, ?_, ?_, ?_⟩
  · obtain ⟨a, b, e, q⟩ := O.l1; exact ⟨a, b, by rw [PM.upd_ne _ _ h1]; exact e, q⟩
  · refine hideP ?_; intro _ hG_; obtain ⟨vs', n', e', q⟩ := O.l2; refine hG_ ?_; clear hG_
    rw [e] at e'; cases e'; exact q.snoc hv
  · obtain ⟨a, b, e, q⟩ := O.s; exact ⟨a, b, by rw [PM.upd_ne _ _ (Ne.symm h5)]; exact e, q⟩
  · obtain ⟨a, e, q⟩ := O.hcs; exact ⟨a, by rw [PM.upd_ne _ _ (Ne.symm h6)]; exact e, q⟩
  · obtain ⟨a, e, q⟩ := O.hcc; exact ⟨a, by rw [PM.upd_ne _ _ (Ne.symm h7)]; exact e, q⟩
theorem Objs.see (O : Objs prog w Mu0 c one other ds cs cc I D1 D2 seen Mu) {o : Obj} {kvs : List (Str × Value)} {seen' : Seen} (h : o.IsDictOf (strKind prog w) kvs) (hk : RKvs VName kvs seen') : Objs prog w Mu0 c one other ds cs cc I D1 D2 seen' (Mu.upd ds o) := by
  refine hideP ?_; intro _ hG_; obtain ⟨h1, h2, h3, h4, h5, h6, h7, h8, h9, -⟩ := O.ne; refine hG_ ?_; clear hG_
  refine ⟨O.upd_keep (by simp), O.off, O.nd, ?_, ?_, ⟨_, _, PM.upd_self _ _ _, h, hk⟩, ?_, ?_⟩
  · obtain ⟨a, b, e, q⟩ := O.l1; exact ⟨a, b, by rw [PM.upd_ne _ _ h2]; exact e, q⟩
  · obtain ⟨a, b, e, q⟩ := O.l2; exact ⟨a, b, by rw [PM.upd_ne _ _ h5]; exact e, q⟩
  · obtain ⟨a, e, q⟩ := O.hcs; exact ⟨a, by rw [PM.upd_ne _ _ (Ne.symm h8)]; exact e, q⟩
  · obtain ⟨a, e, q⟩ := O.hcc; exact ⟨a, by rw [PM.upd_ne _ _ (Ne.symm h9)]; exact e, q⟩
theorem CanAt.off (x : CanAt prog w Mu c r b) {a : Addr} {o : Obj} (ha : a ≠ c) : CanAt prog w (Mu.upd a o) c r b := by
  refine hideP ?_; intro _ hG_; obtain ⟨o, t1, t2, t3, t4, t5, e, q⟩ := x; refine hG_ ?_; clear hG_
  exact ⟨o, t1, t2, t3, t4, t5, by rw [PM.upd_ne _ _ (Ne.symm ha)]; exact e, q⟩
end
theorem block_ok (B : Base (KK w.params) p loose mean mg mb hB) (c r d : Addr) (deep : Nat) (t : Tok) (I Mu : PM) (b : BS) (seen : Seen) (vs : List Value) (nn : Nat) (is : List Int)
    (hc : CanAt prog w Mu c r b) (hr : I r = some (lstO vs nn)) (hi : IntsAre vs is) (hlen : is.length ≤ 60) (hs : SeenAt prog w I Mu d seen) (hdc : d ≠ c) (hb1 : b.at_ + 10 * b.left < 900000) (hb2 : b.fresh + b.left < 900000) (hb3 : seen.length + b.left < 900000) :
    CallOk prog w hB (deep + 3) (3 * deep + 9) (.ref 324) [.ref c, .ref d, .int deep t] I Mu (fun v I' Mu' => ∃ a v1 v2, v = .ref a ∧ I' a = some (tupO [v1, v2]) ∧ Is I' v1 (blockD (stms nmOne (blk is deep seen b).1)) ∧ Is I' v2 (blockD (stms nmOther (blk is deep seen b).1)) ∧ CanAt prog w Mu' c r (blk is deep seen b).2 ∧ ∀ a o, a ≠ c → Mu a = some o → Mu' a = some o) := by
  induction deep using Nat.strongRecOn generalizing d t I Mu b seen with | _ deep IH => ?_
  refine call_defC B (by rfl) (by rfl) (fun s => BindsTo.of_eq rfl) rfl (by decide) ?_
  intro A g L h gn dr tk os cells hh hd hu Y hcells S
  refine hideP ?_; intro _ hG_; obtain ⟨o1, o2, hcl, ho1, ho2⟩ := CellsAre.two Y; refine hG_ ?_; clear hG_
  generalize henv : envX _ _ _ _ _ _ = env
  have hE := EnvOk.of henv
  dsimp only at hE
  refine r_hide ?_; intro _ _
  refine r_cons ?_; intro _ _
  refine Assign_Tuple ?_ rfl (by rewrite [← henv]; rfl)
  replace hE : EnvOk env _ L [("seen", L + 2), ("can", L + 1)] := hE
  replace ho1 : o1.data = .cell (some (.ref d)) := ho1
  replace ho2 : o2.data = .cell (some (.ref c)) := ho2
  replace hcl : cells = [(L + 2, o1), (L + 1, o2)] := hcl
  subst hcl
  have hm1 : (Mu.adds [(L + 2, o1), (L + 1, o2)]) (L + 2) = some o1 := by simp [PM.adds]
  have hm2 : (Mu.adds [(L + 2, o1), (L + 1, o2)]) (L + 1) = some o2 := by
    have h12 : (L + 1 == L + 2) = false := beq_eq_false_iff_ne.mpr fun e => absurd (Nat.add_left_cancel e) (by decide)
    simp [PM.adds, List.lookup, h12]
  have hn1 : Mu (L + 2) = none := (hcells _ (.head _)).2
  have hn2 : Mu (L + 1) = none := (hcells _ (.tail _ (.head _))).2
  have hko : ∀ a o, Mu a = some o → (Mu.adds [(L + 2, o1), (L + 1, o2)]) a = some o := fun a o e => by
    rw [PM.adds_off]; exact e
    intro q hq
    rcases List.mem_cons.mp hq with rfl | hq
    · intro e'; rw [← e', hn1] at e; cases e
    · rw [List.mem_singleton.mp hq]; intro e'; rw [← e', hn2] at e; cases e
  generalize Mu.adds [(L + 2, o1), (L + 1, o2)] = Mu1 at *
  refine hideP ?_; intro _ hG_; obtain ⟨co, c1, c2, c3, c4, c5, hcm, hco⟩ := hc; refine hG_ ?_; clear hG_
  have hc1 : CanAt prog w Mu1 c r b := ⟨co, c1, c2, c3, c4, c5, hko _ _ hcm, hco⟩
  refine hideP ?_; intro _ hG_; obtain ⟨so, skv, hsm, hso, hsk⟩ := hs; refine hG_ ?_; clear hG_
  have hsm1 : At I Mu1 d so := hsm.imp id (hko _ _)
  repeat walk_at "s2"
  refine r_newLst S (Nat.le_of_ble_eq_true rfl) ?_
  intro one h1 hI1 hM1 S1
  repeat walk_at "s2"
  refine r_newLst S1 (Nat.le_of_ble_eq_true rfl) ?_
  intro other h2 hI2 hM2 S2
  repeat walk_at "s2"
  have n1 : L + 2 ≠ one := fun e => by rw [← e, hm1] at hM1; cases hM1
  have n2 : L + 2 ≠ other := fun e => by rw [← e, PM.upd_ne _ _ n1, hm1] at hM2; cases hM2
  have n3 : L + 1 ≠ one := fun e => by rw [← e, hm2] at hM1; cases hM1
  have n4 : L + 1 ≠ other := fun e => by rw [← e, PM.upd_ne _ _ n3, hm2] at hM2; cases hM2
  have n5 : other ≠ one := fun e => by rw [e, PM.upd_self] at hM2; cases hM2
  rw [PM.upd_ne _ _ n5] at hM2
  refine r_cell S2 hE rfl rfl (o := o1) (by rw [PM.upd_ne _ _ n2, PM.upd_ne _ _ n1]; exact hm1) ho1 ?_ (by decide)
  repeat walk_at "s2"
  have up : ∀ a o, Mu1 a = some o → ((Mu1.upd one (lstO [] 0)).upd other (lstO [] 0)) a = some o := fun a o e => by
    rw [PM.upd_ne _ _ (fun q => by rw [q, hM2] at e; cases e), PM.upd_ne _ _ (fun q => by rw [q, hM1] at e; cases e)]; exact e
  have kl : kvsLen skv seen := hsk.length
  refine r_dictOf B S2 (o := so) (kvs := skv) (hsm1.imp id (up _ _)) hso (by unfold kvsLen at kl; (first | lia | omega)) ?_
  intro ds h3 od hI3 hM3 S3 hod
  repeat walk_at "s2"
  refine r_newTup S3 (Nat.le_of_ble_eq_true rfl) ?_
  intro a4 h4 I4 hle4 ha4 S4
  refine r_asgTup S4 hh (isT S4 (.inI ha4)) rfl rfl ?_
  intro h5 S5
  refine r_inOrdN ?_ rfl
  walk_at "st"; intro h6 S6
  refine r_inOrdN ?_ rfl
  walk_at "st"; intro h7 S7
  refine r_inOrdN ?_ rfl
  have n6 : L + 2 ≠ ds := fun e => by rw [← e, PM.upd_ne _ _ n2, PM.upd_ne _ _ n1, hm1] at hM3; cases hM3
  have n7 : L + 1 ≠ ds := fun e => by rw [← e, PM.upd_ne _ _ n4, PM.upd_ne _ _ n3, hm2] at hM3; cases hM3
  have n8 : ds ≠ other := fun e => by rw [e, PM.upd_self] at hM3; cases hM3
  have n9 : ds ≠ one := fun e => by rw [PM.upd_ne _ _ n8, e, PM.upd_self] at hM3; cases hM3
  have n10 : L + 2 ≠ L + 1 := fun e => absurd (Nat.add_left_cancel e) (by decide)
  rw [PM.upd_ne _ _ n8, PM.upd_ne _ _ n9] at hM3
  refine r_storeC S7 hE rfl rfl (o := o1) (by rw [PM.upd_ne _ _ n6, PM.upd_ne _ _ n2, PM.upd_ne _ _ n1]; exact hm1) ho1 ?_
  intro h8 o8 S8 ho8
  refine r_inOrdE ?_
  try dsimp only
  have hcne : ∀ x, Mu1 x = none → x ≠ c := fun x e q => by rw [q, hko _ _ hcm] at e; cases e
  have hmn : ∀ x, Mu1 x = none → Mu x = none := fun x e => by
    cases q : Mu x with
    | none => rfl
    | some o => rw [hko _ _ q] at e; cases e
  have hcL : ∀ x, Mu x = none → x ≠ c := fun x e q => by rw [q, hcm] at e; cases e
  have O : Objs prog w Mu c one other ds (L + 2) (L + 1) I4 [] [] seen ((((Mu1.upd one (lstO [] 0)).upd other (lstO [] 0)).upd ds od).upd (L + 2) o8) := by
    refine ⟨fun a o n e => ?_, ?_, ?_, ⟨[], 0, ?_, .nil⟩, ⟨[], 0, ?_, .nil⟩, ⟨od, skv, ?_, hod, hsk⟩, ⟨o8, PM.upd_self _ _ _, ho8⟩, ⟨o2, ?_, ho2⟩⟩
    · have e' := hko _ _ e
      rw [PM.upd_ne _ _ (fun q => by rw [q, hn1] at e; cases e), PM.upd_ne _ _ (fun q => by rw [q, hM3] at e'; cases e')]
      exact up _ _ e'
    · intro a ha
      simp only [List.mem_cons, List.not_mem_nil, or_false] at ha
      rcases ha with e | e | e | e | e <;> rw [e]
      · exact ⟨hmn _ hM1, hcne _ hM1⟩
      · exact ⟨hmn _ hM2, hcne _ hM2⟩
      · exact ⟨hmn _ hM3, hcne _ hM3⟩
      · exact ⟨hn1, hcL _ hn1⟩
      · exact ⟨hn2, hcL _ hn2⟩
    · simp only [List.nodup_cons, List.mem_cons, List.not_mem_nil, or_false, not_or, List.nodup_nil, and_true, not_false_eq_true]
      exact ⟨⟨Ne.symm n5, Ne.symm n9, Ne.symm n1, Ne.symm n3⟩, ⟨Ne.symm n8, Ne.symm n2, Ne.symm n4⟩, ⟨Ne.symm n6, Ne.symm n7⟩, n10⟩
    · rw [PM.upd_ne _ _ (Ne.symm n1), PM.upd_ne _ _ (Ne.symm n9), PM.upd_ne _ _ (Ne.symm n5), PM.upd_self]
    · rw [PM.upd_ne _ _ (Ne.symm n2), PM.upd_ne _ _ (Ne.symm n8), PM.upd_self]
    · rw [PM.upd_ne _ _ (Ne.symm n6), PM.upd_self]
    · rw [PM.upd_ne _ _ (Ne.symm n10), PM.upd_ne _ _ n7, PM.upd_ne _ _ n4, PM.upd_ne _ _ n3]; exact hm2
  have hc8 : CanAt prog w ((((Mu1.upd one (lstO [] 0)).upd other (lstO [] 0)).upd ds od).upd (L + 2) o8) c r b := (((hc1.off (hcne _ hM1)).off (hcne _ hM2)).off (hcne _ hM3)).off (hcL _ hn1)
  refine hideP ?_; intro _ hG_; obtain ⟨m8, hma, hmb, hmd, S9⟩ : ∃ m8, m8 "one" = some (.ref one) ∧ m8 "other" = some (.ref other) ∧ m8 "deep" = some (.int deep t) ∧ St hB g L m8 I4 ((((Mu1.upd one (lstO [] 0)).upd other (lstO [] 0)).upd ds od).upd (L + 2) o8) h8 := ⟨_, rfl, rfl, rfl, S8⟩; refine hG_ ?_; clear hG_
  have hI4 : I.le I4 := hle4
  clear hle4 S S1 S2 S3 S4 S5 S6 S7 S8 up
  generalize ((((Mu1.upd one (lstO [] 0)).upd other (lstO [] 0)).upd ds od).upd (L + 2) o8) = Mu8 at *
  clear hm1 hm2 hn1 hn2 n1 n2 n3 n4 n5 n6 n7 n8 n9 n10 hM1 hM2 hM3 hod ho8 hcne hmn hcL hko hc1 hsm1 ho1 ho2 hI1 hI2 hI3 hcells Y ha4
  walk_at "hid"; refine r_cons ?_; intro _ _; refine (wpAny_For ?_)
  obtain ⟨xc, hxc, hxc'⟩ := O.hcc
  repeat walk_at "s2"
  have hr4 := hI4 _ _ hr
  refine r_hide ?_; intro _ _; refine (drip_ok B c r 5 _ _ _ b vs nn is hc8 hr4 hi hlen (by (first | lia | omega)) (by decide)).go hh S9 (by (first | lia | omega)) (by (first | lia | omega)) ?_
  rintro v10 I10 Mu10 h10 tk10 S10 - ⟨rfl, ⟨u10, rfl⟩, hc10, hm10⟩
  have O10 := O.step (PM.le_refl _) (fun a o n e => (hm10 a n).trans e)
  clear O hm10 hxc hxc' xc S9 hc8
  repeat walk_at "s2"
  obtain ⟨n, hn, hn'⟩ : ∃ n : Nat, (1 + draw is b.at_ 5).toNat = n ∧ (1 + draw is b.at_ 5) = (n : Int) := ⟨_, rfl, by have := draw_range is b.at_ (n := 5) (by decide); (first | lia | omega)⟩
  have hn5 : n ≤ 5 := by have := draw_range is b.at_ (n := 5) (by decide); (first | lia | omega)
  rw [hn']
  refine r_range1 S10 ?_
  intro ra h11 t1 t2 t3 tk11 S11 hra
  refine r_forRange hh S11 hra (by (first | lia | omega)) (fun _ _ _ _ _ q => wpAny_pure q)
    (fun i m' I' Mu' => m' "one" = some (.ref one) ∧ m' "other" = some (.ref other) ∧ m' "deep" = some (.int deep t) ∧ ∃ D1 D2 sn bb, Objs prog w Mu c one other ds (L + 2) (L + 1) I' D1 D2 sn Mu' ∧ CanAt prog w Mu' c r bb ∧ bb.at_ + 10 * bb.left < 900002 ∧ bb.fresh + bb.left < 900000 ∧ sn.length + bb.left < 900000 ∧ D1.length ≤ i ∧ D2.length ≤ i ∧
      ∃ x, x = bLoop is (decide (0 < deep)) (inn is deep) (n - i) sn bb ∧ D1 ++ stms nmOne x.1 = stms nmOne (blk is deep seen b).1 ∧ D2 ++ stms nmOther x.1 = stms nmOther (blk is deep seen b).1 ∧ x.2 = (blk is deep seen b).2)
    (fun m' I' Mu' => m' "one" = some (.ref one) ∧ m' "other" = some (.ref other) ∧ ∃ sn, Objs prog w Mu c one other ds (L + 2) (L + 1) I' (stms nmOne (blk is deep seen b).1) (stms nmOther (blk is deep seen b).1) sn Mu' ∧ CanAt prog w Mu' c r (blk is deep seen b).2 ∧ (stms nmOne (blk is deep seen b).1).length ≤ 5 ∧ (stms nmOther (blk is deep seen b).1).length ≤ 5)
    (fun _ _ _ _ => False) ⟨hma, hmb, hmd, [], [], seen, { b with at_ := b.at_ + 1 }, O10, hc10, by show b.at_ + 1 + 10 * b.left < _; (first | lia | omega), hb2, hb3, Nat.le_refl _, Nat.le_refl _, _, rfl, ?_, ?_, ?_⟩ ?_ ?_ (fun _ _ _ _ _ _ x => x.elim)
  iterate 3
    · rw [blk_eq, hn]; rfl
  · intro i u m1 I1 Mu1 g1 h1 tk1 E' hin hJ hI1 hg1 S1
    refine r_turn ?_; intro RT hRT
    have hTN : ∀ m' I' Mu' h' tk', St hB g1 L m' I' Mu' h' → I1.le I' → _ → RT .next ⟨h', gn, dr, tk', os⟩ := fun _ _ _ _ _ S hl j => hRT _ _ (Turn.next S hl j)
    have hTB : ∀ m' I' Mu' h' tk', St hB g1 L m' I' Mu' h' → I1.le I' → _ → RT .brk ⟨h', gn, dr, tk', os⟩ := fun _ _ _ _ _ S hl j => hRT _ _ (Turn.brk S hl j)
    clear hRT
    refine hideP ?_; intro _ hG_; obtain ⟨ha, hb, hdp, D1, D2, sn, bb, O1, hc1, hb1', hb2', hb3', hl1, hl2, x, hx, hx1, hx2, hx3⟩ := hJ; refine hG_ ?_; clear hG_
    clear hc10 hra
    refine assign_Name ?_
    walk_at "st"; intro h12 S12
    refine hideP ?_; intro _ hG_; obtain ⟨m12, ha2, hb2, hdp2, S12'⟩ : ∃ m12, m12 "one" = some (.ref one) ∧ m12 "other" = some (.ref other) ∧ m12 "deep" = some (.int deep t) ∧ St hB g1 L m12 I1 Mu1 h12 := ⟨_, ha, hb, hdp, S12⟩; refine hG_ ?_; clear hG_
    clear S12 S1 ha hb hdp
    obtain ⟨k, hk⟩ : ∃ k, n - i = k + 1 := ⟨n - i - 1, by (first | lia | omega)⟩
    rw [hk] at hx
    obtain ⟨xc, hxc, hxc'⟩ := O1.hcc
    repeat walk_at "s2"
    refine hideP ?_; intro _ hG_; obtain ⟨co, c1, c2, c3, c4, c5, hcm, hco⟩ := hc1; refine hG_ ?_; clear hG_
    refine r_ditem S12' (.inMu hcm) hco (by rfl) ?_
    try dsimp only
    repeat walk_at "s2"
    refine split_bool ?_ ?_ <;> intro h0
    · repeat walk_at "s2"
      have h0' : bb.left = 0 := by simpa using h0
      have ex : x = (.nil, bb) := by rw [hx, bLoop, if_pos h0']
      subst ex
      walk_at "hid"; refine hTB _ _ _ _ _ S12' (PM.le_refl _) ⟨ha2, hb2, sn, ?_⟩
      rw [← hx1, ← hx2, ← hx3]
      have e1 : D1 ++ stms nmOne (Mine.B.nil, bb).1 = D1 := List.append_nil _
      have e2 : D2 ++ stms nmOther (Mine.B.nil, bb).1 = D2 := List.append_nil _
      rw [e1, e2]
      exact ⟨O1, ⟨co, c1, c2, c3, c4, c5, hcm, hco⟩, by (first | lia | omega), by (first | lia | omega)⟩
    have h0' : bb.left ≠ 0 := by simpa using h0
    repeat walk_at "s2"
    refine r_dget S12' (.inMu hcm) hco (by rfl) ?_
    repeat walk_at "s2"
    refine r_dset S12' hcm hco (Nat.le_of_ble_eq_true rfl) ?_
    intro h13 o13 S13 ho13
    try dsimp only
    have hb13 : CanAt prog w (Mu1.upd c o13) c r { bb with left := bb.left - 1 } := ⟨o13, c1, _, c3, c4, c5, PM.upd_self _ _ _, by
      have e : ((bb.left : Int) - 1) = ((bb.left - 1 : Nat) : Int) := by (first | lia | omega)
      rw [← show stored (canKvs r bb c1 c2 c3 c4 c5) "left" (.int ((bb.left - 1 : Nat) : Int) _) = canKvs r { bb with left := bb.left - 1 } c1 _ c3 c4 c5 from rfl]
      rw [← e]; exact ho13⟩
    have O13 := O1.step (I' := I1) (Mu' := Mu1.upd c o13) (PM.le_refl _) (fun a o n e => by rw [PM.upd_ne _ _ n]; exact e)
    generalize Mu1.upd c o13 = Mu13 at *
    clear ho13 hcm hco O1 S12' hxc hxc' xc
    obtain ⟨xc, hxc, hxc'⟩ := O13.hcc
    walk_at "hid"; refine r_cons ?_; intro _ _; refine (wpAny_Assign_Name ?_ (by rewrite [← henv]; rfl))
    refine wpAny_mono (Q := fun v s => ∃ u h' tk' Mu', s = ⟨h', gn, dr, tk', os⟩ ∧ v = .int (draw is bb.at_ (if decide (0 < deep) = true then 6 else 2)) u ∧ St hB g1 L m12 I1 Mu' h' ∧ CanAt prog w Mu' c r { bb with left := bb.left - 1, at_ := bb.at_ + 1 } ∧ ∀ a, a ≠ c → Mu' a = Mu13 a) ?_ (fun v s hP => ?_) (fun _ _ q => q)
    · repeat walk_at "s2"
      refine split_bool ?_ ?_ <;> intro hdeep
      all_goals
        repeat walk_at "s2"
        refine r_hide ?_; intro _ _; refine (drip_ok B c r _ _ _ _ _ vs nn is hb13 (hI1 _ _ hr4) hi hlen (by show bb.at_ < _; (first | lia | omega)) (by decide)).go hh S13 (by (first | lia | omega)) (by (first | lia | omega)) ?_
        rintro v14 I14 Mu14 h14 tk14 S14 - ⟨rfl, ⟨u14, rfl⟩, hc14, hm14⟩
        walk_at "hid"
        refine ⟨u14, h14, tk14, Mu14, rfl, ?_, S14, hc14, hm14⟩
        have : decide (0 < deep) = decide ((0 : Int) < deep) := by simp
        rw [this, hdeep]; rfl
    refine hideP ?_; intro _ hG_; obtain ⟨u14, h14, tk14, Mu14, rfl, rfl, S14, hc14, hm14⟩ := hP; refine hG_ ?_; clear hG_
    have O14 := O13.step (PM.le_refl _) (fun a o n e => (hm14 a n).trans e)
    walk_at "st"; intro h15 S15
    refine hideP ?_; intro _ hG_; obtain ⟨m15, ha3, hb3, hdp3, hw3, S15'⟩ : ∃ m15, m15 "one" = some (.ref one) ∧ m15 "other" = some (.ref other) ∧ m15 "deep" = some (.int deep t) ∧ m15 "way" = some (.int (draw is bb.at_ (if decide (0 < deep) = true then 6 else 2)) u14) ∧ St hB g1 L m15 I1 Mu14 h15 := ⟨_, ha2, hb2, hdp2, rfl, S15⟩; refine hG_ ?_; clear hG_
    clear S15 S14 S13 ha2 hb2 hdp2 O13 hb13 hm14 hxc hxc' xc
    generalize hwy : draw is bb.at_ (if decide (0 < deep) = true then 6 else 2) = way at *
    obtain ⟨xc, hxc, hxc'⟩ := O14.hcc
    obtain ⟨xs, hxs, hxs'⟩ := O14.hcs
    have hrI := hI1 _ _ hr4
    have ex : x = (let q := bTurn is (decide (0 < deep)) (inn is deep) sn bb; let rr := bLoop is (decide (0 < deep)) (inn is deep) k q.2.2 q.2.1; (q.1 rr.1, rr.2)) := by rw [hx, bLoop, if_neg h0']
    clear hx
    repeat walk_at "s2"
    refine split_bool ?_ ?_ <;> intro hw0
    · have hw : way = 0 := by simpa using hw0
      subst hw
      walk_at "hid"; refine r_cons ?_; intro _ _; refine (Assign_Tuple ?_ rfl (by rewrite [← henv]; rfl))
      repeat walk_at "s2"
      refine r_hide ?_; intro _ _; refine (tells_ok B c r I1 Mu14 _ vs nn is hc14 hrI hi hlen (by show bb.at_ + 1 < _; (first | lia | omega)) (by show bb.fresh < _; (first | lia | omega))).go hh S15' (by (first | lia | omega)) (by (first | lia | omega)) ?_
      rintro v20 I20 Mu20 h20 tk20 S20 hle20 ⟨a20, t1, t2, dm, om, tm, rfl, ha20, it1, it2, hdm, hom, hdmn, hc20, hk20⟩
      have O20 := O14.step hle20 hk20
      walk_at "hid"
      refine r_asgTup S20 hh (isT S20 (.inI ha20)) rfl rfl ?_
      intro h21 S21
      refine r_inOrdN ?_ rfl
      walk_at "st"; intro h22 S22
      refine r_inOrdN ?_ rfl
      walk_at "st"; intro h23 S23
      refine r_inOrdN ?_ rfl
      walk_at "st"; intro h24 S24
      refine r_inOrdE ?_
      try dsimp only
      refine hideP ?_; intro _ hG_; obtain ⟨m24, ha4, hb4, hdp4, ht4, hf4, hmo4, S24'⟩ : ∃ m24, m24 "one" = some (.ref one) ∧ m24 "other" = some (.ref other) ∧ m24 "deep" = some (.int deep t) ∧ m24 "told" = some t1 ∧ m24 "fresh" = some t2 ∧ m24 "more" = some (.ref dm) ∧ St hB g1 L m24 I20 Mu20 h24 := ⟨_, ha3, hb3, hdp3, rfl, rfl, rfl, S24⟩; refine hG_ ?_; clear hG_
      clear S20 S21 S22 S23 S24 hxc hxc' xc hxs hxs' xs
      obtain ⟨xc, hxc, hxc'⟩ := O20.hcc
      obtain ⟨xs, hxs, hxs'⟩ := O20.hcs
      walk_at "hid"; refine r_cons ?_; intro _ _; refine (Assign_Tuple ?_ rfl (by rewrite [← henv]; rfl))
      repeat walk_at "s2"
      refine hideP ?_; intro _ hG_; obtain ⟨so, skv, hso, hsd, hsk'⟩ := O20.s; refine hG_ ?_; clear hG_
      refine r_hide ?_; intro _ _; refine (use_ok B c r ds I20 Mu20 _ sn vs nn is hc20 (hle20 _ _ hrI) hi hlen (by show bb.at_ + 1 + 2 < _; (first | lia | omega)) ⟨so, skv, .inr hso, hsd, hsk'⟩ (O20.off ds (by simp)).2).go hh S24' (by (first | lia | omega)) (by (first | lia | omega)) ?_
      rintro v25 I25 Mu25 h25 tk25 S25 hle25 ⟨iu, hc25, hk25⟩
      refine iu.twoE ?_; rintro a25 u1 u2 rfl ha25 iu1 iu2
      have O25 := O20.step hle25 fun a o n e => (hk25 a n).trans e
      have hdmc : dm ≠ c := fun e => by obtain ⟨_, _, _, _, _, _, e', _⟩ := hc14; rw [e, e'] at hdmn; cases hdmn
      have hdm25 : Mu25 dm = some om := (hk25 dm hdmc).trans hdm
      walk_at "hid"
      refine r_asgTup S25 hh (isT S25 (.inI ha25)) rfl rfl ?_
      intro h26 S26
      refine r_inOrdN ?_ rfl
      walk_at "st"; intro h27 S27
      refine r_inOrdN ?_ rfl
      walk_at "st"; intro h28 S28
      refine r_inOrdE ?_
      try dsimp only
      refine hideP ?_; intro _ hG_; obtain ⟨m28, ha5, hb5, hdp5, ht5, hf5, hmo5, hu5, hr5, S28'⟩ : ∃ m28, m28 "one" = some (.ref one) ∧ m28 "other" = some (.ref other) ∧ m28 "deep" = some (.int deep t) ∧ m28 "told" = some t1 ∧ m28 "fresh" = some t2 ∧ m28 "more" = some (.ref dm) ∧ m28 "use" = some u1 ∧ m28 "renamed" = some u2 ∧ St hB g1 L m28 I25 Mu25 h28 := ⟨_, ha4, hb4, hdp4, ht4, hf4, hmo4, rfl, rfl, S28⟩; refine hG_ ?_; clear hG_
      clear S25 S26 S27 S28 hxc hxc' xc hxs hxs' xs
      repeat walk_at "s2"
      refine hideP ?_; intro _ hG_; obtain ⟨w1, k1, e1, q1⟩ := O25.l1; refine hG_ ?_; clear hG_
      have L1 : w1.length = D1.length := q1.length
      refine r_listMeth S28' (.inMu e1) PySem.F.slot_list_append PySem.F.type_list_append ?_
      repeat walk_at "s2"
      refine r_newTup S28' (Nat.le_of_ble_eq_true rfl) ?_
      intro a29 h29 I29 hle29 ha29 S29
      repeat walk_at "s2"
      refine r_newTup S29 (Nat.le_of_ble_eq_true rfl) ?_
      intro a30 h30 I30 hle30 ha30 S30
      repeat walk_at "s2"
      refine r_append S30 e1 (by (first | lia | omega)) ?_
      intro h31 n31 S31
      have id1 : Is I30 (.ref a30) (asgD (myD nmOne (bTell is { bb with left := bb.left - 1, at_ := bb.at_ + 1 }).1) (nameD nmOne (bUse is sn (bTell is { bb with left := bb.left - 1, at_ := bb.at_ + 1 }).2).1)) :=
        .tup3 ha30 (.str _ _) (.int _ _) (.tup3 (hle30 _ _ ha29) (.str _ _) (((it1.mono hle25).mono hle29).mono hle30) ((iu1.mono hle29).mono hle30))
      have O31 := (O25.step (PM.le_trans hle29 hle30) (fun _ _ _ e => e)).app1 (n' := n31) e1 id1
      have c31 := hc25.off (a := one) (o := lstO (w1 ++ [.ref a30]) n31) (O25.off one (by simp)).2
      have hne1 : dm ≠ one := fun e => by
        refine hideP ?_; intro _ hG_; obtain ⟨vs', n', e', _⟩ := O14.l1; refine hG_ ?_; clear hG_
        rw [e, e'] at hdmn; cases hdmn
      have hne2 : dm ≠ other := fun e => by
        refine hideP ?_; intro _ hG_; obtain ⟨vs', n', e', _⟩ := O14.l2; refine hG_ ?_; clear hG_
        rw [e, e'] at hdmn; cases hdmn
      have hne3 : dm ≠ ds := fun e => by
        refine hideP ?_; intro _ hG_; obtain ⟨vs', n', e', _⟩ := O14.s; refine hG_ ?_; clear hG_
        rw [e, e'] at hdmn; cases hdmn
      have d31 : (Mu25.upd one (lstO (w1 ++ [.ref a30]) n31)) dm = some om := by rw [PM.upd_ne _ _ hne1]; exact hdm25
      try dsimp only
      clear S28' S29 S30 S24' ha29 ha30
      generalize Mu25.upd one (lstO (w1 ++ [.ref a30]) n31) = Mu31 at *
      repeat walk_at "s2"
      refine hideP ?_; intro _ hG_; obtain ⟨w2, k2, e2, q2⟩ := O31.l2; refine hG_ ?_; clear hG_
      have L2 : w2.length = D2.length := q2.length
      refine r_listMeth S31 (.inMu e2) PySem.F.slot_list_append PySem.F.type_list_append ?_
      repeat walk_at "s2"
      refine r_newTup S31 (Nat.le_of_ble_eq_true rfl) ?_
      intro a32 h32 I32 hle32 ha32 S32
      repeat walk_at "s2"
      refine r_newTup S32 (Nat.le_of_ble_eq_true rfl) ?_
      intro a33 h33 I33 hle33 ha33 S33
      repeat walk_at "s2"
      refine r_append S33 e2 (by (first | lia | omega)) ?_
      intro h34 n34 S34
      have id2 : Is I33 (.ref a33) (asgD (myD nmOther (bTell is { bb with left := bb.left - 1, at_ := bb.at_ + 1 }).1) (nameD nmOther (bUse is sn (bTell is { bb with left := bb.left - 1, at_ := bb.at_ + 1 }).2).1)) :=
        .tup3 ha33 (.str _ _) (.int _ _) (.tup3 (hle33 _ _ ha32) (.str _ _) (((((it2.mono hle25).mono hle29).mono hle30).mono hle32).mono hle33) ((((iu2.mono hle29).mono hle30).mono hle32).mono hle33))
      have O34 := (O31.step (PM.le_trans hle32 hle33) (fun _ _ _ e => e)).app2 (n' := n34) e2 id2
      have c34 := c31.off (a := other) (o := lstO (w2 ++ [.ref a33]) n34) (O31.off other (by simp)).2
      have d34 : (Mu31.upd other (lstO (w2 ++ [.ref a33]) n34)) dm = some om := by rw [PM.upd_ne _ _ hne2]; exact d31
      try dsimp only
      clear S31 S32 S33 ha32 ha33
      generalize Mu31.upd other (lstO (w2 ++ [.ref a33]) n34) = Mu34 at *
      refine hideP ?_; intro _ hG_; obtain ⟨so', skv', hso', hsd', hsk''⟩ := O34.s; refine hG_ ?_; clear hG_
      obtain ⟨xs, hxs, hxs'⟩ := O34.hcs
      repeat walk_at "s2"
      refine r_dictMeth S34 (.inMu hso') hsd' PySem.F.slot_dict_update PySem.F.type_dict_update ?_
      repeat walk_at "s2"
      have LK : skv'.length = sn.length := hsk''.length
      refine r_update B S34 hso' hsd' (.inMu d34) hom (Ne.symm hne3) (by show _ + 1 ≤ _; (first | lia | omega)) ?_
      intro h35 o35 S35 ho35
      have O35 := O34.see ho35 (hsk''.set (k := tkey (bTell is { bb with left := bb.left - 1, at_ := bb.at_ + 1 }).1) (x := (bTell is { bb with left := bb.left - 1, at_ := bb.at_ + 1 }).1.id) ⟨tm, rfl⟩)
      have c35 := c34.off (a := ds) (o := o35) (O34.off ds (by simp)).2
      try dsimp only
      repeat walk_at "s2"
      have et : bTurn is (decide (0 < deep)) (inn is deep) sn bb = (.asg (bTell is { bb with left := bb.left - 1, at_ := bb.at_ + 1 }).1 (bUse is sn (bTell is { bb with left := bb.left - 1, at_ := bb.at_ + 1 }).2).1, (bUse is sn (bTell is { bb with left := bb.left - 1, at_ := bb.at_ + 1 }).2).2, put sn (tkey (bTell is { bb with left := bb.left - 1, at_ := bb.at_ + 1 }).1) (bTell is { bb with left := bb.left - 1, at_ := bb.at_ + 1 }).1.id) := by
        unfold bTurn; simp only [hwy, if_true]
      rw [et] at ex
      have en : n - (i + 1) = k := by (first | lia | omega)
      walk_at "hid"; refine hTN _ _ _ _ _ S35 (PM.le_trans hle20 (PM.le_trans hle25 (PM.le_trans hle29 (PM.le_trans hle30 (PM.le_trans hle32 hle33))))) ⟨ha5, hb5, hdp5, _, _, _, _, O35, c35, ?_, ?_, ?_, by rw [List.length_append]; exact Nat.succ_le_succ hl1, by rw [List.length_append]; exact Nat.succ_le_succ hl2, _, rfl, ?_, ?_, ?_⟩
      · show bb.at_ + 1 + 2 + 2 + 10 * (bb.left - 1) < _; (first | lia | omega)
      · show bb.fresh + 1 + (bb.left - 1) < _; (first | lia | omega)
      · have := put_length sn (tkey (bTell is { bb with left := bb.left - 1, at_ := bb.at_ + 1 }).1) (bTell is { bb with left := bb.left - 1, at_ := bb.at_ + 1 }).1.id
        show _ + (bb.left - 1) < _; (first | lia | omega)
      · rw [en, List.append_assoc, ← hx1, ex]; rfl
      · rw [en, List.append_assoc, ← hx2, ex]; rfl
      · rw [en, ← hx3, ex]
    repeat walk_at "s2"
    refine split_bool ?_ ?_ <;> intro hw1
    · have hw : way = 1 := by simpa using hw1
      subst hw
      walk_at "hid"; refine r_cons ?_; intro _ _; refine (r_asgComp (cl' := [("seen", L + 2), ("can", L + 1)]) (by rewrite [← henv]; rfl) (by rewrite [← henv]; rfl) rfl rfl ?_ (fun _ => rfl))
      repeat walk_at "s2"
      refine r_range1 (c := 2) S15' ?_
      intro ra2 h16 t1 t2 t3 tk16 S16 hra2
      refine r_compRange (c := 2) hh rfl rfl rfl S16 hra2 (by decide)
        (fun j ys I' Mu' => ∃ ds', IsAll I' ys ds' ∧ ds'.length = j ∧ Objs prog w Mu c one other ds (L + 2) (L + 1) I' D1 D2 sn Mu' ∧ CanAt prog w Mu' c r (Nat.repeat (fun b => (bUse is sn b).2) j { bb with left := bb.left - 1, at_ := bb.at_ + 1 }) ∧
          ∀ q, q < j → ds'[q]? = some (.tup [nameD nmOne (bUse is sn (Nat.repeat (fun b => (bUse is sn b).2) q { bb with left := bb.left - 1, at_ := bb.at_ + 1 })).1, nameD nmOther (bUse is sn (Nat.repeat (fun b => (bUse is sn b).2) q { bb with left := bb.left - 1, at_ := bb.at_ + 1 })).1]))
        ⟨[], .nil, rfl, O14, hc14, fun q hq => absurd hq (Nat.not_lt_zero _)⟩ ?_ ?_
      · intro j ys C m17 I17 Mu17 g17 h17 tk17 E17 hj ⟨ds', hys, hlen', O17, hc17, hds⟩ hle17 S17
        generalize hec : compEnvC _ _ C env = ec
        have hEc : EnvOk ec [(".0", .local), ("place", .local), ("_law_use", .globalImplicit), ("can", .cell), ("seen", .cell)] C [("seen", L + 2), ("can", L + 1)] := by rewrite [← hec, ← henv]; exact ⟨rfl, rfl, rfl, rfl, rfl, rfl⟩
        obtain ⟨xc', hxc2, hxc2'⟩ := O17.hcc
        obtain ⟨xs', hxs2, hxs2'⟩ := O17.hcs
        repeat walk_at "s2"
        refine hideP ?_; intro _ hG_; obtain ⟨so, skv, hso, hsd, hsk'⟩ := O17.s; refine hG_ ?_; clear hG_
        have hbq : ∀ j, (Nat.repeat (fun b => (bUse is sn b).2) j { bb with left := bb.left - 1, at_ := bb.at_ + 1 }).at_ = bb.at_ + 1 + 2 * j := by
          intro j; induction j with
          | zero => rfl
          | succ j ih => show BS.at_ (Nat.repeat _ j _) + 2 = _; rw [ih]; (first | lia | omega)
        refine r_hide ?_; intro _ _; refine (use_ok B c r ds I17 Mu17 _ sn vs nn is hc17 (hle17 _ _ hrI) hi hlen (by rw [hbq]; (first | lia | omega)) ⟨so, skv, .inr hso, hsd, hsk'⟩ (O17.off ds (by simp)).2).go hh S17 (by (first | lia | omega)) (by (first | lia | omega)) ?_
        rintro v18 I18 Mu18 h18 tk18 S18 hle18 ⟨iu, hc18, hk18⟩
        walk_at "hid"
        refine EltOk.intro S18 hle18 ⟨ds' ++ [_], (hys.mono hle18).snoc iu, by rw [List.length_append, hlen']; rfl, O17.step hle18 fun a o n e => (hk18 a n).trans e, hc18, fun q hq => ?_⟩
        by_cases hqj : q < j
        · rw [List.getElem?_append_left (by (first | lia | omega))]; exact hds q hqj
        · obtain rfl : q = j := by (first | lia | omega)
          rw [← hlen', List.getElem?_concat_length, hlen']
      · intro D C ys I17 Mu17 h17 tk17 k17 m17 ⟨ds', hys, hlen', O17, hc17, hds⟩ hlys hle17 hD S17 hns hC
        refine comp_use (y := "uses") hE S17 hns hC rfl ?_
        intro h18 S18
        obtain ⟨d1, d2, rfl⟩ : ∃ d1 d2, ds' = [d1, d2] := by
          match ds', hlen' with
          | [d1, d2], _ => exact ⟨d1, d2, rfl⟩
        obtain rfl : d1 = _ := Option.some.inj (hds 0 (by decide))
        obtain rfl : d2 = _ := Option.some.inj (hds 1 (by decide))
        obtain ⟨y1, y2, rfl, iy1, iy2⟩ : ∃ y1 y2, ys = [y1, y2] ∧ Is I17 y1 _ ∧ Is I17 y2 _ := by
          cases hys with
          | cons a r => cases r with
            | cons b r => cases r; exact ⟨_, _, rfl, a, b⟩
        dsimp only [Nat.repeat] at hc17 iy1 iy2
        clear hds hys hlys hlen'
        try dsimp only
        have hleD := PM.le_upd (o := lstO [y1, y2] k17) hD
        refine hideP ?_; intro _ hG_; obtain ⟨m18, ha4, hb4, hdp4, hu4, S18'⟩ : ∃ m18, m18 "one" = some (.ref one) ∧ m18 "other" = some (.ref other) ∧ m18 "deep" = some (.int deep t) ∧ m18 "uses" = some (.ref D) ∧ St hB g1 L m18 (I17.upd D (lstO [y1, y2] k17)) Mu17 h18 := ⟨_, ha3, hb3, hdp3, rfl, S18⟩; refine hG_ ?_; clear hG_
        have hDl : (I17.upd D (lstO [y1, y2] k17)) D = some (lstO [y1, y2] k17) := PM.upd_self _ _ _
        replace iy1 := iy1.mono hleD
        replace iy2 := iy2.mono hleD
        have O18 := O17.step hleD fun _ _ _ e => e
        have hle18 := PM.le_trans hle17 hleD
        clear S18 S17 hns hC hD O17 hleD
        generalize I17.upd D (lstO [y1, y2] k17) = I18 at *
        refine iy1.twoE ?_; rintro ay1 p1 p2 rfl hay1 ip1 ip2
        refine iy2.twoE ?_; rintro ay2 p3 p4 rfl hay2 ip3 ip4
        repeat walk_at "s2"
        refine hideP ?_; intro _ hG_; obtain ⟨w1, k1, e1, q1⟩ := O18.l1; refine hG_ ?_; clear hG_
        have L1 : w1.length = D1.length := q1.length
        refine r_listMeth S18' (.inMu e1) PySem.F.slot_list_append PySem.F.type_list_append ?_
        repeat walk_at "s2"
        refine r_ListComp (cl := []) (by rfl) rfl rfl ?_ (fun _ => rfl)
        repeat walk_at "s2"
        refine r_compList hh rfl rfl rfl S18' hDl (Nat.le_of_ble_eq_true rfl) (fun j ys I' Mu' => Mu17 = Mu' ∧ ys = [p1, p3].take j) ⟨rfl, rfl⟩ ?_ ?_
        · rintro j v ys C m19 I19 Mu19 g19 h19 tk19 E19 hj ⟨rfl, hys⟩ hle19 S19 hx19
          generalize hec : compEnvC _ _ C env = ec
          have hEc : EnvOk ec [(".0", .local), ("pair", .local)] C [] := by rewrite [← hec, ← henv]; exact ⟨rfl, rfl, rfl, rfl, rfl, rfl⟩
          repeat walk_at "s2"
          obtain rfl | rfl : j = 0 ∨ j = 1 := by
            have := (List.getElem?_eq_some_iff.mp hj).1
            simp only [List.length_cons, List.length_nil] at this; (first | lia | omega)
          · obtain rfl : .ref ay1 = v := Option.some.inj hj
            refine r_titem S19 (.inI (hle19 _ _ hay1)) (by decide) (by decide) (by rfl) ?_
            exact EltOk.intro S19 (PM.le_refl _) ⟨rfl, by rw [hys]; rfl⟩
          · obtain rfl : .ref ay2 = v := Option.some.inj hj
            refine r_titem S19 (.inI (hle19 _ _ hay2)) (by decide) (by decide) (by rfl) ?_
            exact EltOk.intro S19 (PM.le_refl _) ⟨rfl, by rw [hys]; rfl⟩
        · rintro D3 C ys I19 Mu19 h19 tk19 k19 m19 ⟨rfl, hys⟩ hl19 hle19 hD3 S19 hns hC
          refine comp_end S19 hns hC ?_
          intro h20 S20
          obtain rfl : ys = [p1, p3] := hys
          have hD3' : (I19.upd D3 (lstO [p1, p3] k19)) D3 = some (lstO [p1, p3] k19) := PM.upd_self _ _ _
          have hle20 := PM.le_trans hle19 (PM.le_upd (o := lstO [p1, p3] k19) hD3)
          clear hns hC hD3 S19 hle19
          generalize I19.upd D3 (lstO [p1, p3] k19) = I20 at *
          repeat walk_at "s2"
          refine r_newTup S20 (Nat.le_of_ble_eq_true rfl) ?_
          intro a21 h21 I21 hle21 ha21 S21
          repeat walk_at "s2"
          refine r_newTup S21 (Nat.le_of_ble_eq_true rfl) ?_
          intro a22 h22 I22 hle22 ha22 S22
          repeat walk_at "s2"
          refine r_append S22 e1 (by (first | lia | omega)) ?_
          intro h23 n23 S23
          have id1 : Is I22 (.ref a22) (twoD (nameD nmOne (bUse is sn { bb with left := bb.left - 1, at_ := bb.at_ + 1 }).1) (nameD nmOne (bUse is sn (bUse is sn { bb with left := bb.left - 1, at_ := bb.at_ + 1 }).2).1)) :=
            .tup3 ha22 (.str _ _) (.int _ _) (.tup2 (hle22 _ _ ha21) (.str _ _) (.lst (hle22 _ _ (hle21 _ _ hD3')) (.cons (((ip1.mono hle20).mono hle21).mono hle22) (.cons (((ip3.mono hle20).mono hle21).mono hle22) .nil))))
          have O23 := (O18.step (PM.le_trans hle20 (PM.le_trans hle21 hle22)) (fun _ _ _ e => e)).app1 (n' := n23) e1 id1
          have c23 := hc17.off (a := one) (o := lstO (w1 ++ [.ref a22]) n23) (O18.off one (by simp)).2
          try dsimp only
          have hle23 := PM.le_trans hle20 (PM.le_trans hle21 hle22)
          clear S20 S21 S22 ha21 ha22 S18'
          generalize Mu17.upd one (lstO (w1 ++ [.ref a22]) n23) = Mu23 at *
          repeat walk_at "s2"
          refine hideP ?_; intro _ hG_; obtain ⟨w2, k2, e2, q2⟩ := O23.l2; refine hG_ ?_; clear hG_
          have L2 : w2.length = D2.length := q2.length
          refine r_listMeth S23 (.inMu e2) PySem.F.slot_list_append PySem.F.type_list_append ?_
          repeat walk_at "s2"
          refine r_ListComp (cl := []) (by rfl) rfl rfl ?_ (fun _ => rfl)
          repeat walk_at "s2"
          refine r_compList hh rfl rfl rfl S23 (hle23 _ _ hDl) (Nat.le_of_ble_eq_true rfl) (fun j ys I' Mu' => Mu23 = Mu' ∧ ys = [p2, p4].take j) ⟨rfl, rfl⟩ ?_ ?_
          · rintro j v ys C m19' I19 Mu19' g19 h19 tk19' E19 hj ⟨rfl, hys⟩ hle19 S19 hx19
            generalize hec : compEnvC _ _ C env = ec
            have hEc : EnvOk ec [(".0", .local), ("pair", .local)] C [] := by rewrite [← hec, ← henv]; exact ⟨rfl, rfl, rfl, rfl, rfl, rfl⟩
            repeat walk_at "s2"
            replace hle19 := PM.le_trans hle23 hle19
            obtain rfl | rfl : j = 0 ∨ j = 1 := by
              have := (List.getElem?_eq_some_iff.mp hj).1
              simp only [List.length_cons, List.length_nil] at this; (first | lia | omega)
            · obtain rfl : .ref ay1 = v := Option.some.inj hj
              refine r_titem S19 (.inI (hle19 _ _ hay1)) (by decide) (by decide) (by rfl) ?_
              exact EltOk.intro S19 (PM.le_refl _) ⟨rfl, by rw [hys]; rfl⟩
            · obtain rfl : .ref ay2 = v := Option.some.inj hj
              refine r_titem S19 (.inI (hle19 _ _ hay2)) (by decide) (by decide) (by rfl) ?_
              exact EltOk.intro S19 (PM.le_refl _) ⟨rfl, by rw [hys]; rfl⟩
          · rintro D4 C ys I24 Mu24 h24 tk24 k24 m24 ⟨rfl, hys⟩ hl24 hle24 hD4 S24 hns hC
            refine comp_end S24 hns hC ?_
            intro h25 S25
            obtain rfl : ys = [p2, p4] := hys
            have hD4' : (I24.upd D4 (lstO [p2, p4] k24)) D4 = some (lstO [p2, p4] k24) := PM.upd_self _ _ _
            have hle25 := PM.le_trans hle24 (PM.le_upd (o := lstO [p2, p4] k24) hD4)
            clear hns hC hD4 S24 hle24
            generalize I24.upd D4 (lstO [p2, p4] k24) = I25 at *
            repeat walk_at "s2"
            refine r_newTup S25 (Nat.le_of_ble_eq_true rfl) ?_
            intro a26 h26 I26 hle26 ha26 S26
            repeat walk_at "s2"
            refine r_newTup S26 (Nat.le_of_ble_eq_true rfl) ?_
            intro a27 h27 I27 hle27 ha27 S27
            repeat walk_at "s2"
            refine r_append S27 e2 (by (first | lia | omega)) ?_
            intro h28 n28 S28
            have mm : I18.le I27 := PM.le_trans hle23 (PM.le_trans hle25 (PM.le_trans hle26 hle27))
            have id2 : Is I27 (.ref a27) (twoD (nameD nmOther (bUse is sn { bb with left := bb.left - 1, at_ := bb.at_ + 1 }).1) (nameD nmOther (bUse is sn (bUse is sn { bb with left := bb.left - 1, at_ := bb.at_ + 1 }).2).1)) :=
              .tup3 ha27 (.str _ _) (.int _ _) (.tup2 (hle27 _ _ ha26) (.str _ _) (.lst (hle27 _ _ (hle26 _ _ hD4')) (.cons (ip2.mono mm) (.cons (ip4.mono mm) .nil))))
            have O28 := (O23.step (PM.le_trans hle25 (PM.le_trans hle26 hle27)) (fun _ _ _ e => e)).app2 (n' := n28) e2 id2
            have c28 := c23.off (a := other) (o := lstO (w2 ++ [.ref a27]) n28) (O23.off other (by simp)).2
            try dsimp only
            repeat walk_at "s2"
            have et : bTurn is (decide (0 < deep)) (inn is deep) sn bb = (.two (bUse is sn { bb with left := bb.left - 1, at_ := bb.at_ + 1 }).1 (bUse is sn (bUse is sn { bb with left := bb.left - 1, at_ := bb.at_ + 1 }).2).1, (bUse is sn (bUse is sn { bb with left := bb.left - 1, at_ := bb.at_ + 1 }).2).2, sn) := by
              unfold bTurn; rw [hwy]; rfl
            rw [et] at ex
            have en : n - (i + 1) = k := by (first | lia | omega)
            walk_at "hid"; refine hTN _ _ _ _ _ S28 (PM.le_trans hle18 mm) ⟨ha4, hb4, hdp4, _, _, _, _, O28, c28, ?_, ?_, ?_, by rw [List.length_append]; exact Nat.succ_le_succ hl1, by rw [List.length_append]; exact Nat.succ_le_succ hl2, _, rfl, ?_, ?_, ?_⟩
            · show bb.at_ + 1 + 2 + 2 + 10 * (bb.left - 1) < _; (first | lia | omega)
            · show bb.fresh + (bb.left - 1) < _; (first | lia | omega)
            · show _ + (bb.left - 1) < _; (first | lia | omega)
            · rw [en, List.append_assoc, ← hx1, ex]; rfl
            · rw [en, List.append_assoc, ← hx2, ex]; rfl
            · rw [en, ← hx3, ex]
    repeat walk_at "s2"
    refine split_bool ?_ ?_ <;> intro hw4
    · have hw4' : way < 4 := of_decide_eq_true hw4
      have hge : 2 ≤ way := by
        have h0 : way ≠ 0 := by simpa using hw0
        have h1 : way ≠ 1 := by simpa using hw1
        have := (draw_range is bb.at_ (n := if decide (0 < deep) = true then 6 else 2) (by split <;> decide)).1
        rw [hwy] at this; (first | lia | omega)
      have hdp : 0 < deep := by
        by_cases q : 0 < deep
        · exact q
        · have := (draw_range is bb.at_ (n := 2) (by decide)).2
          rw [show decide (0 < deep) = false by simpa using q] at hwy
          simp only [Bool.false_eq_true, if_false] at hwy
          (first | lia | omega)
      walk_at "hid"; refine r_cons ?_; intro _ _; refine (Assign_Tuple ?_ rfl (by rewrite [← henv]; rfl))
      repeat walk_at "s2"
      rw [show ((deep : Int) - 1) = ((deep - 1 : Nat) : Int) by (first | lia | omega)]
      refine hideP ?_; intro _ hG_; obtain ⟨so, skv, hso, hsd, hsk'⟩ := O14.s; refine hG_ ?_; clear hG_
      refine r_hide ?_; intro _ _; refine ((IH (deep - 1) (by (first | lia | omega)) ds _ I1 Mu14 { bb with left := bb.left - 1, at_ := bb.at_ + 1 } sn hc14 hrI ⟨so, skv, .inr hso, hsd, hsk'⟩ (O14.off ds (by simp)).2 (by show bb.at_ + 1 + 10 * (bb.left - 1) < _; (first | lia | omega)) (by show bb.fresh + (bb.left - 1) < _; (first | lia | omega)) (by show _ + (bb.left - 1) < _; (first | lia | omega))).up (d' := deep + 2) (u' := 3 * deep + 6) (by (first | lia | omega)) (by (first | lia | omega))).go hh S15' (by (first | lia | omega)) (by (first | lia | omega)) ?_
      rintro v20 I20 Mu20 h20 tk20 S20 hle20 ⟨a20, t1, t2, rfl, ha20, it1, it2, hc20, hk20⟩
      have hbd := blk_bd is (deep - 1) sn { bb with left := bb.left - 1, at_ := bb.at_ + 1 }
      simp only [Bd] at hbd
      have O20 := O14.step hle20 hk20
      walk_at "hid"
      refine r_asgTup S20 hh (isT S20 (.inI ha20)) rfl rfl ?_
      intro h21 S21
      refine r_inOrdN ?_ rfl
      walk_at "st"; intro h22 S22
      refine r_inOrdN ?_ rfl
      walk_at "st"; intro h23 S23
      refine r_inOrdE ?_
      try dsimp only
      refine hideP ?_; intro _ hG_; obtain ⟨m24, ha4, hb4, hdp4, hw4, ht4, hf4, S24⟩ : ∃ m24, m24 "one" = some (.ref one) ∧ m24 "other" = some (.ref other) ∧ m24 "deep" = some (.int deep t) ∧ m24 "way" = some (.int way u14) ∧ m24 "first" = some t1 ∧ m24 "second" = some t2 ∧ St hB g1 L m24 I20 Mu20 h23 := ⟨_, ha3, hb3, hdp3, hw3, rfl, rfl, S23⟩; refine hG_ ?_; clear hG_
      clear S20 S21 S22 S23
      have et : bTurn is (decide (0 < deep)) (inn is deep) sn bb = (if way = 2 then .bare (blk is (deep - 1) sn { bb with left := bb.left - 1, at_ := bb.at_ + 1 }).1 else .sub (blk is (deep - 1) sn { bb with left := bb.left - 1, at_ := bb.at_ + 1 }).1, (blk is (deep - 1) sn { bb with left := bb.left - 1, at_ := bb.at_ + 1 }).2, sn) := by
        unfold bTurn; rw [hwy, inn_succ is hdp]
        try dsimp only
        rw [if_neg (by (first | lia | omega)), if_neg (by (first | lia | omega))]
        split
        · rfl
        · rw [if_pos (by (first | lia | omega))]
      rw [et] at ex
      clear et
      have en : n - (i + 1) = k := by (first | lia | omega)
      repeat walk_at "s2"
      obtain rfl | rfl : way = 2 ∨ way = 3 := by (first | lia | omega)
      · refine hideP ?_; intro _ hG_; obtain ⟨w1, k1, e1, q1⟩ := O20.l1; refine hG_ ?_; clear hG_
        have L1 : w1.length = D1.length := q1.length
        refine r_listMeth S24 (.inMu e1) PySem.F.slot_list_append PySem.F.type_list_append ?_
        repeat walk_at "s2"
        rw [if_pos (by decide)]
        repeat walk_at "s2"
        refine r_newTup S24 (Nat.le_of_ble_eq_true rfl) ?_
        intro at10 ht10 It10 hlet10 hat10 St10
        repeat walk_at "s2"
        refine r_append St10 e1 (by (first | lia | omega)) ?_
        intro hap1 nap1 Sap1
        have mle1 := hlet10
        have id1 : Is It10 (.ref at10) (bareD (stms nmOne (blk is (deep - 1) sn { bb with left := bb.left - 1, at_ := bb.at_ + 1 }).1)) := .tup3 hat10 (.str _ _) (.str _ _) (it1.mono (mle1))
        have O31 := (O20.step mle1 (fun _ _ _ e => e)).app1 (n' := nap1) e1 id1
        have c31 := hc20.off (a := one) (o := lstO (w1 ++ [.ref at10]) nap1) (O20.off one (by simp)).2
        try dsimp only
        clear S24 St10
        generalize Mu20.upd one (lstO (w1 ++ [.ref at10]) nap1) = Mu31 at *
        repeat walk_at "s2"
        refine hideP ?_; intro _ hG_; obtain ⟨w2, k2, e2, q2⟩ := O31.l2; refine hG_ ?_; clear hG_
        have L2 : w2.length = D2.length := q2.length
        refine r_listMeth Sap1 (.inMu e2) PySem.F.slot_list_append PySem.F.type_list_append ?_
        repeat walk_at "s2"
        rw [if_pos (by decide)]
        repeat walk_at "s2"
        refine r_newTup Sap1 (Nat.le_of_ble_eq_true rfl) ?_
        intro at20 ht20 It20 hlet20 hat20 St20
        repeat walk_at "s2"
        refine r_append St20 e2 (by (first | lia | omega)) ?_
        intro hap2 nap2 Sap2
        have mle2 := hlet20
        have id2 : Is It20 (.ref at20) (bareD (stms nmOther (blk is (deep - 1) sn { bb with left := bb.left - 1, at_ := bb.at_ + 1 }).1)) := .tup3 hat20 (.str _ _) (.str _ _) (it2.mono (PM.le_trans mle1 mle2))
        have O32 := (O31.step mle2 (fun _ _ _ e => e)).app2 (n' := nap2) e2 id2
        have c32 := c31.off (a := other) (o := lstO (w2 ++ [.ref at20]) nap2) (O31.off other (by simp)).2
        try dsimp only
        repeat walk_at "s2"
        walk_at "hid"; refine hTN _ _ _ _ _ Sap2 (PM.le_trans hle20 (PM.le_trans mle1 mle2)) ⟨ha4, hb4, hdp4, _, _, _, _, O32, c32, by (first | lia | omega), by (first | lia | omega), by (first | lia | omega), by rw [List.length_append]; exact Nat.succ_le_succ hl1, by rw [List.length_append]; exact Nat.succ_le_succ hl2, _, rfl, ?_, ?_, ?_⟩
        · rw [en, List.append_assoc, ← hx1, ex]; rfl
        · rw [en, List.append_assoc, ← hx2, ex]; rfl
        · rw [en, ← hx3, ex]
      · refine hideP ?_; intro _ hG_; obtain ⟨w1, k1, e1, q1⟩ := O20.l1; refine hG_ ?_; clear hG_
        have L1 : w1.length = D1.length := q1.length
        refine r_listMeth S24 (.inMu e1) PySem.F.slot_list_append PySem.F.type_list_append ?_
        repeat walk_at "s2"
        rw [if_neg (by decide)]
        repeat walk_at "s2"
        refine r_newLstF S24 (Nat.le_of_ble_eq_true rfl) ?_
        intro al1 hl1_ Il1 hlel1 hal1 Sl1
        repeat walk_at "s2"
        refine r_newTup Sl1 (Nat.le_of_ble_eq_true rfl) ?_
        intro at10 ht10 It10 hlet10 hat10 St10
        repeat walk_at "s2"
        refine r_newTup St10 (Nat.le_of_ble_eq_true rfl) ?_
        intro at11 ht11 It11 hlet11 hat11 St11
        repeat walk_at "s2"
        refine r_newTup St11 (Nat.le_of_ble_eq_true rfl) ?_
        intro at12 ht12 It12 hlet12 hat12 St12
        repeat walk_at "s2"
        refine r_append St12 e1 (by (first | lia | omega)) ?_
        intro hap1 nap1 Sap1
        have mle1 := PM.le_trans hlel1 (PM.le_trans hlet10 (PM.le_trans hlet11 (hlet12)))
        have id1 : Is It12 (.ref at12) (subD (stms nmOne (blk is (deep - 1) sn { bb with left := bb.left - 1, at_ := bb.at_ + 1 }).1) 0 []) := .tup3 hat12 (.str _ _) (.int _ _) (.tup2 (hlet12 _ _ (hat11)) (.str _ _) (.tup (hlet12 _ _ (hlet11 _ _ (hat10))) (.cons (.str _ _) (.cons (.str _ _) (.cons (it1.mono (mle1)) (.cons (.int _ _) (.cons (.lst (hlet12 _ _ (hlet11 _ _ (hlet10 _ _ (hal1)))) .nil) .nil)))))))
        have O31 := (O20.step mle1 (fun _ _ _ e => e)).app1 (n' := nap1) e1 id1
        have c31 := hc20.off (a := one) (o := lstO (w1 ++ [.ref at12]) nap1) (O20.off one (by simp)).2
        try dsimp only
        clear S24 St10 St11 St12 Sl1
        generalize Mu20.upd one (lstO (w1 ++ [.ref at12]) nap1) = Mu31 at *
        repeat walk_at "s2"
        refine hideP ?_; intro _ hG_; obtain ⟨w2, k2, e2, q2⟩ := O31.l2; refine hG_ ?_; clear hG_
        have L2 : w2.length = D2.length := q2.length
        refine r_listMeth Sap1 (.inMu e2) PySem.F.slot_list_append PySem.F.type_list_append ?_
        repeat walk_at "s2"
        rw [if_neg (by decide)]
        repeat walk_at "s2"
        refine r_newLstF Sap1 (Nat.le_of_ble_eq_true rfl) ?_
        intro al2 hl2_ Il2 hlel2 hal2 Sl2
        repeat walk_at "s2"
        refine r_newTup Sl2 (Nat.le_of_ble_eq_true rfl) ?_
        intro at20 ht20 It20 hlet20 hat20 St20
        repeat walk_at "s2"
        refine r_newTup St20 (Nat.le_of_ble_eq_true rfl) ?_
        intro at21 ht21 It21 hlet21 hat21 St21
        repeat walk_at "s2"
        refine r_newTup St21 (Nat.le_of_ble_eq_true rfl) ?_
        intro at22 ht22 It22 hlet22 hat22 St22
        repeat walk_at "s2"
        refine r_append St22 e2 (by (first | lia | omega)) ?_
        intro hap2 nap2 Sap2
        have mle2 := PM.le_trans hlel2 (PM.le_trans hlet20 (PM.le_trans hlet21 (hlet22)))
        have id2 : Is It22 (.ref at22) (subD (stms nmOther (blk is (deep - 1) sn { bb with left := bb.left - 1, at_ := bb.at_ + 1 }).1) 0 []) := .tup3 hat22 (.str _ _) (.int _ _) (.tup2 (hlet22 _ _ (hat21)) (.str _ _) (.tup (hlet22 _ _ (hlet21 _ _ (hat20))) (.cons (.str _ _) (.cons (.str _ _) (.cons (it2.mono (PM.le_trans mle1 mle2)) (.cons (.int _ _) (.cons (.lst (hlet22 _ _ (hlet21 _ _ (hlet20 _ _ (hal2)))) .nil) .nil)))))))
        have O32 := (O31.step mle2 (fun _ _ _ e => e)).app2 (n' := nap2) e2 id2
        have c32 := c31.off (a := other) (o := lstO (w2 ++ [.ref at22]) nap2) (O31.off other (by simp)).2
        try dsimp only
        repeat walk_at "s2"
        walk_at "hid"; refine hTN _ _ _ _ _ Sap2 (PM.le_trans hle20 (PM.le_trans mle1 mle2)) ⟨ha4, hb4, hdp4, _, _, _, _, O32, c32, by (first | lia | omega), by (first | lia | omega), by (first | lia | omega), by rw [List.length_append]; exact Nat.succ_le_succ hl1, by rw [List.length_append]; exact Nat.succ_le_succ hl2, _, rfl, ?_, ?_, ?_⟩
        · rw [en, List.append_assoc, ← hx1, ex]; rfl
        · rw [en, List.append_assoc, ← hx2, ex]; rfl
        · rw [en, ← hx3, ex]
    · have hge : 4 ≤ way := by have := of_decide_eq_false hw4; (first | lia | omega)
      have hlt : way < 6 ∧ 0 < deep := by
        by_cases q : 0 < deep
        · have := (draw_range is bb.at_ (n := 6) (by decide)).2
          rw [show decide (0 < deep) = true by simpa using q] at hwy
          simp only [if_true] at hwy
          exact ⟨by (first | lia | omega), q⟩
        · have := (draw_range is bb.at_ (n := 2) (by decide)).2
          rw [show decide (0 < deep) = false by simpa using q] at hwy
          simp only [Bool.false_eq_true, if_false] at hwy
          (first | lia | omega)
      have hdp := hlt.2
      clear hw4
      walk_at "hid"; refine r_cons ?_; intro _ _; refine (Assign_Tuple ?_ rfl (by rewrite [← henv]; rfl))
      repeat walk_at "s2"
      refine r_hide ?_; intro _ _; refine (tells_ok B c r I1 Mu14 _ vs nn is hc14 hrI hi hlen (by show bb.at_ + 1 < _; (first | lia | omega)) (by show bb.fresh < _; (first | lia | omega))).go hh S15' (by (first | lia | omega)) (by (first | lia | omega)) ?_
      rintro v20 I20 Mu20 h20 tk20 S20 hle20 ⟨a20, t1, t2, dm, om, tm, rfl, ha20, it1, it2, hdm, hom, hdmn, hc20, hk20⟩
      have O20 := O14.step hle20 hk20
      walk_at "hid"
      refine r_asgTup S20 hh (isT S20 (.inI ha20)) rfl rfl ?_
      intro h21 S21
      refine r_inOrdN ?_ rfl
      walk_at "st"; intro h22 S22
      refine r_inOrdN ?_ rfl
      walk_at "st"; intro h23 S23
      refine r_inOrdN ?_ rfl
      walk_at "st"; intro h24 S24
      refine r_inOrdE ?_
      try dsimp only
      refine hideP ?_; intro _ hG_; obtain ⟨m24, ha4, hb4, hdp4, hw4, ht4, hf4, hmo4, S24'⟩ : ∃ m24, m24 "one" = some (.ref one) ∧ m24 "other" = some (.ref other) ∧ m24 "deep" = some (.int deep t) ∧ m24 "way" = some (.int way u14) ∧ m24 "told" = some t1 ∧ m24 "fresh" = some t2 ∧ m24 "more" = some (.ref dm) ∧ St hB g1 L m24 I20 Mu20 h24 := ⟨_, ha3, hb3, hdp3, hw3, rfl, rfl, rfl, S24⟩; refine hG_ ?_; clear hG_
      clear S20 S21 S22 S23 S24 hxc hxc' xc hxs hxs' xs
      obtain ⟨xc, hxc, hxc'⟩ := O20.hcc
      obtain ⟨xs, hxs, hxs'⟩ := O20.hcs
      walk_at "hid"; refine r_cons ?_; intro _ _; refine (Assign_Tuple ?_ rfl (by rewrite [← henv]; rfl))
      repeat walk_at "s2"
      refine hideP ?_; intro _ hG_; obtain ⟨so, skv, hso, hsd, hsk'⟩ := O20.s; refine hG_ ?_; clear hG_
      refine r_hide ?_; intro _ _; refine (use_ok B c r ds I20 Mu20 _ sn vs nn is hc20 (hle20 _ _ hrI) hi hlen (by show bb.at_ + 1 + 2 < _; (first | lia | omega)) ⟨so, skv, .inr hso, hsd, hsk'⟩ (O20.off ds (by simp)).2).go hh S24' (by (first | lia | omega)) (by (first | lia | omega)) ?_
      rintro v25 I25 Mu25 h25 tk25 S25 hle25 ⟨iu, hc25, hk25⟩
      refine iu.twoE ?_; rintro a25 u1 u2 rfl ha25 iu1 iu2
      have O25 := O20.step hle25 fun a o n e => (hk25 a n).trans e
      have hdmc : dm ≠ c := fun e => by obtain ⟨_, _, _, _, _, _, e', _⟩ := hc14; rw [e, e'] at hdmn; cases hdmn
      have hdm25 : Mu25 dm = some om := (hk25 dm hdmc).trans hdm
      walk_at "hid"
      refine r_asgTup S25 hh (isT S25 (.inI ha25)) rfl rfl ?_
      intro h26 S26
      refine r_inOrdN ?_ rfl
      walk_at "st"; intro h27 S27
      refine r_inOrdN ?_ rfl
      walk_at "st"; intro h28 S28
      refine r_inOrdE ?_
      try dsimp only
      refine hideP ?_; intro _ hG_; obtain ⟨m28, ha5, hb5, hdp5, hw5, ht5, hf5, hmo5, hu5, hr5, S28'⟩ : ∃ m28, m28 "one" = some (.ref one) ∧ m28 "other" = some (.ref other) ∧ m28 "deep" = some (.int deep t) ∧ m28 "way" = some (.int way u14) ∧ m28 "told" = some t1 ∧ m28 "fresh" = some t2 ∧ m28 "more" = some (.ref dm) ∧ m28 "use" = some u1 ∧ m28 "renamed" = some u2 ∧ St hB g1 L m28 I25 Mu25 h28 := ⟨_, ha4, hb4, hdp4, hw4, ht4, hf4, hmo4, rfl, rfl, S28⟩; refine hG_ ?_; clear hG_
      clear S25 S26 S27 S28 hxc hxc' xc hxs hxs' xs
      refine hideP ?_; intro _ hG_; obtain ⟨so', skv', hso', hsd', hsk''⟩ := O25.s; refine hG_ ?_; clear hG_
      obtain ⟨xs, hxs, hxs'⟩ := O25.hcs
      obtain ⟨xc, hxc, hxc'⟩ := O25.hcc
      have LK : skv'.length = sn.length := hsk''.length
      repeat walk_at "s2"
      refine r_dictOf B S28' (.inMu hso') hsd' (by (first | lia | omega)) ?_
      intro dw h29 od hI29 hM29 S29 hod
      have upk : ∀ a o, Mu25 a = some o → ∀ o', (Mu25.upd dw o') a = some o := fun a o e o' => by rw [PM.upd_ne _ _ fun q => by rw [q, hM29] at e; cases e]; exact e
      have hdwc : dw ≠ c := fun e => by obtain ⟨_, _, _, _, _, _, e', _⟩ := hc25; rw [e, e'] at hM29; cases hM29
      have hdwm : dw ≠ dm := fun e => by rw [e, hdm25] at hM29; cases hM29
      walk_at "st"; intro h30 S30
      refine hideP ?_; intro _ hG_; obtain ⟨m30, ha6, hb6, hdp6, hw6, ht6, hf6, hmo6, hu6, hr6, hwi6, S30'⟩ : ∃ m30, m30 "one" = some (.ref one) ∧ m30 "other" = some (.ref other) ∧ m30 "deep" = some (.int deep t) ∧ m30 "way" = some (.int way u14) ∧ m30 "told" = some t1 ∧ m30 "fresh" = some t2 ∧ m30 "more" = some (.ref dm) ∧ m30 "use" = some u1 ∧ m30 "renamed" = some u2 ∧ m30 "within" = some (.ref dw) ∧ St hB g1 L m30 I25 (Mu25.upd dw od) h30 := ⟨_, ha5, hb5, hdp5, hw5, ht5, hf5, hmo5, hu5, hr5, rfl, S30⟩; refine hG_ ?_; clear hG_
      clear S29 S30 S28'
      repeat walk_at "s2"
      refine r_dictMeth S30' (.inMu (PM.upd_self _ _ _)) hod PySem.F.slot_dict_update PySem.F.type_dict_update ?_
      repeat walk_at "s2"
      refine r_update B S30' (PM.upd_self _ _ _) hod (.inMu (upk _ _ hdm25 _)) hom hdwm (by show _ + 1 ≤ _; (first | lia | omega)) ?_
      intro h31 o31 S31 ho31
      have hs31 : SeenAt prog w I25 ((Mu25.upd dw od).upd dw o31) dw (put sn (tkey (bTell is { bb with left := bb.left - 1, at_ := bb.at_ + 1 }).1) (bTell is { bb with left := bb.left - 1, at_ := bb.at_ + 1 }).1.id) := ⟨o31, _, .inMu (PM.upd_self _ _ _), ho31, hsk''.set (k := tkey (bTell is { bb with left := bb.left - 1, at_ := bb.at_ + 1 }).1) (x := (bTell is { bb with left := bb.left - 1, at_ := bb.at_ + 1 }).1.id) ⟨tm, rfl⟩⟩
      have up31 : ∀ a o, Mu25 a = some o → ((Mu25.upd dw od).upd dw o31) a = some o := fun a o e => by rw [PM.upd_ne _ _ fun q => by rw [q, hM29] at e; cases e]; exact upk _ _ e _
      have O31' := O25.step (PM.le_refl _) fun a o _ e => up31 a o e
      have c31' := (hc25.off (o := od) hdwc).off (o := o31) hdwc
      try dsimp only
      clear S30' ho31 hod
      generalize (Mu25.upd dw od).upd dw o31 = Mu31 at *
      clear hxs hxs' xs hxc hxc' xc
      obtain ⟨xs, hxs, hxs'⟩ := O31'.hcs
      obtain ⟨xc, hxc, hxc'⟩ := O31'.hcc
      walk_at "hid"; refine r_cons ?_; intro _ _; refine (Assign_Tuple ?_ rfl (by rewrite [← henv]; rfl))
      repeat walk_at "s2"
      rw [show ((deep : Int) - 1) = ((deep - 1 : Nat) : Int) by (first | lia | omega)]
      have hpl := put_length sn (tkey (bTell is { bb with left := bb.left - 1, at_ := bb.at_ + 1 }).1) (bTell is { bb with left := bb.left - 1, at_ := bb.at_ + 1 }).1.id
      refine r_hide ?_; intro _ _; refine ((IH (deep - 1) (by (first | lia | omega)) dw _ I25 Mu31 (bUse is sn (bTell is { bb with left := bb.left - 1, at_ := bb.at_ + 1 }).2).2 (put sn (tkey (bTell is { bb with left := bb.left - 1, at_ := bb.at_ + 1 }).1) (bTell is { bb with left := bb.left - 1, at_ := bb.at_ + 1 }).1.id) c31' (hle25 _ _ (hle20 _ _ hrI)) hs31 hdwc (by show bb.at_ + 1 + 2 + 2 + 10 * (bb.left - 1) < _; (first | lia | omega)) (by show bb.fresh + 1 + (bb.left - 1) < _; (first | lia | omega)) (by show _ + (bb.left - 1) < _; (first | lia | omega))).up (d' := deep + 2) (u' := 3 * deep + 6) (by (first | lia | omega)) (by (first | lia | omega))).go hh S31 (by (first | lia | omega)) (by (first | lia | omega)) ?_
      rintro v32 I32 Mu32 h32 tk32 S32 hle32 ⟨a32, f1, f2, rfl, ha32, if1, if2, hc32, hk32⟩
      have hbd := blk_bd is (deep - 1) (put sn (tkey (bTell is { bb with left := bb.left - 1, at_ := bb.at_ + 1 }).1) (bTell is { bb with left := bb.left - 1, at_ := bb.at_ + 1 }).1.id) (bUse is sn (bTell is { bb with left := bb.left - 1, at_ := bb.at_ + 1 }).2).2
      simp only [Bd] at hbd
      replace hbd : (blk is (deep - 1) (put sn (tkey (bTell is { bb with left := bb.left - 1, at_ := bb.at_ + 1 }).1) (bTell is { bb with left := bb.left - 1, at_ := bb.at_ + 1 }).1.id) (bUse is sn (bTell is { bb with left := bb.left - 1, at_ := bb.at_ + 1 }).2).2).2.at_ + 10 * (blk is (deep - 1) (put sn (tkey (bTell is { bb with left := bb.left - 1, at_ := bb.at_ + 1 }).1) (bTell is { bb with left := bb.left - 1, at_ := bb.at_ + 1 }).1.id) (bUse is sn (bTell is { bb with left := bb.left - 1, at_ := bb.at_ + 1 }).2).2).2.left ≤ bb.at_ + 1 + 2 + 2 + 10 * (bb.left - 1) + 1 ∧ (blk is (deep - 1) (put sn (tkey (bTell is { bb with left := bb.left - 1, at_ := bb.at_ + 1 }).1) (bTell is { bb with left := bb.left - 1, at_ := bb.at_ + 1 }).1.id) (bUse is sn (bTell is { bb with left := bb.left - 1, at_ := bb.at_ + 1 }).2).2).2.fresh + (blk is (deep - 1) (put sn (tkey (bTell is { bb with left := bb.left - 1, at_ := bb.at_ + 1 }).1) (bTell is { bb with left := bb.left - 1, at_ := bb.at_ + 1 }).1.id) (bUse is sn (bTell is { bb with left := bb.left - 1, at_ := bb.at_ + 1 }).2).2).2.left ≤ bb.fresh + 1 + (bb.left - 1) ∧ (blk is (deep - 1) (put sn (tkey (bTell is { bb with left := bb.left - 1, at_ := bb.at_ + 1 }).1) (bTell is { bb with left := bb.left - 1, at_ := bb.at_ + 1 }).1.id) (bUse is sn (bTell is { bb with left := bb.left - 1, at_ := bb.at_ + 1 }).2).2).2.left ≤ bb.left - 1 := hbd
      have O32' := O31'.step hle32 hk32
      walk_at "hid"
      refine r_asgTup S32 hh (isT S32 (.inI ha32)) rfl rfl ?_
      intro h33 S33
      refine r_inOrdN ?_ rfl
      walk_at "st"; intro h34 S34
      refine r_inOrdN ?_ rfl
      walk_at "st"; intro h35 S35
      refine r_inOrdE ?_
      try dsimp only
      refine hideP ?_; intro _ hG_; obtain ⟨m35, ha7, hb7, hdp7, hw7, ht7, hf7, hu7, hr7, hfi7, hse7, S24⟩ : ∃ m35, m35 "one" = some (.ref one) ∧ m35 "other" = some (.ref other) ∧ m35 "deep" = some (.int deep t) ∧ m35 "way" = some (.int way u14) ∧ m35 "told" = some t1 ∧ m35 "fresh" = some t2 ∧ m35 "use" = some u1 ∧ m35 "renamed" = some u2 ∧ m35 "first" = some f1 ∧ m35 "second" = some f2 ∧ St hB g1 L m35 I32 Mu32 h35 := ⟨_, ha6, hb6, hdp6, hw6, ht6, hf6, hu6, hr6, rfl, rfl, S35⟩; refine hG_ ?_; clear hG_
      clear S32 S33 S34 S35 S31 hs31 up31 upk
      have et : bTurn is (decide (0 < deep)) (inn is deep) sn bb = (if way = 4 then .each (bTell is { bb with left := bb.left - 1, at_ := bb.at_ + 1 }).1 (bUse is sn (bTell is { bb with left := bb.left - 1, at_ := bb.at_ + 1 }).2).1 (blk is (deep - 1) (put sn (tkey (bTell is { bb with left := bb.left - 1, at_ := bb.at_ + 1 }).1) (bTell is { bb with left := bb.left - 1, at_ := bb.at_ + 1 }).1.id) (bUse is sn (bTell is { bb with left := bb.left - 1, at_ := bb.at_ + 1 }).2).2).1 else .cond (bTell is { bb with left := bb.left - 1, at_ := bb.at_ + 1 }).1 (bUse is sn (bTell is { bb with left := bb.left - 1, at_ := bb.at_ + 1 }).2).1 (blk is (deep - 1) (put sn (tkey (bTell is { bb with left := bb.left - 1, at_ := bb.at_ + 1 }).1) (bTell is { bb with left := bb.left - 1, at_ := bb.at_ + 1 }).1.id) (bUse is sn (bTell is { bb with left := bb.left - 1, at_ := bb.at_ + 1 }).2).2).1, (blk is (deep - 1) (put sn (tkey (bTell is { bb with left := bb.left - 1, at_ := bb.at_ + 1 }).1) (bTell is { bb with left := bb.left - 1, at_ := bb.at_ + 1 }).1.id) (bUse is sn (bTell is { bb with left := bb.left - 1, at_ := bb.at_ + 1 }).2).2).2, sn) := by
        unfold bTurn; rw [hwy, inn_succ is hdp]
        try dsimp only
        rw [if_neg (by (first | lia | omega)), if_neg (by (first | lia | omega)), if_neg (by (first | lia | omega)), if_neg (by (first | lia | omega))]
      rw [et] at ex
      clear et
      have en : n - (i + 1) = k := by (first | lia | omega)
      replace it1 := (it1.mono hle25).mono hle32
      replace it2 := (it2.mono hle25).mono hle32
      replace iu1 := iu1.mono hle32
      replace iu2 := iu2.mono hle32
      have hleA := PM.le_trans hle20 (PM.le_trans hle25 hle32)
      repeat walk_at "s2"
      obtain rfl | rfl : way = 4 ∨ way = 5 := by (first | lia | omega)
      · refine hideP ?_; intro _ hG_; obtain ⟨w1, k1, e1, q1⟩ := O32'.l1; refine hG_ ?_; clear hG_
        have L1 : w1.length = D1.length := q1.length
        refine r_listMeth S24 (.inMu e1) PySem.F.slot_list_append PySem.F.type_list_append ?_
        repeat walk_at "s2"
        rw [if_pos (by decide)]
        repeat walk_at "s2"
        refine r_newTup S24 (Nat.le_of_ble_eq_true rfl) ?_
        intro a10 h10 I10 le10 ha10 S10
        repeat walk_at "s2"
        refine r_append S10 e1 (by (first | lia | omega)) ?_
        intro hap1 nap1 Sap1
        have mle1 := le10
        have id1 : Is I10 (.ref a10) (eachD (myD nmOne (bTell is { bb with left := bb.left - 1, at_ := bb.at_ + 1 }).1) (nameD nmOne (bUse is sn (bTell is { bb with left := bb.left - 1, at_ := bb.at_ + 1 }).2).1) (stms nmOne (blk is (deep - 1) (put sn (tkey (bTell is { bb with left := bb.left - 1, at_ := bb.at_ + 1 }).1) (bTell is { bb with left := bb.left - 1, at_ := bb.at_ + 1 }).1.id) (bUse is sn (bTell is { bb with left := bb.left - 1, at_ := bb.at_ + 1 }).2).2).1)) := .tup ha10 (.cons (.str _ _) (.cons (.str _ _) (.cons (it1.mono (mle1)) (.cons (iu1.mono (mle1)) (.cons (if1.mono (mle1)) .nil)))))
        have O41 := (O32'.step mle1 (fun _ _ _ e => e)).app1 (n' := nap1) e1 id1
        have c41 := hc32.off (a := one) (o := lstO (w1 ++ [.ref a10]) nap1) (O32'.off one (by simp)).2
        try dsimp only
        clear S24 S10
        generalize Mu32.upd one (lstO (w1 ++ [.ref a10]) nap1) = Mu41 at *
        repeat walk_at "s2"
        refine hideP ?_; intro _ hG_; obtain ⟨w2, k2, e2, q2⟩ := O41.l2; refine hG_ ?_; clear hG_
        have L2 : w2.length = D2.length := q2.length
        refine r_listMeth Sap1 (.inMu e2) PySem.F.slot_list_append PySem.F.type_list_append ?_
        repeat walk_at "s2"
        rw [if_pos (by decide)]
        repeat walk_at "s2"
        refine r_newTup Sap1 (Nat.le_of_ble_eq_true rfl) ?_
        intro a20 h20 I20 le20 ha20 S20
        repeat walk_at "s2"
        refine r_append S20 e2 (by (first | lia | omega)) ?_
        intro hap2 nap2 Sap2
        have mle2 := le20
        have id2 : Is I20 (.ref a20) (eachD (myD nmOther (bTell is { bb with left := bb.left - 1, at_ := bb.at_ + 1 }).1) (nameD nmOther (bUse is sn (bTell is { bb with left := bb.left - 1, at_ := bb.at_ + 1 }).2).1) (stms nmOther (blk is (deep - 1) (put sn (tkey (bTell is { bb with left := bb.left - 1, at_ := bb.at_ + 1 }).1) (bTell is { bb with left := bb.left - 1, at_ := bb.at_ + 1 }).1.id) (bUse is sn (bTell is { bb with left := bb.left - 1, at_ := bb.at_ + 1 }).2).2).1)) := .tup ha20 (.cons (.str _ _) (.cons (.str _ _) (.cons (it2.mono (PM.le_trans mle1 mle2)) (.cons (iu2.mono (PM.le_trans mle1 mle2)) (.cons (if2.mono (PM.le_trans mle1 mle2)) .nil)))))
        have O42 := (O41.step mle2 (fun _ _ _ e => e)).app2 (n' := nap2) e2 id2
        have c42 := c41.off (a := other) (o := lstO (w2 ++ [.ref a20]) nap2) (O41.off other (by simp)).2
        try dsimp only
        repeat walk_at "s2"
        walk_at "hid"; refine hTN _ _ _ _ _ Sap2 (PM.le_trans hleA (PM.le_trans mle1 mle2)) ⟨ha7, hb7, hdp7, _, _, _, _, O42, c42, by (first | lia | omega), by (first | lia | omega), by (first | lia | omega), by rw [List.length_append]; exact Nat.succ_le_succ hl1, by rw [List.length_append]; exact Nat.succ_le_succ hl2, _, rfl, ?_, ?_, ?_⟩
        · rw [en, List.append_assoc, ← hx1, ex]; rfl
        · rw [en, List.append_assoc, ← hx2, ex]; rfl
        · rw [en, ← hx3, ex]
      · refine hideP ?_; intro _ hG_; obtain ⟨w1, k1, e1, q1⟩ := O32'.l1; refine hG_ ?_; clear hG_
        have L1 : w1.length = D1.length := q1.length
        refine r_listMeth S24 (.inMu e1) PySem.F.slot_list_append PySem.F.type_list_append ?_
        repeat walk_at "s2"
        rw [if_neg (by decide)]
        repeat walk_at "s2"
        refine r_newTup S24 (Nat.le_of_ble_eq_true rfl) ?_
        intro a10 h10 I10 le10 ha10 S10
        repeat walk_at "s2"
        refine r_newTup S10 (Nat.le_of_ble_eq_true rfl) ?_
        intro a11 h11 I11 le11 ha11 S11
        repeat walk_at "s2"
        refine r_newLstF S11 (Nat.le_of_ble_eq_true rfl) ?_
        intro a12 h12 I12 le12 ha12 S12
        repeat walk_at "s2"
        refine r_newTup S12 (Nat.le_of_ble_eq_true rfl) ?_
        intro a13 h13 I13 le13 ha13 S13
        repeat walk_at "s2"
        refine r_append S13 e1 (by (first | lia | omega)) ?_
        intro hap1 nap1 Sap1
        have mle1 := PM.le_trans le10 (PM.le_trans le11 (PM.le_trans le12 (le13)))
        have id1 : Is I13 (.ref a13) (condD (myD nmOne (bTell is { bb with left := bb.left - 1, at_ := bb.at_ + 1 }).1) (nameD nmOne (bUse is sn (bTell is { bb with left := bb.left - 1, at_ := bb.at_ + 1 }).2).1) (stms nmOne (blk is (deep - 1) (put sn (tkey (bTell is { bb with left := bb.left - 1, at_ := bb.at_ + 1 }).1) (bTell is { bb with left := bb.left - 1, at_ := bb.at_ + 1 }).1.id) (bUse is sn (bTell is { bb with left := bb.left - 1, at_ := bb.at_ + 1 }).2).2).1)) := .tup3 ha13 (.str _ _) (.lst (le13 _ _ (ha12)) (.cons (.tup2 (le13 _ _ (le12 _ _ (ha11))) (.tup3 (le13 _ _ (le12 _ _ (le11 _ _ (ha10)))) (.str _ _) (it1.mono (mle1)) (iu1.mono (mle1))) (if1.mono (mle1))) .nil)) .none
        have O41 := (O32'.step mle1 (fun _ _ _ e => e)).app1 (n' := nap1) e1 id1
        have c41 := hc32.off (a := one) (o := lstO (w1 ++ [.ref a13]) nap1) (O32'.off one (by simp)).2
        try dsimp only
        clear S24 S10 S11 S12 S13
        generalize Mu32.upd one (lstO (w1 ++ [.ref a13]) nap1) = Mu41 at *
        repeat walk_at "s2"
        refine hideP ?_; intro _ hG_; obtain ⟨w2, k2, e2, q2⟩ := O41.l2; refine hG_ ?_; clear hG_
        have L2 : w2.length = D2.length := q2.length
        refine r_listMeth Sap1 (.inMu e2) PySem.F.slot_list_append PySem.F.type_list_append ?_
        repeat walk_at "s2"
        rw [if_neg (by decide)]
        repeat walk_at "s2"
        refine r_newTup Sap1 (Nat.le_of_ble_eq_true rfl) ?_
        intro a20 h20 I20 le20 ha20 S20
        repeat walk_at "s2"
        refine r_newTup S20 (Nat.le_of_ble_eq_true rfl) ?_
        intro a21 h21 I21 le21 ha21 S21
        repeat walk_at "s2"
        refine r_newLstF S21 (Nat.le_of_ble_eq_true rfl) ?_
        intro a22 h22 I22 le22 ha22 S22
        repeat walk_at "s2"
        refine r_newTup S22 (Nat.le_of_ble_eq_true rfl) ?_
        intro a23 h23 I23 le23 ha23 S23
        repeat walk_at "s2"
        refine r_append S23 e2 (by (first | lia | omega)) ?_
        intro hap2 nap2 Sap2
        have mle2 := PM.le_trans le20 (PM.le_trans le21 (PM.le_trans le22 (le23)))
        have id2 : Is I23 (.ref a23) (condD (myD nmOther (bTell is { bb with left := bb.left - 1, at_ := bb.at_ + 1 }).1) (nameD nmOther (bUse is sn (bTell is { bb with left := bb.left - 1, at_ := bb.at_ + 1 }).2).1) (stms nmOther (blk is (deep - 1) (put sn (tkey (bTell is { bb with left := bb.left - 1, at_ := bb.at_ + 1 }).1) (bTell is { bb with left := bb.left - 1, at_ := bb.at_ + 1 }).1.id) (bUse is sn (bTell is { bb with left := bb.left - 1, at_ := bb.at_ + 1 }).2).2).1)) := .tup3 ha23 (.str _ _) (.lst (le23 _ _ (ha22)) (.cons (.tup2 (le23 _ _ (le22 _ _ (ha21))) (.tup3 (le23 _ _ (le22 _ _ (le21 _ _ (ha20)))) (.str _ _) (it2.mono (PM.le_trans mle1 mle2)) (iu2.mono (PM.le_trans mle1 mle2))) (if2.mono (PM.le_trans mle1 mle2))) .nil)) .none
        have O42 := (O41.step mle2 (fun _ _ _ e => e)).app2 (n' := nap2) e2 id2
        have c42 := c41.off (a := other) (o := lstO (w2 ++ [.ref a23]) nap2) (O41.off other (by simp)).2
        try dsimp only
        repeat walk_at "s2"
        walk_at "hid"; refine hTN _ _ _ _ _ Sap2 (PM.le_trans hleA (PM.le_trans mle1 mle2)) ⟨ha7, hb7, hdp7, _, _, _, _, O42, c42, by (first | lia | omega), by (first | lia | omega), by (first | lia | omega), by rw [List.length_append]; exact Nat.succ_le_succ hl1, by rw [List.length_append]; exact Nat.succ_le_succ hl2, _, rfl, ?_, ?_, ?_⟩
        · rw [en, List.append_assoc, ← hx1, ex]; rfl
        · rw [en, List.append_assoc, ← hx2, ex]; rfl
        · rw [en, ← hx3, ex]
  · intro m1 I1 Mu1 h1 tk1 hj hI1 S1
    obtain ⟨ha, hb, sn, O1, hc1, hl1, hl2⟩ : m1 "one" = some (.ref one) ∧ m1 "other" = some (.ref other) ∧ ∃ sn, Objs prog w Mu c one other ds (L + 2) (L + 1) I1 (stms nmOne (blk is deep seen b).1) (stms nmOther (blk is deep seen b).1) sn Mu1 ∧ CanAt prog w Mu1 c r (blk is deep seen b).2 ∧ (stms nmOne (blk is deep seen b).1).length ≤ 5 ∧ (stms nmOther (blk is deep seen b).1).length ≤ 5 := by
      rcases hj with ⟨ha, hb, -, D1, D2, sn, bb, O1, hc1, -, -, -, hl1, hl2, x, hx, hx1, hx2, hx3⟩ | hj
      · rw [Nat.sub_self, bLoop] at hx
        subst hx
        rw [← hx1, ← hx2, ← hx3]
        have e1 : D1 ++ stms nmOne (Mine.B.nil, bb).1 = D1 := List.append_nil _
        have e2 : D2 ++ stms nmOther (Mine.B.nil, bb).1 = D2 := List.append_nil _
        rw [e1, e2]
        exact ⟨ha, hb, sn, O1, hc1, by (first | lia | omega), by (first | lia | omega)⟩
      · exact hj
    try dsimp only
    clear hj
    repeat walk_at "s2"
    refine hideP ?_; intro _ hG_; obtain ⟨w1, k1, e1, q1⟩ := O1.l1; refine hG_ ?_; clear hG_
    refine hideP ?_; intro _ hG_; obtain ⟨w2, k2, e2, q2⟩ := O1.l2; refine hG_ ?_; clear hG_
    obtain ⟨Sf, lf⟩ := S1.freeze e1
    have e2' : (Mu1.del one) other = some (lstO w2 k2) := by rw [PM.del_ne _ (Ne.symm O1.ne.1)]; exact e2
    obtain ⟨Sg, lg⟩ := Sf.freeze e2'
    refine r_newTup Sg (Nat.le_of_ble_eq_true rfl) ?_
    intro a50 h50 I50 le50 ha50 S50
    repeat walk_at "s2"
    refine r_newTup S50 (Nat.le_of_ble_eq_true rfl) ?_
    intro a51 h51 I51 le51 ha51 S51
    repeat walk_at "s2"
    refine r_newTup S51 (Nat.le_of_ble_eq_true rfl) ?_
    intro a52 h52 I52 le52 ha52 S52
    have ll := PM.le_trans lf (PM.le_trans lg (PM.le_trans le50 (PM.le_trans le51 le52)))
    walk_at "hid"; refine Back.intro S52 (PM.le_trans hI4 (PM.le_trans hI1 ll)) ⟨a52, _, _, rfl, ha52, ?_, ?_, ?_, ?_⟩
    · exact .tup2 (le52 _ _ (le51 _ _ ha50)) (.str _ _) (.lst (le52 _ _ (le51 _ _ (le50 _ _ (lg _ _ (PM.upd_self _ _ _))))) (q1.mono ll))
    · exact .tup2 (le52 _ _ ha51) (.str _ _) (.lst (le52 _ _ (le51 _ _ (le50 _ _ (PM.upd_self _ _ _)))) (q2.mono ll))
    · refine hideP ?_; intro _ hG_; obtain ⟨co, c1, c2, c3, c4, c5, hcm, hco⟩ := hc1; refine hG_ ?_; clear hG_
      exact ⟨co, c1, c2, c3, c4, c5, by rw [PM.del_ne _ (Ne.symm (O1.off other (by simp)).2), PM.del_ne _ (Ne.symm (O1.off one (by simp)).2)]; exact hcm, hco⟩
    · intro a o ha ho
      rw [PM.del_ne _ (fun q => by rw [q, (O1.off other (by simp)).1] at ho; cases ho), PM.del_ne _ (fun q => by rw [q, (O1.off one (by simp)).1] at ho; cases ho)]
      exact O1.keep a o ha ho
end
theorem cls_get (P : Params) {name : Str} (h : name = "outer" ∨ name = "package" ∨ name = "blocks" ∨ name = "waiting" ∨ name = "size" ∨ name = "captures" ∨ name = "line") :
    plainGet (KK P) 108 name = true ∧ hasDictIn (KK P) 108 = true ∧ findIn (KK P) (.ref 108) name = some none ∧ takerIn (KK P) 108 name = some none := by
  rcases h with rfl | rfl | rfl | rfl | rfl | rfl | rfl <;> exact ⟨rfl, rfl, rfl, rfl⟩
theorem cls_set (P : Params) : findIn (KK P) (.ref 108) "__setattr__" = some (some (.builtin "object.__setattr__")) ∧ plainOver (KK P) 108 = true := ⟨rfl, rfl⟩
section
variable {prog : Program} {w : World} {A : Around} {E : Value → Shared → Prop} {h : Heap} {gn : Array GenState} {dr : Drawn} {tk : Nat} {os : OsState} {p : Program} {loose : List Str} {mean : ExcName → Option Value} {mg mb : Str → Option Value} {hB : Heap} {g : PM} {L : Addr} {m : Str → Option Value} {I Mu : PM} {v : Value}
theorem r_sget {a dx : Addr} {es : List DictEntry} {n : Nat} {name : Str} {Q : Value → Shared → Prop} (B : Base (KK w.params) p loose mean mg mb hB) (S : St hB g L m I Mu h) (hx : Mu a = some (instObj 108 dx)) (hd : Mu dx = some (dictOf es n))
    (hl : getL name es = some (some v)) (hv : handedIn v = true) (q : Q v ⟨h, gn, dr, tk + 1, os⟩) (hn : name = "outer" ∨ name = "package" ∨ name = "blocks" ∨ name = "waiting" ∨ name = "size" ∨ name = "captures" ∨ name = "line" := by simp) :
    wpAny (model prog w) A (getAttr (.ref a) name true) Q E ⟨h, gn, dr, tk, os⟩ :=
  let c := cls_get w.params hn
  r_getattr B S (.inMu hx) (.inMu hd) hl c.1 c.2.1 c.2.2.1 rfl hv q
theorem r_sset {a dx : Addr} {es es' : List DictEntry} {n n' : Nat} {name : Str} {Q : Unit → Shared → Prop} (B : Base (KK w.params) p loose mean mg mb hB) (S : St hB g L m I Mu h) (hx : Mu a = some (instObj 108 dx)) (hd : Mu dx = some (dictOf es n))
    (hl : (getL name es).isSome = true) (e : (putL name (PyData.keyHash w.params name) (.str name (tk + 1)) v es, putN name es n) = (es', n')) (hz : es'.length ≤ 1000)
    (q : ∀ h', St hB g L m I (Mu.upd dx (dictOf es' n')) h' → Q () ⟨h', gn, dr, tk + 2, os⟩) (hn : name = "outer" ∨ name = "package" ∨ name = "blocks" ∨ name = "waiting" ∨ name = "size" ∨ name = "captures" ∨ name = "line" := by simp) :
    wpAny (model prog w) A (setAttr (.ref a) name v) Q E ⟨h, gn, dr, tk, os⟩ :=
  let c := cls_get w.params hn
  r_setattr B S (.inMu hx) hd (cls_set w.params).1 (cls_set w.params).2 c.2.2.2 c.2.1 hl e hz q
end
theorem F2.length {α : Type} {P : Addr → α → Prop} {l : List Addr} {ks : List α} (h : F2 P l ks) : l.length = ks.length := by
  induction h with
  | nil => rfl
  | cons _ _ ih => simp [ih]
theorem r_Expr {prog : Program} {w : World} {A : Around} {E : Value → Shared → Prop} {s : Shared} {env : Env} {e : Expr} {pos : Pos} {Q : Flow → Shared → Prop} (h : wpAny (model prog w) A (eval e env) (fun _ s' => Q .next s') E s)
    (hi : interactive env = false) (hs : swapsWith e none pos.line env = pure false) : wpAny (model prog w) A (exec (.Expr e pos) env) Q E s := by
  rw [exec_Expr env e pos hi hs]
  exact wpAny_bind (wpAny_standAt (wpAny_bind (wpAny_mono h (fun v s' h' => wpAny_dropValue h') fun _ _ x => x)))
local macro_rules | `(tactic| walk_at "s2") => `(tactic| first
  | ((with_reducible show wpAny _ _ (call (Value.builtin "isinstance") _) _ _ _); first | refine PySem.IsiPair.int_str ?_ | refine PySem.IsiPair.int_int ?_ | refine PySem.IsiPair.str_str ?_ | refine PySem.IsiPair.str_int ?_ | refine PySem.IsiPair.NoneType_int ?_ | refine PySem.IsiPair.NoneType_str ?_ | refine PySem.IsiPair.NoneType_list ?_ | refine PySem.IsiPair.NoneType_tuple ?_ | refine PySem.IsiPair.str_list ?_ | refine PySem.IsiPair.str_tuple ?_ | refine PySem.IsiPair.int_list ?_ | refine PySem.IsiPair.int_tuple ?_)
  | ((with_reducible refine' PyProof.Rows.isTrue_plain ?_ ?ha); (case ha => rfl))
  | (with_reducible first
    | refine PyProof.Rows.BoolOp_one ?_
    | refine ite_nt ?_
    | refine ite_nf ?_
    | refine ite_nnt ?_
    | refine ite_nnf ?_
    | refine PyProof.Rows.in_str ?_
    | refine PyProof.Rows.notIn_str ?_
    | refine PyProof.Rows.eq_str ?_
    | refine PyProof.Rows.BoolOp_and ?_
    | refine PyProof.Rows.BoolOp_or ?_
    | refine PyProof.Rows.isTrue_or ?_
    | refine PyProof.Rows.isTrue_or_nil ?_
    | refine PyProof.Rows.isTrue_and ?_
    | refine PyProof.Rows.isTrue_and_nil ?_
    | refine PyProof.Rows.isTrue_not ?_
    | refine PyProof.Rows.isnot_int_none ?_
    | refine PyProof.Rows.is_int_none ?_
    | refine PyProof.Rows.is_none_none ?_
    | refine PyProof.Rows.isnot_none_none ?_
    | refine PyProof.Rows.is_ref_none ?_
    | refine ite_t ?_
    | refine ite_f ?_
    | refine r_sliceF ?_
    | refine r_sliceR ?_
    | refine r_sliceT ?_
    | refine wpAny_AugAssign_AttributeAny ?_
    | refine PyProof.Rows.UnaryOp_ ?_
    | refine PyProof.Rows.neg_int ?_
    | refine Attribute_any_ ?_)
  | ((with_reducible first | refine' wpAny_Assign_Subscript ?_ ?ha | refine' plainObj_wpAny_Assign_Attribute ?_ ?ha); (case ha => walk_at "envrfl"))
  | ((with_reducible refine' r_Expr ?_ ?ha ?hb); (case ha => walk_at "envrfl"); (case hb => walk_at "envrfl")))
section
variable {prog : Program} {w : World} {p : Program} {loose : List Str} {mean : ExcName → Option Value} {mg mb : Str → Option Value} {hB : Heap}
theorem enter_ok (B : Base (KK w.params) p loose mean mg mb hB) {I Mu : PM} {a0 : Addr} {as : List Addr} {q : Sc Str} {s : List (Sc Str)} {F : List (Addr × Obj)} (hC : Chn prog w I Mu (a0 :: as) (q :: s) F) (h1 : q.blocks.length ≤ 900000) (h2 : q.waits.length ≤ 900000) :
    CallOk prog w hB 1 3 (.ref 119) [.ref a0] I Mu (fun v I' Mu' => v = .none ∧ Chn prog w I' Mu' (a0 :: as) (enterS (q :: s)) F) := by
  refine hideP ?_; intro _ hG_
  refine hC.headE ?_; rintro x rfl hS nx hF back
  refine hG_ ?_; clear hG_
  refine call_def B (by rfl) (by rfl) (fun s => BindsTo.of_eq rfl) (locs rfl) (by decide) ?_
  intro A g L h gn dr tk os hh hd hu S
  generalize henv : envX _ _ _ _ _ _ = env
  have hE := EnvOk.of henv
  dsimp only at hE
  refine r_hide ?_; intro _ _
  refine hS.attrsE ?_; rintro k t1 t2 t3 l n hat
  obtain ⟨nb, hbl⟩ := hS.bl
  obtain ⟨nw, hwl⟩ := hS.wl
  repeat walk_at "s2"
  refine r_sget B S hS.inst hat (by rfl) (by rfl) ?_
  repeat walk_at "s2"
  refine r_listMeth S (.inMu hbl) PySem.F.slot_list_append PySem.F.type_list_append ?_
  repeat walk_at "s2"
  refine r_dictE S ?_
  intro d1 h1' hI1 hM1 S1
  have e1 : Mu d1 = none := hM1
  have bl1 : (Mu.upd d1 emptyD) x.bl = some (lstO (.ref x.cb :: x.bs.reverse.map .ref) nb) := by grind [PM.upd]
  repeat walk_at "s2"
  refine r_append S1 bl1 (by have := hS.bs.length; simp; (first | lia | omega)) ?_
  intro h2' n2 S2
  repeat walk_at "s2"
  refine Ad.neE nx ?_; rintro N1 N2 N3 N4 N5 N6 N7 N8 N9 N10
  have hi2 : ((Mu.upd d1 emptyD).upd x.bl (lstO (.ref x.cb :: x.bs.reverse.map .ref ++ [.ref d1]) n2)) x.a = some (instObj 108 x.d) := by have := hS.inst; grind [PM.upd]
  have ha2 : ((Mu.upd d1 emptyD).upd x.bl (lstO (.ref x.cb :: x.bs.reverse.map .ref ++ [.ref d1]) n2)) x.d = _ := (show _ = Mu x.d by grind [PM.upd]).trans hat
  have hw2 : ((Mu.upd d1 emptyD).upd x.bl (lstO (.ref x.cb :: x.bs.reverse.map .ref ++ [.ref d1]) n2)) x.wl = _ := (show _ = Mu x.wl by grind [PM.upd]).trans hwl
  refine r_sget B S2 hi2 ha2 (by rfl) (by rfl) ?_
  repeat walk_at "s2"
  refine r_listMeth S2 (.inMu hw2) PySem.F.slot_list_append PySem.F.type_list_append ?_
  repeat walk_at "s2"
  refine r_newLst S2 (Nat.le_of_ble_eq_true rfl) ?_
  intro w1 h3 hI3 hM3 S3
  repeat walk_at "s2"
  have wl3 : (((Mu.upd d1 emptyD).upd x.bl (lstO (.ref x.cb :: x.bs.reverse.map .ref ++ [.ref d1]) n2)).upd w1 (lstO [] 0)) x.wl = some (lstO (.ref x.w0 :: x.ws.reverse.map .ref) nw) := by grind [PM.upd]
  refine r_append S3 wl3 (by have := hS.ws.length; simp; (first | lia | omega)) ?_
  intro h4 n4 S4
  repeat walk_at "s2"
  have hw1 : w1 ≠ d1 ∧ w1 ≠ x.bl ∧ Mu w1 = none := by grind [PM.upd]
  walk_at "hid"; refine Back.intro S4 (PM.le_refl _) ⟨rfl, back I _ { x with bs := d1 :: x.bs, ws := w1 :: x.ws } _ (PM.le_refl _) rfl ?_ ?_ ?_ ?_⟩
  · have key : ∀ y ∈ x.all, y ≠ x.bl → y ≠ x.wl → ((((Mu.upd d1 emptyD).upd x.bl (lstO (.ref x.cb :: x.bs.reverse.map .ref ++ [.ref d1]) n2)).upd w1 (lstO [] 0)).upd x.wl (lstO (.ref x.w0 :: x.ws.reverse.map .ref ++ [.ref w1]) n4)) y = Mu y := fun y hy n1 n2 => by
      obtain ⟨o, ho⟩ := hS.objs y hy; grind [PM.upd]
    refine ⟨(key _ (by simp [Ad.all]) (by grind) (by grind)).trans hS.inst, ⟨k, t1, t2, t3, l, n, (key _ (by simp [Ad.all]) (by grind) (by grind)).trans hat⟩, ⟨n2, ?_⟩, ⟨n4, ?_⟩, ?_, hS.cb.at (key _ (by simp [Ad.all]) (by grind) (by grind)), ?_, .cons ?_ (F2.at hS.bs fun a ha k q => q.at (key _ (by simp [Ad.all, ha]) (by grind) (by grind))), .cons ?_ (F2.at hS.ws fun a ha k q => q.at (PM.le_refl _) (key _ (by simp [Ad.all, ha]) (by grind) (by grind)))⟩
    · simp only [List.reverse_cons, List.map_append, List.map_cons, List.map_nil]; grind [PM.upd]
    · simp only [List.reverse_cons, List.map_append, List.map_cons, List.map_nil]; grind [PM.upd]
    · obtain ⟨vs, nn, e, r⟩ := hS.cp; exact ⟨vs, nn, (key _ (by simp [Ad.all]) (by grind) (by grind)).trans e, r⟩
    · obtain ⟨nn, e⟩ := hS.w0; exact ⟨nn, (key _ (by simp [Ad.all]) (by grind) (by grind)).trans e⟩
    · exact ⟨emptyD, [], by have := hS.objs x.wl (by simp [Ad.all]); grind [PM.upd], emptyD_is, .nil⟩
    · exact ⟨[], 0, by have := hS.objs x.wl (by simp [Ad.all]); grind [PM.upd], .nil⟩
  · exact Ad.push_nodup nx (fun y hy => by obtain ⟨o, ho⟩ := hS.objs y hy; exact ⟨fun e => (by rw [e, e1] at ho; cases ho), fun e => (by rw [e, hw1.2.2] at ho; cases ho)⟩) (Ne.symm hw1.1)
  · intro b hb
    simp only [Ad.all, List.mem_cons, List.mem_append] at hb ⊢
    grind
  · intro b o hb ho
    simp only [Ad.all, List.mem_cons, List.mem_append, not_or] at hb
    grind [PM.upd]
theorem leave_ok (B : Base (KK w.params) p loose mean mg mb hB) {I Mu : PM} {a0 : Addr} {as : List Addr} {q : Sc Str} {s : List (Sc Str)} {F : List (Addr × Obj)} (hC : Chn prog w I Mu (a0 :: as) (q :: s) F) (h1 : q.blocks.length ≤ 900000) (h2 : q.waits.length ≤ 900000) (h3 : q.blocks ≠ []) (h4 : q.waits ≠ []) :
    CallOk prog w hB 1 3 (.ref 126) [.ref a0] I Mu (fun v I' Mu' => v = .none ∧ Chn prog w I' Mu' (a0 :: as) (leaveS (q :: s)) F) := by
  refine hideP ?_; intro _ hG_
  refine hC.headE ?_; rintro x rfl hS nx hF back
  obtain ⟨caps, capB, blocks, waits, size⟩ := q
  obtain ⟨b, bs, rfl⟩ := List.exists_cons_of_ne_nil h3
  obtain ⟨wa, ws, rfl⟩ := List.exists_cons_of_ne_nil h4
  obtain ⟨xa, xd, xbl, xwl, xcp, xcb, xw0, xbs, xws⟩ := x
  have hbs := hS.bs
  have hws := hS.ws
  dsimp only at hbs hws
  refine Ad.neE nx ?_; rintro N1 N2 N3 N4 N5 N6 N7 N8 N9 N10
  cases hbs with
  | @cons d1 _ xbs _ pb hbs =>
  cases hws with
  | @cons w1 _ xws _ pw hws =>
  dsimp only at *
  refine hG_ ?_; clear hG_
  refine call_def B (by rfl) (by rfl) (fun s => BindsTo.of_eq rfl) (locs rfl) (by decide) ?_
  intro A g L h gn dr tk os hh hd hu S
  generalize henv : envX _ _ _ _ _ _ = env
  have hE := EnvOk.of henv
  dsimp only at hE
  refine r_hide ?_; intro _ _
  refine hS.attrsE ?_; rintro k t1 t2 t3 l n hat
  obtain ⟨nb, hbl⟩ := hS.bl
  obtain ⟨nw, hwl⟩ := hS.wl
  have hin := hS.inst
  dsimp only at hat hbl hwl hin
  simp only [List.reverse_cons, List.map_append, List.map_cons, List.map_nil, ← List.cons_append] at hbl hwl
  repeat walk_at "s2"
  refine r_sget B S hin hat (by rfl) (by rfl) ?_
  repeat walk_at "s2"
  refine r_listMeth S (.inMu hbl) PySem.F.slot_list_pop PySem.F.type_list_pop ?_
  refine r_callB0 ?_
  refine r_pop S hbl (by have := hbs.length; simp at h1 ⊢; (first | lia | omega)) ?_
  intro h5 n5 S5
  repeat walk_at "s2"
  refine r_sget (dx := xd) B S5 (by grind [PM.upd]) ((show _ = Mu xd by grind [PM.upd]).trans hat) (by rfl) (by rfl) ?_
  repeat walk_at "s2"
  have hwl5 := ((show (Mu.upd xbl (lstO (.ref xcb :: xbs.reverse.map .ref) n5)) xwl = Mu xwl by grind [PM.upd]).trans hwl)
  refine r_listMeth S5 (.inMu hwl5) PySem.F.slot_list_pop PySem.F.type_list_pop ?_
  refine r_callB0 ?_
  refine r_pop S5 hwl5 (by have := hws.length; simp at h2 ⊢; (first | lia | omega)) ?_
  intro h6 n6 S6
  repeat walk_at "s2"
  have key : ∀ y, y ≠ xbl → y ≠ xwl → (((Mu.upd xbl (lstO (.ref xcb :: xbs.reverse.map .ref) n5)).upd xwl (lstO (.ref xw0 :: xws.reverse.map .ref) n6)) y = Mu y) := by grind [PM.upd]
  walk_at "hid"; refine Back.intro S6 (PM.le_refl _) ⟨rfl, back I _ ⟨xa, xd, xbl, xwl, xcp, xcb, xw0, xbs, xws⟩ _ (PM.le_refl _) rfl ?_ ?_ ?_ ?_⟩
  · refine ⟨(key _ (by grind) (by grind)).trans hin, ⟨k, t1, t2, t3, l, n, (key _ (by grind) (by grind)).trans hat⟩, ⟨n5, by grind [PM.upd]⟩, ⟨n6, by grind [PM.upd]⟩, ?_, hS.cb.at (key _ (by grind) (by grind)), ?_, F2.at hbs fun a ha k q => q.at (key _ (by grind) (by grind)), F2.at hws fun a ha k q => q.at (PM.le_refl _) (key _ (by grind) (by grind))⟩
    · obtain ⟨vs, nn, e, r⟩ := hS.cp; exact ⟨vs, nn, (key _ (by grind) (by grind)).trans e, r⟩
    · obtain ⟨nn, e⟩ := hS.w0; exact ⟨nn, (key _ (by grind) (by grind)).trans e⟩
  · exact Ad.pop_nodup nx
  · intro b hb
    simp only [Ad.all, List.mem_cons, List.mem_append] at hb ⊢
    grind
  · intro b o hb ho
    simp only [Ad.all, List.mem_cons, List.mem_append, not_or] at hb
    grind [PM.upd]
end
section
variable {prog : Program} {w : World} {p : Program} {loose : List Str} {mean : ExcName → Option Value} {mg mb : Str → Option Value} {hB : Heap}
theorem puts_length (b : List (Str × Nat)) : ∀ (w : List (Str × Nat)), (puts b w).length ≤ b.length + w.length := by
  intro w
  induction w generalizing b with
  | nil => exact Nat.le_refl _
  | cons x r ih =>
    have h1 := ih (put b x.1 x.2)
    have h2 := put_length b x.1 x.2
    show (puts (put b x.1 x.2) r).length ≤ _
    simp only [List.length_cons]; (first | lia | omega)
theorem puts_take (b w : List (Str × Nat)) {i : Nat} {x : Str × Nat} (h : w[i]? = some x) : puts b (w.take (i + 1)) = put (puts b (w.take i)) x.1 x.2 := by
  obtain ⟨hi, e⟩ := List.getElem?_eq_some_iff.mp h
  rw [List.take_add_one, h]
  unfold puts
  rw [List.foldl_append]; rfl
theorem map_at {w : List (Str × Nat)} {I : PM} {vs : List Value} (h : IsAll I vs (w.map waitD)) {i : Nat} {v : Value} (e : vs[i]? = some v) : ∃ x, w[i]? = some x ∧ Is I v (waitD x) := by
  obtain ⟨d, e1, e2⟩ := h.at e
  rw [List.getElem?_map] at e1
  obtain ⟨x, h1, rfl⟩ := Option.map_eq_some_iff.mp e1
  exact ⟨x, h1, e2⟩
theorem intro_ok (B : Base (KK w.params) p loose mean mg mb hB) {I Mu : PM} {a0 : Addr} {as : List Addr} {q : Sc Str} {s : List (Sc Str)} {F : List (Addr × Obj)} (hC : Chn prog w I Mu (a0 :: as) (q :: s) F) (h1 : q.blocks.length ≤ 900000) (h2 : q.waits.length ≤ 900000) (h3 : q.blocks ≠ []) (h4 : q.waits ≠ [])
    (h5 : ∀ b ∈ q.blocks, b.length ≤ 400000) (h6 : ∀ b ∈ q.waits, b.length ≤ 400000) :
    CallOk prog w hB 1 3 (.ref 133) [.ref a0] I Mu (fun v I' Mu' => v = .none ∧ Chn prog w I' Mu' (a0 :: as) (introS (q :: s)) F) := by
  refine hideP ?_; intro _ hG_
  refine hC.headE ?_; rintro x rfl hS nx hF back
  obtain ⟨caps, capB, blocks, waits, size⟩ := q
  obtain ⟨b, bs, rfl⟩ := List.exists_cons_of_ne_nil h3
  obtain ⟨wa, ws, rfl⟩ := List.exists_cons_of_ne_nil h4
  obtain ⟨xa, xd, xbl, xwl, xcp, xcb, xw0, xbs, xws⟩ := x
  have hbs := hS.bs
  have hws := hS.ws
  dsimp only at hbs hws
  refine Ad.neE nx ?_; rintro N1 N2 N3 N4 N5 N6 N7 N8 N9 N10
  cases hbs with
  | @cons d1 _ xbs _ pb hbs =>
  cases hws with
  | @cons w1 _ xws _ pw hws =>
  dsimp only at *
  obtain ⟨o1, vs1, hd1, ho1, hk1⟩ := pb
  obtain ⟨vw, nv, hw1, hiw⟩ := pw
  have n11 : d1 ≠ w1 := by have := N10 d1 (by simp); simp at this; exact this.1
  refine hG_ ?_; clear hG_
  refine call_def B (by rfl) (by rfl) (fun s => BindsTo.of_eq rfl) (locs rfl) (by decide) ?_
  intro A g L h gn dr tk os hh hd hu S
  generalize henv : envX _ _ _ _ _ _ = env
  have hE := EnvOk.of henv
  dsimp only at hE
  refine r_hide ?_; intro _ _
  refine hS.attrsE ?_; rintro k t1 t2 t3 l n hat
  obtain ⟨nb, hbl⟩ := hS.bl
  obtain ⟨nw, hwl⟩ := hS.wl
  have hin := hS.inst
  dsimp only at hat hbl hwl hin
  simp only [List.reverse_cons, List.map_append, List.map_cons, List.map_nil, ← List.cons_append] at hbl hwl
  walk_at "hid"; refine r_cons ?_; intro _ _; refine (wpAny_For ?_)
  repeat walk_at "s2"
  refine r_sget B S hin hat (by rfl) (by rfl) ?_
  repeat walk_at "s2"
  refine r_lneg S (.inMu hwl) (by have := hws.length; simp at h2 ⊢; (first | lia | omega)) ?_
  obtain ⟨Sf, lf⟩ := S.freeze hw1
  have hIw : (I.upd w1 (lstO vw nv)) w1 = some (lstO vw nv) := PM.upd_self _ _ _
  have hiw' := hiw.mono lf
  have LW : vw.length = wa.length := by rw [hiw.length, List.length_map]
  generalize hI1 : I.upd w1 (lstO vw nv) = I1 at *
  refine r_forList (vs := vw) hh Sf hIw ?_
    (fun i m' I' Mu' => m' "scope" = some (.ref xa) ∧ ∃ o' vs', Mu' = (Mu.del w1).upd d1 o' ∧ o'.IsDictOf (strKind prog w) vs' ∧ RKvs IntV vs' (puts b (wa.take i)))
    (fun _ _ _ => False) (fun _ _ _ _ => False) ⟨rfl, o1, vs1, ?_, ho1, hk1⟩ ?_ ?_ (fun _ _ _ _ _ _ x => x.elim)
  · intro it l i v s Q' E' hv hi hq
    obtain ⟨j, hj⟩ := List.getElem?_of_mem hv
    obtain ⟨y, -, hy⟩ := map_at hiw hj
    refine hideP ?_; intro _ hG_; obtain ⟨a, v1, v2, rfl, -⟩ := hy.two; refine hG_ ?_; clear hG_
    exact wpAny_letOwnedTupleGo_listiter hi hq
  · funext y; grind [PM.upd, PM.del]
  · rintro i v m1 I2 Mu1 g1 h1' tk1 E' hv ⟨hm, o', vs', rfl, ho', hk'⟩ hI2 hg1 S1
    obtain ⟨y, hy, hyd⟩ := map_at hiw' hv
    refine hideP ?_; intro _ hG_; obtain ⟨ya, yk, yv, rfl, hya, iyk, iyv⟩ := (hyd.mono hI2).two; refine hG_ ?_; clear hG_
    cases iyk with
    | str _ kt =>
    cases iyv with
    | int _ vt =>
    refine r_asgTup S1 hh (isT S1 (.inI hya)) rfl rfl ?_
    intro h2' S2
    refine r_inOrdN ?_ rfl
    walk_at "st"; intro h3' S3
    refine r_inOrdN ?_ rfl
    walk_at "st"; intro h4' S4
    refine r_inOrdE ?_
    refine hideP ?_; intro _ hG_; obtain ⟨m4, hms, hmk, hmp, S4'⟩ : ∃ m4, m4 "scope" = some (.ref xa) ∧ m4 "key" = some (.str y.1 kt) ∧ m4 "place" = some (.int y.2 vt) ∧ St hB g1 L m4 I2 ((Mu.del w1).upd d1 o') h4' := ⟨_, hm, rfl, rfl, S4⟩; refine hG_ ?_; clear hG_
    repeat walk_at "s2"
    refine r_sget (dx := xd) B S4' (by grind [PM.upd, PM.del]) ((show _ = Mu xd by grind [PM.upd, PM.del]).trans hat) (by rfl) (by rfl) ?_
    repeat walk_at "s2"
    refine r_lneg S4' (.inMu ((show _ = Mu xbl by grind [PM.upd, PM.del]).trans hbl)) (by have := hbs.length; simp at h1 ⊢; (first | lia | omega)) ?_
    repeat walk_at "s2"
    have hlen : vs'.length ≤ 900000 := by
      have e1 := hk'.length
      have e2 := puts_length b (wa.take i)
      have e3 := h5 b (by simp)
      have e4 := h6 wa (by simp)
      have e5 : (wa.take i).length ≤ wa.length := by simp [List.length_take]; (first | lia | omega)
      (first | lia | omega)
    refine r_dset S4' (PM.upd_self _ _ _) ho' (by (first | lia | omega)) ?_
    intro h5' o5 S5 ho5
    repeat walk_at "s2"
    walk_at "hid"; refine Turn.next S5 (PM.le_refl _) ⟨hms, o5, _, ?_, ho5, ?_⟩
    · funext z; grind [PM.upd]
    · rw [puts_take b wa hy]; exact hk'.set ⟨vt, rfl⟩
  · intro m1 I2 Mu1 h1' tk1 hj hI2 S1
    refine hideP ?_; intro _ hG_; obtain ⟨hm, o', vs', rfl, ho', hk'⟩ := hj.resolve_right id; refine hG_ ?_; clear hG_
    rw [LW, List.take_length] at hk'
    try dsimp only
    repeat walk_at "s2"
    refine r_newLst S1 (Nat.le_of_ble_eq_true rfl) ?_
    intro w2 h6' hI6 hM6 S6
    repeat walk_at "s2"
    have oS : ∀ y ∈ ({ a := xa, d := xd, bl := xbl, wl := xwl, cp := xcp, cb := xcb, w0 := xw0, bs := d1 :: xbs, ws := w1 :: xws } : Ad).all, y ≠ w1 → y ≠ w2 := fun y hy n1 e => by
      obtain ⟨o, ho⟩ := hS.objs y hy
      subst e
      grind [PM.upd, PM.del]
    have w2n : w2 ≠ xa ∧ w2 ≠ xd ∧ w2 ≠ xbl ∧ w2 ≠ xwl ∧ w2 ≠ xcp ∧ w2 ≠ xcb ∧ w2 ≠ xw0 ∧ w2 ≠ d1 ∧ w2 ∉ xbs ∧ w2 ∉ xws := by
      have hnf := Ad.fresh_of nx oS
      simp only [Ad.all, List.mem_cons, List.mem_append, not_or] at hnf
      refine hideP ?_; intro _ hG_; obtain ⟨a1, a2, a3, a4, a5, a6, a7, ⟨a8, a9⟩, a10⟩ := hnf; refine hG_ ?_; clear hG_
      exact ⟨a1, a2, a3, a4, a5, a6, a7, a8, a9, a10⟩
    have hw2w1 : w2 = w1 ∨ Mu w2 = none := by grind [PM.upd, PM.del]
    have hwl6 : (((Mu.del w1).upd d1 o').upd w2 (lstO [] 0)) xwl = some (lstO (.ref xw0 :: xws.reverse.map .ref ++ [.ref w1]) nw) := (show _ = Mu xwl by grind [PM.upd, PM.del]).trans hwl
    refine r_sget (dx := xd) B S6 (by grind [PM.upd, PM.del]) ((show _ = Mu xd by grind [PM.upd, PM.del]).trans hat) (by rfl) (by rfl) ?_
    repeat walk_at "s2"
    refine r_lsetneg S6 hwl6 (by have := hws.length; simp at h2 ⊢; (first | lia | omega)) ?_
    intro h7 n7 S7
    repeat walk_at "s2"
    have key : ∀ y, y ≠ w1 → y ≠ d1 → y ≠ w2 → y ≠ xwl → ((((Mu.del w1).upd d1 o').upd w2 (lstO [] 0)).upd xwl (lstO (.ref xw0 :: xws.reverse.map .ref ++ [.ref w2]) n7)) y = Mu y := by grind [PM.upd, PM.del]
    walk_at "hid"; refine Back.intro S7 (PM.le_trans lf hI2) ⟨rfl, back _ _ ⟨xa, xd, xbl, xwl, xcp, xcb, xw0, d1 :: xbs, w2 :: xws⟩ _ (PM.le_trans lf hI2) rfl ?_ ?_ ?_ ?_⟩
    · refine ⟨(key _ (by grind) (by grind) (by grind) (by grind)).trans hin, ⟨k, t1, t2, t3, l, n, (key _ (by grind) (by grind) (by grind) (by grind)).trans hat⟩, ⟨nb, ?_⟩, ⟨n7, ?_⟩, ?_, hS.cb.at (key _ (by grind) (by grind) (by grind) (by grind)), ?_, .cons ⟨o', vs', by grind [PM.upd], ho', hk'⟩ (F2.at hbs fun a ha k q => q.at (key _ (by grind) (by grind) (by grind) (by grind))), .cons ⟨[], 0, by grind [PM.upd], .nil⟩ (F2.at hws fun a ha k q => q.at (PM.le_trans lf hI2) (key _ (by grind) (by grind) (by grind) (by grind)))⟩
      · simp only [List.reverse_cons, List.map_append, List.map_cons, List.map_nil, ← List.cons_append]; exact (key _ (by grind) (by grind) (by grind) (by grind)).trans hbl
      · simp only [List.reverse_cons, List.map_append, List.map_cons, List.map_nil, ← List.cons_append]; grind [PM.upd]
      · obtain ⟨vs, nn, e, r⟩ := hS.cp; exact ⟨vs, nn, (key _ (by grind) (by grind) (by grind) (by grind)).trans e, r.mono (PM.le_trans lf hI2)⟩
      · obtain ⟨nn, e⟩ := hS.w0; exact ⟨nn, (key _ (by grind) (by grind) (by grind) (by grind)).trans e⟩
    · exact Ad.swap_nodup nx (Ad.fresh_of nx oS)
    · intro b hb
      simp only [Ad.all, List.mem_cons, List.mem_append] at hb ⊢
      grind
    · intro b o hb ho
      simp only [Ad.all, List.mem_cons, List.mem_append, not_or] at hb
      grind [PM.upd, PM.del]
end
section
variable {prog : Program} {w : World} {p : Program} {loose : List Str} {mean : ExcName → Option Value} {mg mb : Str → Option Value} {hB : Heap}
/-- the innermost scope's number of slots is changed -/
theorem slot_ok (B : Base (KK w.params) p loose mean mg mb hB) {I Mu : PM} {a0 : Addr} {as : List Addr} {q : Sc Str} {s : List (Sc Str)} {F : List (Addr × Obj)} (hC : Chn prog w I Mu (a0 :: as) (q :: s) F) :
    CallOk prog w hB 1 3 (.ref 140) [.ref a0] I Mu (fun v I' Mu' => IntV v q.size ∧ Chn prog w I' Mu' (a0 :: as) ({ q with size := q.size + 1 } :: s) F) := by
  refine hideP ?_; intro _ hG_
  refine hC.headE ?_; rintro x rfl hS nx hF back
  refine Ad.neE nx ?_; rintro N1 N2 N3 N4 N5 N6 N7 N8 N9 N10
  refine hG_ ?_; clear hG_
  refine call_def B (by rfl) (by rfl) (fun s => BindsTo.of_eq rfl) (locs rfl) (by decide) ?_
  intro A g L h gn dr tk os hh hd hu S
  generalize henv : envX _ _ _ _ _ _ = env
  have hE := EnvOk.of henv
  dsimp only at hE
  refine r_hide ?_; intro _ _
  refine hS.attrsE ?_; rintro k t1 t2 t3 l n hat
  have hin := hS.inst
  repeat walk_at "s2"
  refine r_sget B S hin hat (by rfl) (by rfl) ?_
  repeat walk_at "s2"
  refine r_sset (es' := attrEs w.params k (outV as) (.str "main" t1) (.ref x.bl) (.ref x.wl) (.int (q.size + 1 : Nat) _) (.ref x.cp) (.int l t3)) (n' := n) B S hin hat (by rfl) (by rfl) (Nat.le_of_ble_eq_true rfl) ?_
  intro h1 S1
  repeat walk_at "s2"
  refine r_sget (dx := x.d) B S1 (by grind [PM.upd]) (PM.upd_self _ _ _) (by rfl) (by rfl) ?_
  repeat walk_at "s2"
  have key : ∀ y o, y ≠ x.d → (Mu.upd x.d o) y = Mu y := by grind [PM.upd]
  walk_at "hid"; refine Back.intro S1 (PM.le_refl _) ⟨⟨_, by simp; rfl⟩, back _ _ x _ (PM.le_refl _) rfl ?_ nx (fun b hb => .inl hb) (fun b o hb ho => by rw [key _ _ (fun e => hb (by rw [e]; simp [Ad.all]))]; exact ho)⟩
  refine ⟨(key _ _ (by grind)).trans hin, ⟨k, t1, _, t3, l, n, PM.upd_self _ _ _⟩, ?_, ?_, ?_, hS.cb.at (key _ _ (by grind)), ?_, F2.at hS.bs fun a ha k q => q.at (key _ _ (by grind)), F2.at hS.ws fun a ha k q => q.at (PM.le_refl _) (key _ _ (by grind))⟩
  · obtain ⟨nn, e⟩ := hS.bl; exact ⟨nn, (key _ _ (by grind)).trans e⟩
  · obtain ⟨nn, e⟩ := hS.wl; exact ⟨nn, (key _ _ (by grind)).trans e⟩
  · obtain ⟨vs, nn, e, r⟩ := hS.cp; exact ⟨vs, nn, (key _ _ (by grind)).trans e, r⟩
  · obtain ⟨nn, e⟩ := hS.w0; exact ⟨nn, (key _ _ (by grind)).trans e⟩
theorem hereB_snoc (k : Str) (c : List (Str × Nat)) : ∀ l : List (List (Str × Nat)), hereB k (l ++ [c]) = match hereB k l with | some n => some n | none => lk c k
  | [] => by simp only [List.nil_append, hereB]; cases lk c k <;> rfl
  | b :: r => by
    simp only [List.cons_append, hereB]
    cases lk b k with
    | some n => rfl
    | none => exact hereB_snoc k c r
theorem hereB_at (k : Str) : ∀ (l : List (List (Str × Nat))) (i : Nat) (c : List (Str × Nat)), l[i]? = some c → hereB k (l.take i) = none → (∀ n, lk c k = some n → hereB k l = some n) ∧ (lk c k = none → hereB k (l.take (i + 1)) = none)
  | [], i, c, e, _ => by simp at e
  | b :: r, 0, c, e, _ => by
    cases e
    refine ⟨fun n e => by simp [hereB, e], fun e => by simp [hereB, e]⟩
  | b :: r, i + 1, c, e, h => by
    simp only [List.take_succ_cons, hereB] at h ⊢
    cases q : lk b k with
    | some n => rw [q] at h; cases h
    | none =>
      rw [q] at h
      exact hereB_at k r i c (by simpa using e) h
theorem F2.snoc {α : Type} {P : Addr → α → Prop} {l : List Addr} {ks : List α} {a : Addr} {k : α} (h : F2 P l ks) (p : P a k) : F2 P (l ++ [a]) (ks ++ [k]) := by
  induction h with
  | nil => exact .cons p .nil
  | cons q _ ih => exact .cons q ih
theorem F2.get {α : Type} {P : Addr → α → Prop} : ∀ {l : List Addr} {ks : List α}, F2 P l ks → ∀ {i : Nat} {a : Addr}, l[i]? = some a → ∃ k, ks[i]? = some k ∧ P a k
  | _, _, .cons p _, 0, _, e => by cases e; exact ⟨_, rfl, p⟩
  | _, _, .cons _ r, i + 1, a, e => by
    obtain ⟨k, e1, e2⟩ := r.get (i := i) (a := a) (by simpa using e)
    exact ⟨k, by simpa using e1, e2⟩
noncomputable def PlaceV (v : Value) (o : Option Nat) : Prop := match o with
  | none => v = .none
  | some n => IntV v n
theorem here_ok (B : Base (KK w.params) p loose mean mg mb hB) {I Mu : PM} {a0 : Addr} {as : List Addr} {q : Sc Str} {s : List (Sc Str)} {F : List (Addr × Obj)} (hC : Chn prog w I Mu (a0 :: as) (q :: s) F) (h1 : q.blocks.length ≤ 900000) (key : Str) (kt : Tok) :
    CallOk prog w hB 1 3 (.ref 147) [.ref a0, .str key kt] I Mu (fun v I' Mu' => PlaceV v (q.here key) ∧ Mu = Mu') := by
  refine hideP ?_; intro _ hG_
  refine hC.headE ?_; rintro x rfl hS nx hF back
  refine Ad.neE nx ?_; rintro N1 N2 N3 N4 N5 N6 N7 N8 N9 N10
  refine hG_ ?_; clear hG_
  refine call_def B (by rfl) (by rfl) (fun s => BindsTo.of_eq rfl) (locs rfl) (by decide) ?_
  intro A g L h gn dr tk os hh hd hu S
  generalize henv : envX _ _ _ _ _ _ = env
  have hE := EnvOk.of henv
  dsimp only at hE
  refine r_hide ?_; intro _ _
  refine hS.attrsE ?_; rintro k t1 t2 t3 l n hat
  have hin := hS.inst
  obtain ⟨nb, hbl⟩ := hS.bl
  walk_at "hid"; refine r_cons ?_; intro _ _; refine (wpAny_For ?_)
  repeat walk_at "s2"
  refine r_sget B S hin hat (by rfl) (by rfl) ?_
  repeat walk_at "s2"
  have hall : F2 (DictN prog w Mu) (x.bs ++ [x.cb]) (q.blocks ++ [q.capB]) := hS.bs.snoc hS.cb
  have hrev : (Value.ref x.cb :: x.bs.reverse.map .ref).reverse = (x.bs ++ [x.cb]).map .ref := by simp
  have hle : x.bs.length = q.blocks.length := hS.bs.length
  refine r_srev S (.inMu hbl) (.int _ _) (by simp; (first | lia | omega)) (by with_unfolding_all rfl) ?_
  intro D h1' I1 hI1 hD S1
  rw [hrev] at hD
  have hq : q.here key = hereB key (q.blocks ++ [q.capB]) := by rw [hereB_snoc]; rfl
  refine r_forList hh S1 hD ?_ (fun i m' I' Mu' => m' "key" = some (.str key kt) ∧ Mu = Mu' ∧ hereB key ((q.blocks ++ [q.capB]).take i) = none) (fun _ _ _ => False) (fun v _ _ Mu' => PlaceV v (q.here key) ∧ Mu = Mu') ⟨rfl, rfl, by simp [hereB]⟩ ?_ ?_ ?_
  · intro it l i v s Q' E' hv hi hq
    exact wpAny_pure hq
  · rintro i v m1 I2 Mu1 g1 h2' tk1 E' hv ⟨hmk, rfl, hno⟩ hI2 hg1 S2
    rw [List.getElem?_map] at hv
    obtain ⟨a, ha, rfl⟩ := Option.map_eq_some_iff.mp hv
    refine hideP ?_; intro _ hG_; obtain ⟨kvs, hkv, o, vs, ho, hod, hk⟩ := hall.get ha; refine hG_ ?_; clear hG_
    have hat' := hereB_at key _ i kvs hkv hno
    (try (refine r_turn ?_; intro _ _)); refine assign_Name ?_
    walk_at "st"; intro h3 S3
    refine hideP ?_; intro _ hG_; obtain ⟨m3, hmb, hmk3, S3'⟩ : ∃ m3, m3 "block" = some (.ref a) ∧ m3 "key" = some (.str key kt) ∧ St hB g1 L m3 I2 Mu h3 := ⟨_, rfl, hmk, S3⟩; refine hG_ ?_; clear hG_
    clear S3 S2
    repeat walk_at "s2"
    refine r_din S3' (.inMu ho) hod (S3'.notSys B (.inMu ho)) ?_
    repeat walk_at "s2"
    rcases hk.at key with ⟨e1, e2⟩ | ⟨nn, v, e1, e2, ⟨tt, rfl⟩⟩
    · rw [e2]
      simp only [Option.isSome_none]
      simp only [Bool.false_eq_true, if_false]
      repeat walk_at "s2"
      walk_at "hid"; exact Turn.next S3' (PM.le_refl _) ⟨hmk3, rfl, hat'.2 e1⟩
    · rw [e2]
      simp only [Option.isSome_some]
      simp only [if_true]
      repeat walk_at "s2"
      refine r_ditem S3' (.inMu ho) hod e2 ?_
      walk_at "hid"; refine Turn.ret S3' (PM.le_refl _) ⟨?_, rfl⟩
      rw [hq, hat'.1 _ e1]; exact ⟨tt, rfl⟩
  · intro m1 I2 Mu1 h2' tk1 hj hI2 S2
    obtain ⟨hmk, rfl, hno⟩ := hj.resolve_right id
    try dsimp only
    repeat walk_at "s2"
    walk_at "hid"; refine Back.intro S2 (PM.le_trans hI1 hI2) ⟨?_, rfl⟩
    rw [List.length_map, hall.length, List.take_length] at hno
    rw [hq, hno]; rfl
  · rintro v m1 I2 Mu1 h2' tk1 ⟨hp, rfl⟩ hI2 S2
    walk_at "hid"; exact Back.intro S2 (PM.le_trans hI1 hI2) ⟨hp, rfl⟩
end
section
variable {prog : Program} {w : World} {p : Program} {loose : List Str} {mean : ExcName → Option Value} {mg mb : Str → Option Value} {hB : Heap}
theorem len_key (sig : Bool) (nm : Str) : (0 : Int) < ((sigS sig ++ nm).length : Int) := by
  have : (sigS sig ++ nm).length = (sigS sig).length + nm.length := Array.size_append
  have h1 : (sigS sig).length = 1 := by cases sig <;> decide
  (first | lia | omega)
theorem item0 (sig : Bool) (nm : Str) : Txt.item (sigS sig ++ nm) 0 = sigS sig := by
  have h : seqIndex? 0 (sigS sig ++ nm).length = some 0 := by
    have := len_key sig nm
    unfold seqIndex?
    simp only [Int.lt_irrefl, if_false]
    rw [if_pos (by simp; (first | lia | omega))]; rfl
  unfold Txt.item Txt.charAt
  rw [h]
  show (⟨#[(((sigS sig).cps ++ nm.cps)[0]?).getD 0]⟩ : Str) = sigS sig
  cases sig
  · have e : (sigS false).cps = #[36] := by decide +kernel
    rw [e, Array.getElem?_append_left (by decide)]
    show (⟨#[36]⟩ : Str) = sigS false
    decide +kernel
  · have e : (sigS true).cps = #[64] := by decide +kernel
    rw [e, Array.getElem?_append_left (by decide)]
    show (⟨#[64]⟩ : Str) = sigS true
    decide +kernel
noncomputable def Fit (s : List (Sc Str)) : Prop := ∀ q ∈ s, q.blocks.length ≤ 900000 ∧ q.caps.length ≤ 900000 ∧ q.capB.length ≤ 900000
theorem find_ok (B : Base (KK w.params) p loose mean mg mb hB) (sig : Bool) (nm : Str) : ∀ (s : List (Sc Str)) {I Mu : PM} {a0 : Addr} {as : List Addr} {q : Sc Str} {F : List (Addr × Obj)} (kt : Tok) (_ : Chn prog w I Mu (a0 :: as) (q :: s) F) (_ : Fit (q :: s)),
    CallOk prog w hB (s.length + 2) (3 * s.length + 6) (.ref 154) [.ref a0, .str (sigS sig ++ nm) kt] I Mu (fun v I' Mu' => PlaceV v (find sig (sigS sig ++ nm) (q :: s)).1 ∧ Chn prog w I' Mu' (a0 :: as) (find sig (sigS sig ++ nm) (q :: s)).2 F) := by
  intro s
  induction s with
  | nil => ?_
  | cons q2 s ih => ?_
  all_goals
    intro I Mu a0 as q F kt hC hfit
    have hfq := hfit q (.head _)
    refine call_def B (by rfl) (by rfl) (fun s => BindsTo.of_eq rfl) (locs rfl) (by decide) ?_
    intro A g L h gn dr tk os hh hd hu S
    generalize henv : envX _ _ _ _ _ _ = env
    have hE := EnvOk.of henv
    dsimp only at hE
    refine r_hide ?_; intro _ _
    simp only [List.length_nil, List.length_cons] at hd hu
    repeat walk_at "s2"
    refine r_hide ?_; intro _ _; refine (here_ok B hC hfq.1 _ kt).go hh S (by (first | lia | omega)) (by (first | lia | omega)) ?_
    rintro v1 I1 Mu1 h1 tk1 S1 hle1 ⟨hp1, rfl⟩
    replace hC := hC.mono hle1
    walk_at "st"; intro h2 S2
    repeat walk_at "s2"
    cases hq : q.here (sigS sig ++ nm) with
    | some n0 =>
      rw [hq] at hp1
      obtain ⟨t1, rfl⟩ := hp1
      repeat walk_at "s2"
      walk_at "hid"; refine Back.intro S2 hle1 ?_
      simp only [find, hq]
      exact ⟨⟨t1, rfl⟩, hC⟩
    | none => ?_
    rw [hq] at hp1
    obtain rfl : v1 = .none := hp1
    repeat walk_at "s2"
    refine hC.headE ?_; rintro x rfl hS nx hF back
    refine hS.attrsE ?_; rintro k t1 t2 t3 l n hat
    have hin := hS.inst
    refine r_sget B S2 hin hat (by rfl) (by first | rfl | (cases as <;> rfl)) ?_
  · obtain rfl : as = [] := by
      refine hideP ?_; intro _ hG_; obtain ⟨xs, e, c, _⟩ := hC; refine hG_ ?_; clear hG_
      cases c with | cons _ r => cases r; exact (by simpa using e.symm : _ ∧ _).2
    dsimp only [outV]
    repeat walk_at "s2"
    walk_at "hid"; refine Back.intro S2 hle1 ?_
    simp only [find, hq]
    exact ⟨rfl, hC⟩
  · obtain ⟨a2, as', rfl⟩ : ∃ a2 as', as = a2 :: as' := by
      refine hideP ?_; intro _ hG_; obtain ⟨xs, e, c, _⟩ := hC; refine hG_ ?_; clear hG_
      cases c with | cons _ r => cases r with | cons _ _ => simp only [List.map_cons, List.cons.injEq] at e; exact ⟨_, _, e.2.symm⟩
    dsimp only [outV]
    repeat walk_at "s2"
    refine r_sget B S2 hin hat (by rfl) (by rfl) ?_
    dsimp only [outV]
    repeat walk_at "s2"
    obtain ⟨F0, hC2, back2⟩ := hC.outer
    refine r_hide ?_; intro _ _; refine (ih kt hC2 (fun z hz => hfit z (.tail _ hz))).go hh S2 (by (first | lia | omega)) (by (first | lia | omega)) ?_
    rintro v3 I3 Mu3 h3 tk3 S3 hle3 ⟨hp3, hC3⟩
    replace hC3 := back2 _ _ _ hle3 hC3
    walk_at "st"; intro h4 S4
    repeat walk_at "s2"
    rcases hfr : find sig (sigS sig ++ nm) (q2 :: s) with ⟨_ | pl, r'⟩
    · have efind := find_none hq hfr
      rw [hfr] at hp3 hC3
      obtain rfl : v3 = .none := hp3
      repeat walk_at "s2"
      walk_at "hid"; refine Back.intro S4 (PM.le_trans hle1 hle3) ?_
      rw [efind]
      exact ⟨rfl, hC3⟩
    · have efind := find_some hq hfr
      rw [hfr] at hp3 hC3
      obtain ⟨tp, rfl⟩ := hp3
      repeat walk_at "s2"
      refine r_hide ?_; intro _ _; refine (slot_ok B hC3).go hh S4 (by (first | lia | omega)) (by (first | lia | omega)) ?_
      rintro v5 I5 Mu5 h5 tk5 S5 hle5 ⟨⟨tsl, rfl⟩, hC5⟩
      walk_at "st"; intro h6 S6
      clear hS nx hF back hat hin back2 hC2 hC3
      refine hC5.headE ?_; rintro x5 hx5 hS5 nx5 hF5 back5
      refine Ad.neE nx5 ?_; rintro N1 N2 N3 N4 N5 N6 N7 N8 N9 N10
      refine hS5.attrsE ?_; rintro k5 t51 t52 t53 l5 n5 hat5
      have hin5 : Mu5 x.a = some (instObj 108 x5.d) := hx5 ▸ hS5.inst
      refine hideP ?_; intro _ hG_; obtain ⟨cvs, cn, hcp, hcd⟩ := hS5.cp; refine hG_ ?_; clear hG_
      obtain ⟨nb, hbl⟩ := hS5.bl
      refine hideP ?_; intro _ hG_; obtain ⟨od, dvs, hcb, hod, hdk⟩ := hS5.cb; refine hG_ ?_; clear hG_
      repeat walk_at "s2"
      refine r_sget B S6 hin5 hat5 (by rfl) (by rfl) ?_
      repeat walk_at "s2"
      refine r_listMeth S6 (.inMu hcp) PySem.F.slot_list_append PySem.F.type_list_append ?_
      repeat walk_at "s2"
      refine item_str (s := ⟨h6, gn, dr, _, os⟩) (by decide) (by have := len_key sig nm; (first | lia | omega)) (len_key sig nm) (fun _ => ?_) (by with_unfolding_all rfl) (by intro _; with_unfolding_all rfl)
      rw [item0]
      repeat walk_at "s2"
      refine r_newTup S6 (Nat.le_of_ble_eq_true rfl) ?_
      intro a7 h7 I7 hle7 ha7 S7
      repeat walk_at "s2"
      refine r_append S7 hcp (by have := hcd.length; simp at this; (first | lia | omega)) ?_
      intro h8 n8 S8
      repeat walk_at "s2"
      refine r_sget (dx := x5.d) B S8 ((show _ = Mu5 x.a by grind [PM.upd]).trans hin5) ((show _ = Mu5 x5.d by grind [PM.upd]).trans hat5) (by rfl) (by rfl) ?_
      repeat walk_at "s2"
      refine r_litem S8 (.inMu ((show _ = Mu5 x5.bl by grind [PM.upd]).trans hbl)) (by decide) (by decide) (by rfl) ?_
      repeat walk_at "s2"
      refine r_dset S8 ((show _ = Mu5 x5.cb by grind [PM.upd]).trans hcb) hod (by have := hdk.length; dsimp only at this; (first | lia | omega)) ?_
      intro h9 o9 S9 ho9
      repeat walk_at "s2"
      walk_at "hid"; refine Back.intro S9 (PM.le_trans hle1 (PM.le_trans hle3 (PM.le_trans hle5 hle7))) ?_
      rw [efind]
      refine ⟨⟨_, rfl⟩, back5 I7 _ x5 _ hle7 hx5 ?_ nx5 (fun b hb => .inl hb) (fun b o hb ho => ?_)⟩
      · have key : ∀ y, y ≠ x5.cp → y ≠ x5.cb → ((Mu5.upd x5.cp (lstO (cvs ++ [.ref a7]) n8)).upd x5.cb o9) y = Mu5 y := by grind [PM.upd]
        refine ⟨(key _ (by grind) (by grind)).trans hS5.inst, ⟨k5, t51, t52, t53, l5, n5, (key _ (by grind) (by grind)).trans hat5⟩, ⟨nb, (key _ (by grind) (by grind)).trans hbl⟩, ?_, ⟨cvs ++ [.ref a7], n8, by grind [PM.upd], ?_⟩, ⟨o9, _, PM.upd_self _ _ _, ho9, hdk.set ⟨tsl, rfl⟩⟩, ?_, F2.at hS5.bs fun a ha k q => q.at (key _ (by grind) (by grind)), F2.at hS5.ws fun a ha k q => q.at hle7 (key _ (by grind) (by grind))⟩
        · obtain ⟨nn, e⟩ := hS5.wl; exact ⟨nn, (key _ (by grind) (by grind)).trans e⟩
        · simp only [List.map_append, List.map_cons, List.map_nil]
          exact (hcd.mono hle7).snoc (.tup3 ha7 (.int _ _) (.int _ _) (.str _ _))
        · obtain ⟨nn, e⟩ := hS5.w0; exact ⟨nn, (key _ (by grind) (by grind)).trans e⟩
      · simp only [Ad.all, List.mem_cons, List.mem_append, not_or] at hb
        grind [PM.upd]
end
section
variable {prog : Program} {w : World} {p : Program} {loose : List Str} {mean : ExcName → Option Value} {mg mb : Str → Option Value} {hB : Heap}
noncomputable def forcedL : List Str := ["ENV", "INC", "ARGV", "ARGVOUT", "SIG", "STDIN", "STDOUT", "STDERR", "_"]
noncomputable def signsS : Str := "abcdefghijklmnopqrstuvwxyzABCDEFGHIJKLMNOPQRSTUVWXYZ_"
/-- a name as my may tell it -/
structure Good (nm : Str) : Prop where
  noCol : (Builtin.Str.occurrences nm "::" 0 nm.length 1).isEmpty = true
  notForced : (forcedL.any (· == nm)) = false
  notEmpty : (nm == "") = false
  letter : (Builtin.Str.occurrences signsS (Txt.item nm 0) 0 signsS.length 1).isEmpty = false
  notMy : ((["", "_"] : List Str).any (· == nm)) = false
  len : 0 < nm.length
  short : nm.length ≤ 1000
theorem forced_K (P : Params) : ∃ vs, (KK P).lookup 54 = some ⟨.type "tuple", none, .seq (List.toArray vs) 0, #[]⟩ ∧ StrsAre vs forcedL := ⟨_, by rfl, by repeat (first | exact .nil | refine .cons _ _ ?_)⟩
theorem special_ok (B : Base (KK w.params) p loose mean mg mb hB) {nm : Str} (G : Good nm) (nt : Tok) {I Mu : PM} : CallOk prog w hB 1 3 (.ref 61) [.str nm nt] I Mu (fun v I' Mu' => v = .bool false ∧ Mu = Mu') := by
  refine call_def B (by rfl) (by rfl) (fun s => BindsTo.of_eq rfl) (locs rfl) (by decide) ?_
  intro A g L h gn dr tk os hh hd hu S
  generalize henv : envX _ _ _ _ _ _ = env
  have hE := EnvOk.of henv
  dsimp only at hE
  refine r_hide ?_; intro _ _
  repeat walk_at "s2"
  obtain ⟨fvs, hf, hfs⟩ := forced_K w.params
  refine in_tuple_strs (s := ⟨h, gn, dr, tk, os⟩) (isTK B S hf) hfs ?_
  rw [G.notForced]
  repeat walk_at "s2"
  rw [G.notEmpty]
  repeat walk_at "s2"
  refine item_str (s := ⟨h, gn, dr, _, os⟩) (by decide) (by have := G.len; (first | lia | omega)) (by have := G.len; (first | lia | omega)) (fun _ => ?_) (by with_unfolding_all rfl) (by intro _; with_unfolding_all rfl)
  repeat walk_at "s2"
  rw [show (Builtin.Str.occurrences "abcdefghijklmnopqrstuvwxyzABCDEFGHIJKLMNOPQRSTUVWXYZ_" (Txt.item nm 0) 0 (Str.length "abcdefghijklmnopqrstuvwxyzABCDEFGHIJKLMNOPQRSTUVWXYZ_") 1).isEmpty = false from G.letter]
  walk_at "hid"; exact Back.intro S (PM.le_refl _) ⟨rfl, rfl⟩
theorem whole_ok (B : Base (KK w.params) p loose mean mg mb hB) {nm : Str} (G : Good nm) (pt nt : Tok) {I Mu : PM} : CallOk prog w hB 2 6 (.ref 75) [.str "main" pt, .str nm nt] I Mu (fun v I' Mu' => (∃ t, v = .str ("main::" ++ nm) t) ∧ Mu = Mu') := by
  refine call_def B (by rfl) (by rfl) (fun s => BindsTo.of_eq rfl) (locs rfl) (by decide) ?_
  intro A g L h gn dr tk os hh hd hu S
  generalize henv : envX _ _ _ _ _ _ = env
  have hE := EnvOk.of henv
  dsimp only at hE
  refine r_hide ?_; intro _ _
  repeat walk_at "s2"
  rw [G.noCol]
  repeat walk_at "s2"
  refine r_hide ?_; intro _ _; refine (special_ok B G nt).go hh S (by (first | lia | omega)) (by (first | lia | omega)) ?_
  rintro v1 I1 Mu1 h1 tk1 S1 hle1 ⟨rfl, rfl⟩
  repeat walk_at "s2"
  refine r_addS (by decide) ?_
  intro t2 tk2
  repeat walk_at "s2"
  refine r_addS (by have := G.short; have : (("main" : Str) ++ ("::" : Str)).length = 6 := by decide
                    (first | lia | omega)) ?_
  intro t3 tk3
  walk_at "hid"; refine Back.intro S1 hle1 ⟨⟨t3, ?_⟩, rfl⟩
  rw [show ("main" : Str) ++ ("::" : Str) = ("main::" : Str) by decide +kernel]
end
section
variable {prog : Program} {w : World} {p : Program} {loose : List Str} {mean : ExcName → Option Value} {mg mb : Str → Option Value} {hB : Heap}
theorem ends_K (P : Params) : ∃ es n, (KK P).lookup 90 = some ⟨.type "dict", none, .dict es n, #[]⟩ ∧ KeysLit P es.toList ∧ (∃ t, nsIn (KK P) 90 (sigS false) = some (some (.str "s" t))) ∧ ∃ t, nsIn (KK P) 90 (sigS true) = some (some (.str "a" t)) :=
  ⟨_, _, by rfl, by (first | (repeat constructor) | skip), ⟨_, by rfl⟩, ⟨_, by rfl⟩⟩
theorem r_ends {A : Around} {E : Value → Shared → Prop} {h : Heap} {gn : Array GenState} {dr : Drawn} {tk : Nat} {os : OsState} {g : PM} {L : Addr} {m : Str → Option Value} {I Mu : PM} {value slice : PySem.Expr} {Q : Value → Shared → Prop} {t : Tok} (B : Base (KK w.params) p loose mean mg mb hB) (S : St hB g L m I Mu h) (sig : Bool)
    (q : ∀ t', Q (.str (endS sig) t') ⟨h, gn, dr, tk + 1, os⟩)
    (hs : subscripted slice false (.ref 90) (.str (sigS sig) t) = operate [.ref 90, .str (sigS sig) t] (getItem (.ref 90) (.str (sigS sig) t)) := by with_unfolding_all rfl) :
    wpAny (model prog w) A (subscriptTail value slice (.ref 90) (.str (sigS sig) t)) Q E ⟨h, gn, dr, tk, os⟩ := by
  refine hideP ?_; intro _ hG_; obtain ⟨es, n, hl, hk, ⟨t1, e1⟩, ⟨t2, e2⟩⟩ := ends_K w.params; refine hG_ ?_; clear hG_
  cases sig
  · exact topItem_K (s := ⟨h, gn, dr, tk, os⟩) S.fr B.k hl hk e1 (q _) hs
  · exact topItem_K (s := ⟨h, gn, dr, tk, os⟩) S.fr B.k hl hk e2 (q _) hs
theorem Chn.ne {I Mu : PM} {a0 : Addr} {as : List Addr} {s : List (Sc Str)} {F : List (Addr × Obj)} (h : Chn prog w I Mu (a0 :: as) s F) : ∃ q s', s = q :: s' := by
  refine hideP ?_; intro _ hG_; obtain ⟨xs, e, c, _⟩ := h; refine hG_ ?_; clear hG_
  cases c with
  | nil => cases e
  | cons _ _ => exact ⟨_, _, rfl⟩
noncomputable def rNameD (sig : Bool) (nm : Str) (s : List (Sc Str)) : D × List (Sc Str) := match find sig (sigS sig ++ nm) s with
  | (some n, s') => (padR sig n, s')
  | (none, s') => (globR sig nm, s')
theorem rname_ok (B : Base (KK w.params) p loose mean mg mb hB) (sig : Bool) {nm : Str} (G : Good nm) {I Mu : PM} {a0 : Addr} {as : List Addr} {q : Sc Str} {s : List (Sc Str)} {F : List (Addr × Obj)} {v : Value} (hv : Is I v (.tup [.str "name", .str (sigS sig), .str nm])) (hC : Chn prog w I Mu (a0 :: as) (q :: s) F) (hfit : Fit (q :: s)) :
    CallOk prog w hB (s.length + 3) (3 * s.length + 9) (.ref 166) [.ref a0, v] I Mu (fun r I' Mu' => Is I' r (rNameD sig nm (q :: s)).1 ∧ Chn prog w I' Mu' (a0 :: as) (rNameD sig nm (q :: s)).2 F) := by
  refine hideP ?_; intro _ hG_
  refine hv.threeE ?_; rintro a v1 v2 v3 rfl ha i1 i2 i3
  cases i1 with | str _ tt1 =>
  cases i2 with | str _ tt2 =>
  cases i3 with | str _ tt3 =>
  refine hG_ ?_; clear hG_
  refine call_def B (by rfl) (by rfl) (fun s => BindsTo.of_eq rfl) (locs rfl) (by decide) ?_
  intro A g L h gn dr tk os hh hd hu S
  generalize henv : envX _ _ _ _ _ _ = env
  have hE := EnvOk.of henv
  dsimp only at hE
  refine r_hide ?_; intro _ _
  walk_at "hid"; refine r_cons ?_; intro _ _; refine (Assign_Tuple ?_ rfl (by rewrite [← henv]; rfl))
  repeat walk_at "s2"
  refine r_asgTup S hh (isT S (.inI ha)) rfl rfl ?_
  intro h1 S1
  refine r_inOrdN ?_ rfl
  walk_at "st"; intro h2 S2
  refine r_inOrdN ?_ rfl
  walk_at "st"; intro h3 S3
  refine r_inOrdN ?_ rfl
  walk_at "st"; intro h4 S4
  refine r_inOrdE ?_
  refine hideP ?_; intro _ hG_; obtain ⟨m4, hsc, hsg, hnm, S4'⟩ : ∃ m4, m4 "scope" = some (.ref a0) ∧ m4 "sigil" = some (.str (sigS sig) tt2) ∧ m4 "name" = some (.str nm tt3) ∧ St hB g L m4 I Mu h4 := ⟨_, rfl, rfl, rfl, S4⟩; refine hG_ ?_; clear hG_
  clear S S1 S2 S3 S4
  walk_at "hid"; refine r_cons ?_; intro _ _; refine (wpAny_If ?_)
  refine wpAny_mono (Q := fun b s => ∃ tk', b = true ∧ s = ⟨h4, gn, dr, tk', os⟩) ?_ (fun b s hb => ?_) (fun _ _ x => x)
  · repeat walk_at "s2"
    rw [G.noCol]
    repeat walk_at "s2"
    cases sig
    · rw [show (sigS false == ("$" : Str)) = true by decide +kernel]
      repeat walk_at "s2"
      exact ⟨_, rfl, rfl⟩
    · rw [show (sigS true == ("$" : Str)) = false by decide +kernel]
      repeat walk_at "s2"
      rw [show (sigS true == ("@" : Str)) = true by decide +kernel]
      repeat walk_at "s2"
      exact ⟨_, rfl, rfl⟩
  obtain ⟨tk5, rfl, rfl⟩ := hb
  repeat walk_at "s2"
  refine r_addS (by have := G.short; have : (sigS sig).length ≤ 1 := (by cases sig <;> decide); (first | lia | omega)) ?_
  intro t6 tk6
  repeat walk_at "s2"
  refine r_hide ?_; intro _ _; refine (find_ok B sig nm s t6 hC hfit).go hh S4' (by (first | lia | omega)) (by (first | lia | omega)) ?_
  rintro v7 I7 Mu7 h7 tk7 S7 hle7 ⟨hp7, hC7⟩
  walk_at "st"; intro h8 S8
  refine hideP ?_; intro _ hG_; obtain ⟨m8, hsc8, hsg8, hnm8, hpl8, S8'⟩ : ∃ m8, m8 "scope" = some (.ref a0) ∧ m8 "sigil" = some (.str (sigS sig) tt2) ∧ m8 "name" = some (.str nm tt3) ∧ m8 "place" = some v7 ∧ St hB g L m8 I7 Mu7 h8 := ⟨_, hsc, hsg, hnm, rfl, S8⟩; refine hG_ ?_; clear hG_
  clear S7 S8 S4'
  rcases hfd : find sig (sigS sig ++ nm) (q :: s) with ⟨_ | n, s'⟩
  · rw [hfd] at hp7 hC7
    have erN : rNameD sig nm (q :: s) = (globR sig nm, s') := by unfold rNameD; rw [hfd]
    clear hfd
    obtain rfl : v7 = .none := hp7
    repeat walk_at "s2"
    cases sig
    all_goals
      first | rw [show (sigS false == ("&" : Str)) = false by decide +kernel] | rw [show (sigS true == ("&" : Str)) = false by decide +kernel]
      repeat walk_at "s2"
      refine r_ends B S8' _ ?_
      intro t9
      refine r_addS (by decide) ?_
      intro t10 tk10
      repeat walk_at "s2"
      dsimp only at hC7
      obtain ⟨q', s'', rfl⟩ := hC7.ne
      refine hC7.headE ?_; rintro x rfl hS nx hF back
      refine hS.attrsE ?_; rintro k t1 t2 t3 l n hat
      refine r_sget B S8' hS.inst hat (by rfl) (by rfl) ?_
      repeat walk_at "s2"
      refine r_hide ?_; intro _ _; refine (whole_ok B G _ tt3).go hh S8' (by (first | lia | omega)) (by (first | lia | omega)) ?_
      rintro v12 I12 Mu12 h12 tk12 S12 hle12 ⟨⟨t12, rfl⟩, rfl⟩
      repeat walk_at "s2"
      refine r_newTup S12 (Nat.le_of_ble_eq_true rfl) ?_
      intro a13 h13 I13 hle13 ha13 S13
      walk_at "hid"; exact Back.intro S13 (PM.le_trans hle7 (PM.le_trans hle12 hle13)) (by rw [erN]; exact ⟨.tup2 ha13 (.str _ _) (.str _ _), (hC7.mono hle12).mono hle13⟩)
  · rw [hfd] at hp7 hC7
    have erN : rNameD sig nm (q :: s) = (padR sig n, s') := by unfold rNameD; rw [hfd]
    clear hfd
    obtain ⟨tn, rfl⟩ := hp7
    repeat walk_at "s2"
    refine r_ends B S8' _ ?_
    intro t9
    refine r_addS (by cases sig <;> decide) ?_
    intro t10 tk10
    repeat walk_at "s2"
    refine r_newTup S8' (Nat.le_of_ble_eq_true rfl) ?_
    intro a11 h11 I11 hle11 ha11 S11
    walk_at "hid"; exact Back.intro S11 (PM.le_trans hle7 hle11) (by rw [erN]; exact ⟨.tup2 ha11 (.str _ _) (.int _ _), hC7.mono hle11⟩)
end
section
variable {prog : Program} {w : World} {p : Program} {loose : List Str} {mean : ExcName → Option Value} {mg mb : Str → Option Value} {hB : Heap}
theorem check_ok (B : Base (KK w.params) p loose mean mg mb hB) {nm : Str} (G : Good nm) (a0 : Addr) (wt nt : Tok) {I Mu : PM} : CallOk prog w hB 1 3 (.ref 173) [.ref a0, .str "my" wt, .str nm nt] I Mu (fun _ _ Mu' => Mu = Mu') := by
  refine call_def B (by rfl) (by rfl) (fun s => BindsTo.of_eq rfl) (locs rfl) (by decide) ?_
  intro A g L h gn dr tk os hh hd hu S
  generalize henv : envX _ _ _ _ _ _ = env
  have hE := EnvOk.of henv
  dsimp only at hE
  refine r_hide ?_; intro _ _
  repeat walk_at "s2"
  rw [G.noCol]
  repeat walk_at "s2"
  rw [show (("my" : Str) == ("my" : Str)) = true by decide +kernel]
  repeat walk_at "s2"
  refine r_newTup S (Nat.le_of_ble_eq_true rfl) ?_
  intro a1 h1 I1 hle1 ha1 S1
  refine in_tuple_strs (s := ⟨h1, gn, dr, _, os⟩) (isT S1 (.inI ha1)) (ys := ["", "_"]) (.cons _ _ (.cons _ _ .nil)) ?_
  rw [G.notMy]
  repeat walk_at "s2"
  refine item_str (s := ⟨h1, gn, dr, _, os⟩) (by decide) (by have := G.len; (first | lia | omega)) (by have := G.len; (first | lia | omega)) (fun _ => ?_) (by with_unfolding_all rfl) (by intro _; with_unfolding_all rfl)
  repeat walk_at "s2"
  rw [show (Builtin.Str.occurrences "abcdefghijklmnopqrstuvwxyzABCDEFGHIJKLMNOPQRSTUVWXYZ_" (Txt.item nm 0) 0 (Str.length "abcdefghijklmnopqrstuvwxyzABCDEFGHIJKLMNOPQRSTUVWXYZ_") 1).isEmpty = false from G.letter]
  repeat walk_at "s2"
  walk_at "hid"; exact Back.intro S1 hle1 rfl
theorem rmy_ok (B : Base (KK w.params) p loose mean mg mb hB) (sig : Bool) {nm : Str} (G : Good nm) {I Mu : PM} {a0 : Addr} {as : List Addr} {q : Sc Str} {s : List (Sc Str)} {F : List (Addr × Obj)} {v : Value} (hv : Is I v (.tup [.str "my", .str (sigS sig), .str nm])) (hC : Chn prog w I Mu (a0 :: as) (q :: s) F) (h2 : q.waits.length ≤ 900000) (h4 : q.waits ≠ []) (h6 : ∀ b ∈ q.waits, b.length ≤ 400000) :
    CallOk prog w hB 2 6 (.ref 180) [.ref a0, v] I Mu (fun r I' Mu' => Is I' r (myR sig q.size) ∧ Chn prog w I' Mu' (a0 :: as) (tellS (sigS sig ++ nm) (q :: s)) F) := by
  refine hideP ?_; intro _ hG_
  refine hv.threeE ?_; rintro a v1 v2 v3 rfl ha i1 i2 i3
  cases i1 with | str _ tt1 =>
  cases i2 with | str _ tt2 =>
  cases i3 with | str _ tt3 =>
  refine hG_ ?_; clear hG_
  refine call_def B (by rfl) (by rfl) (fun s => BindsTo.of_eq rfl) (locs rfl) (by decide) ?_
  intro A g L h gn dr tk os hh hd hu S
  generalize henv : envX _ _ _ _ _ _ = env
  have hE := EnvOk.of henv
  dsimp only at hE
  refine r_hide ?_; intro _ _
  walk_at "hid"; refine r_cons ?_; intro _ _; refine (Assign_Tuple ?_ rfl (by rewrite [← henv]; rfl))
  repeat walk_at "s2"
  refine r_asgTup S hh (isT S (.inI ha)) rfl rfl ?_
  intro h1 S1
  refine r_inOrdN ?_ rfl
  walk_at "st"; intro h2' S2
  refine r_inOrdN ?_ rfl
  walk_at "st"; intro h3 S3
  refine r_inOrdN ?_ rfl
  walk_at "st"; intro h4' S4
  refine r_inOrdE ?_
  refine hideP ?_; intro _ hG_; obtain ⟨m4, hsc, hwd, hsg, hnm, S4'⟩ : ∃ m4, m4 "scope" = some (.ref a0) ∧ m4 "word" = some (.str "my" tt1) ∧ m4 "sigil" = some (.str (sigS sig) tt2) ∧ m4 "name" = some (.str nm tt3) ∧ St hB g L m4 I Mu h4' := ⟨_, rfl, rfl, rfl, rfl, S4⟩; refine hG_ ?_; clear hG_
  clear S S1 S2 S3 S4
  repeat walk_at "s2"
  refine r_hide ?_; intro _ _; refine (check_ok B G a0 tt1 tt3).go hh S4' (by (first | lia | omega)) (by (first | lia | omega)) ?_
  rintro v5 I5 Mu5 h5 tk5 S5 hle5 rfl
  replace hC := hC.mono hle5
  repeat walk_at "s2"
  refine r_hide ?_; intro _ _; refine (slot_ok B hC).go hh S5 (by (first | lia | omega)) (by (first | lia | omega)) ?_
  rintro v6 I6 Mu6 h6' tk6 S6 hle6 ⟨⟨tsl, rfl⟩, hC6⟩
  walk_at "st"; intro h7 S7
  refine hideP ?_; intro _ hG_; obtain ⟨m7, hsc7, hsg7, hnm7, hsl7, S7'⟩ : ∃ m7, m7 "scope" = some (.ref a0) ∧ m7 "sigil" = some (.str (sigS sig) tt2) ∧ m7 "name" = some (.str nm tt3) ∧ m7 "slot" = some (.int q.size tsl) ∧ St hB g L m7 I6 Mu6 h7 := ⟨_, hsc, hsg, hnm, rfl, S7⟩; refine hG_ ?_; clear hG_
  clear S5 S6 S7 S4'
  refine hC6.headE ?_; rintro x hxa hS nx hF back
  refine hideP ?_; intro _ hG_; obtain ⟨caps, capB, blocks, waits, size⟩ := q; refine hG_ ?_; clear hG_
  obtain ⟨wa, ws, rfl⟩ := List.exists_cons_of_ne_nil h4
  refine hideP ?_; intro _ hG_; obtain ⟨xa, xd, xbl, xwl, xcp, xcb, xw0, xbs, xws⟩ := x; refine hG_ ?_; clear hG_
  dsimp only at hxa
  subst hxa
  have hws := hS.ws
  dsimp only at hws
  refine Ad.neE nx ?_; rintro N1 N2 N3 N4 N5 N6 N7 N8 N9 N10
  cases hws with
  | @cons w1 _ xws _ pw hws =>
  dsimp only at *
  refine hideP ?_; intro _ hG_; obtain ⟨vw, nv, hw1, hiw⟩ := pw; refine hG_ ?_; clear hG_
  refine hS.attrsE ?_; rintro k t1 t2 t3 l n hat
  obtain ⟨nw, hwl⟩ := hS.wl
  have hin := hS.inst
  dsimp only at hat hwl hin
  simp only [List.reverse_cons, List.map_append, List.map_cons, List.map_nil, ← List.cons_append] at hwl
  repeat walk_at "s2"
  refine r_sget B S7' hin hat (by rfl) (by rfl) ?_
  repeat walk_at "s2"
  refine r_lneg S7' (.inMu hwl) (by have := hws.length; simp at h2 ⊢; (first | lia | omega)) ?_
  refine r_listMeth S7' (.inMu hw1) PySem.F.slot_list_append PySem.F.type_list_append ?_
  repeat walk_at "s2"
  refine r_addS (by have := G.short; have : (sigS sig).length ≤ 1 := (by cases sig <;> decide); (first | lia | omega)) ?_
  intro t8 tk8
  repeat walk_at "s2"
  refine r_newTup S7' (Nat.le_of_ble_eq_true rfl) ?_
  intro a9 h9 I9 hle9 ha9 S9
  repeat walk_at "s2"
  refine r_append S9 hw1 (by have := hiw.length; have := h6 wa (by simp); simp at *; (first | lia | omega)) ?_
  intro h10 n10 S10
  repeat walk_at "s2"
  refine r_ends B S10 _ ?_
  intro t11
  refine r_addS (by cases sig <;> decide) ?_
  intro t12 tk12
  repeat walk_at "s2"
  refine r_newTup S10 (Nat.le_of_ble_eq_true rfl) ?_
  intro a13 h13 I13 hle13 ha13 S13
  have key : ∀ y o, y ≠ w1 → (Mu6.upd w1 o) y = Mu6 y := by grind [PM.upd]
  walk_at "hid"; refine Back.intro S13 (PM.le_trans hle5 (PM.le_trans hle6 (PM.le_trans hle9 hle13))) ⟨.tup2 ha13 (.str _ _) (.int _ _), back I13 _ ⟨xa, xd, xbl, xwl, xcp, xcb, xw0, xbs, w1 :: xws⟩ _ (PM.le_trans hle9 hle13) rfl ?_ nx (fun b hb => .inl hb) (fun b o hb ho => ?_)⟩
  · have ll := PM.le_trans hle9 hle13
    refine ⟨(key _ _ (by grind)).trans hin, ⟨k, t1, t2, t3, l, n, (key _ _ (by grind)).trans hat⟩, ?_, ⟨nw, ?_⟩, ?_, hS.cb.at (key _ _ (by grind)), ?_, F2.at hS.bs fun a ha k q => q.at (key _ _ (by grind)), .cons ⟨vw ++ [.ref a9], n10, by grind [PM.upd], ?_⟩ (F2.at hws fun a ha k q => q.at ll (key _ _ (by grind)))⟩
    · obtain ⟨nn, e⟩ := hS.bl; exact ⟨nn, (key _ _ (by grind)).trans e⟩
    · simp only [List.reverse_cons, List.map_append, List.map_cons, List.map_nil, ← List.cons_append]; exact (key _ _ (by grind)).trans hwl
    · obtain ⟨vs, nn, e, r⟩ := hS.cp; exact ⟨vs, nn, (key _ _ (by grind)).trans e, r.mono ll⟩
    · obtain ⟨nn, e⟩ := hS.w0; exact ⟨nn, (key _ _ (by grind)).trans e⟩
    · simp only [List.map_append, List.map_cons, List.map_nil]
      exact (hiw.mono ll).snoc (.tup2 (hle13 _ _ ha9) (.str _ _) (.int _ _))
  · rw [key _ _ (fun e => hb (by rw [e]; simp [Ad.all]))]; exact ho
end
section
variable {prog : Program} {w : World} {p : Program} {loose : List Str} {mean : ExcName → Option Value} {mg mb : Str → Option Value} {hB : Heap} {N : Nat}
/-- the contract of a resolver on a piece of data -/
noncomputable def SemOk (prog : Program) (w : World) (hB : Heap) (N : Nat) (f : Addr) (d c : Nat) (dIn : D) (g : List (Sc Str) → D × List (Sc Str)) : Prop :=
  ∀ (I Mu : PM) (a0 : Addr) (as : List Addr) (q : Sc Str) (s : List (Sc Str)) (F : List (Addr × Obj)) (v : Value) (W : Nat), Is I v dIn → Chn prog w I Mu (a0 :: as) (q :: s) F → Wt W (q :: s) → W + c ≤ 400000 → q.blocks ≠ [] → q.waits ≠ [] → s.length ≤ N →
    CallOk prog w hB d (3 * d) (.ref f) [.ref a0, v] I Mu (fun r I' Mu' => Is I' r (g (q :: s)).1 ∧ Chn prog w I' Mu' (a0 :: as) (g (q :: s)).2 F)
theorem resolvers_K (P : Params) : ∃ es n, (KK P).lookup 279 = some ⟨.type "dict", none, .dict es n, #[]⟩ ∧ KeysLit P es.toList := ⟨_, _, by rfl, by repeat constructor⟩
theorem node_special (B : Base (KK w.params) p loose mean mg mb hB) {wd : Str} {rest : List D} {fa : Addr} {d c : Nat} {g : List (Sc Str) → D × List (Sc Str)} (hw : nsIn (KK w.params) 279 wd = some (some (.ref fa))) (hk : keepIn (KK w.params) (.ref fa) = true)
    (h : SemOk prog w hB N fa d c (.tup (.str wd :: rest)) g) : SemOk prog w hB N 284 (d + 1) c (.tup (.str wd :: rest)) g := by
  intro I Mu a0 as q s F v W hv hC hW hc hb hwt hs
  have hv0 := hv
  refine hideP ?_; intro _ hG_
  cases hv with
  | @tup a vs _ ha hall =>
  cases hall with
  | @cons v1 vs' _ _ i1 irest =>
  cases i1 with | str _ t1 =>
  obtain ⟨es, n, hl, hkl⟩ := resolvers_K w.params
  refine hG_ ?_; clear hG_
  refine (call_defC (d := d) (u := 3 * d) B (by rfl) (by rfl) (fun s => BindsTo.of_eq rfl) rfl (by decide) ?_).up (Nat.le_refl _) (by (first | lia | omega))
  intro A g' L h' gn dr tk os cells hh hd hu Y hcells S
  obtain ⟨o1, hcl, ho1⟩ := CellsAre.one Y
  generalize henv : envX _ _ _ _ _ _ = env
  have hE := EnvOk.of henv
  dsimp only at hE
  refine r_hide ?_; intro _ _
  replace hE : EnvOk env _ L [("scope", L + 1)] := hE
  replace ho1 : o1.data = .cell (some (.ref a0)) := ho1
  replace hcl : cells = [(L + 1, o1)] := hcl
  subst hcl
  have hn1 : Mu (L + 1) = none := (hcells _ (.head _)).2
  have eqM : Mu.adds [(L + 1, o1)] = Mu.upd (L + 1) o1 := by
    funext b
    unfold PM.adds PM.upd
    by_cases hb : b = L + 1
    · subst hb; simp [List.lookup]
    · have : (b == L + 1) = false := beq_eq_false_iff_ne.mpr hb
      simp [List.lookup, hb, this]
  rw [eqM] at S
  have hC1 := hC.add (o := o1) hn1
  have hm1 : (Mu.upd (L + 1) o1) (L + 1) = some o1 := PM.upd_self _ _ _
  generalize Mu.upd (L + 1) o1 = Mu1 at *
  repeat walk_at "s2"
  refine r_titem S (.inI ha) (by decide) (by decide) (by rfl) ?_
  repeat walk_at "s2"
  refine topIn_K (s := ⟨h', gn, dr, _, os⟩) S.fr B.k hl hkl hw (by decide) ?_
  repeat walk_at "s2"
  refine (if_pos (show (some (Value.ref fa)).isSome = true from rfl)).mpr ?_
  try dsimp only
  repeat walk_at "s2"
  refine r_titem S (.inI ha) (by decide) (by decide) (by rfl) ?_
  refine topItem_K (s := ⟨h', gn, dr, _, os⟩) S.fr B.k hl hkl hw ?_
  refine r_callK B hk ?_ rfl rfl
  repeat walk_at "s2"
  refine r_hide ?_; intro _ _; refine (h I Mu1 a0 as q s _ _ W hv0 hC1 hW hc hb hwt hs).go hh S (by (first | lia | omega)) (by (first | lia | omega)) ?_
  rintro v2 I2 Mu2 h2 tk2 S2 hle2 ⟨hp2, hC2⟩
  walk_at "hid"; exact Back.intro S2 hle2 ⟨hp2, hC2.forget⟩
end
section
variable {prog : Program} {w : World} {p : Program} {loose : List Str} {mean : ExcName → Option Value} {mg mb : Str → Option Value} {hB : Heap} {N : Nat}
noncomputable abbrev Gn : Type := List (Sc Str) → D × List (Sc Str)
noncomputable def seqG : List (D × Gn) → List (Sc Str) → List D × List (Sc Str)
  | [], s => ([], s)
  | x :: r, s => ((x.2 s).1 :: (seqG r (x.2 s).2).1, (seqG r (x.2 s).2).2)
theorem seqG_snoc (x : D × Gn) : ∀ (ps : List (D × Gn)) (s : List (Sc Str)), seqG (ps ++ [x]) s = ((seqG ps s).1 ++ [(x.2 (seqG ps s).2).1], (x.2 (seqG ps s).2).2)
  | [], _ => rfl
  | y :: r, s => by
    simp only [List.cons_append, seqG]
    rw [seqG_snoc x r]
theorem seqG_take {ps : List (D × Gn)} {j : Nat} {x : D × Gn} (h : ps[j]? = some x) (s : List (Sc Str)) : seqG (ps.take (j + 1)) s = ((seqG (ps.take j) s).1 ++ [(x.2 (seqG (ps.take j) s).2).1], (x.2 (seqG (ps.take j) s).2).2) := by
  rw [List.take_add_one, h]
  exact seqG_snoc x _ s
theorem seqG_g {c : Nat} : ∀ {ps : List (D × Gn)}, (∀ x ∈ ps, GOk c x.2) → GOk (c * ps.length) (seqG ps)
  | [], _ => fun W s h => ⟨h, rfl⟩
  | x :: r, hp => fun W s h => by
    have h1 := hp x (.head _) W s h
    have h2 := seqG_g (fun y hy => hp y (.tail _ hy)) _ _ h1.1
    refine ⟨?_, h2.2.trans h1.2⟩
    have e : W + c + c * r.length = W + c * (x :: r).length := by rw [List.length_cons, Nat.mul_add]; (first | lia | omega)
    rw [← e]; exact h2.1
theorem shp_cons {q : Sc Str} {s r : List (Sc Str)} (h : r.map shp = (q :: s).map shp) (hb : q.blocks ≠ []) (hw : q.waits ≠ []) : ∃ q' s', r = q' :: s' ∧ q'.blocks ≠ [] ∧ q'.waits ≠ [] ∧ s'.length = s.length := by
  cases r with
  | nil => cases h
  | cons q' s' =>
    simp only [List.map_cons, List.cons.injEq, shp, Prod.mk.injEq] at h
    refine ⟨q', s', rfl, fun e => hb ?_, fun e => hw ?_, by simpa using congrArg List.length h.2⟩
    · rw [e] at h; exact List.length_eq_zero_iff.mp h.1.1.symm
    · rw [e] at h; exact List.length_eq_zero_iff.mp h.1.2.symm
theorem IsAll.of_map {I : PM} {vs : List Value} {ps : List (D × Gn)} (h : IsAll I vs (ps.map (·.1))) {j : Nat} {v : Value} (e : vs[j]? = some v) : ∃ x, ps[j]? = some x ∧ Is I v x.1 := by
  obtain ⟨d, e1, e2⟩ := h.at e
  rw [List.getElem?_map] at e1
  obtain ⟨x, h1, rfl⟩ := Option.map_eq_some_iff.mp e1
  exact ⟨x, h1, e2⟩
theorem node_default (B : Base (KK w.params) p loose mean mg mb hB) {wd : Str} {ps : List (D × Gn)} {d c : Nat} (hw : nsIn (KK w.params) 279 wd = some none) (hps : ∀ x ∈ ps, SemOk prog w hB N 289 d c x.1 x.2) (hg : ∀ x ∈ ps, GOk c x.2) (hl : ps.length ≤ 1000) (h1 : 1 ≤ ps.length) :
    SemOk prog w hB N 284 (d + 1) (c * ps.length) (.tup (.str wd :: ps.map (·.1))) (fun s => (.tup (.str wd :: (seqG ps s).1), (seqG ps s).2)) := by
  intro I Mu a0 as q s F v W hv hC hW hc hb hwt hs
  refine hideP ?_; intro _ hG_
  cases hv with
  | @tup a vs _ ha hall =>
  cases hall with
  | @cons v1 vs' _ _ i1 irest =>
  cases i1 with | str _ t1 =>
  have hlen : vs'.length = ps.length := by rw [irest.length, List.length_map]
  obtain ⟨es, n, hlk, hkl⟩ := resolvers_K w.params
  refine hG_ ?_; clear hG_
  refine (call_defC (d := d) (u := 3 * d) B (by rfl) (by rfl) (fun s => BindsTo.of_eq rfl) rfl (by decide) ?_).up (Nat.le_refl _) (by (first | lia | omega))
  intro A g' L h' gn dr tk os cells hh hd hu Y hcells S
  obtain ⟨o1, hcl, ho1⟩ := CellsAre.one Y
  generalize henv : envX _ _ _ _ _ _ = env
  have hE := EnvOk.of henv
  dsimp only at hE
  refine r_hide ?_; intro _ _
  replace hE : EnvOk env _ L [("scope", L + 1)] := hE
  replace ho1 : o1.data = .cell (some (.ref a0)) := ho1
  replace hcl : cells = [(L + 1, o1)] := hcl
  subst hcl
  have hn1 : Mu (L + 1) = none := (hcells _ (.head _)).2
  have eqM : Mu.adds [(L + 1, o1)] = Mu.upd (L + 1) o1 := by
    funext b
    unfold PM.adds PM.upd
    by_cases hb : b = L + 1
    · subst hb; simp [List.lookup]
    · have : (b == L + 1) = false := beq_eq_false_iff_ne.mpr hb
      simp [List.lookup, hb, this]
  rw [eqM] at S
  have hC1 := hC.add (o := o1) hn1
  generalize Mu.upd (L + 1) o1 = Mu1 at *
  repeat walk_at "s2"
  refine r_titem S (.inI ha) (by decide) (by decide) (by rfl) ?_
  repeat walk_at "s2"
  refine topIn_K (s := ⟨h', gn, dr, _, os⟩) S.fr B.k hlk hkl hw (by decide) ?_
  repeat walk_at "s2"
  refine (if_neg (show ¬ (none : Option Value).isSome = true from by decide)).mpr ?_
  try dsimp only
  repeat walk_at "s2"
  refine r_titem S (.inI ha) (by decide) (by decide) (by rfl) ?_
  repeat walk_at "s2"
  refine r_newLstF S (Nat.le_of_ble_eq_true rfl) ?_
  intro l1 h1' I1 hle1 hl1 S1
  repeat walk_at "s2"
  refine r_ListComp (cl := [("scope", L + 1)]) (by rewrite [← henv]; rfl) rfl rfl ?_ (fun _ => rfl)
  repeat walk_at "s2"
  refine r_tfrom S1 (.inI (hle1 _ _ ha)) (a := 1) (Nat.le_refl _) (by simp) (by simp; (first | lia | omega)) (by with_unfolding_all rfl) ?_
  intro t2 h2 I2 hle2 ht2 S2
  rw [show (Value.str wd t1 :: vs').drop 1 = vs' from rfl] at ht2
  have hir := (irest.mono hle1).mono hle2
  refine r_compTup hh rfl rfl rfl S2 ht2 (by (first | lia | omega))
    (fun j ys I' Mu' => IsAll I' ys (seqG (ps.take j) (q :: s)).1 ∧ Chn prog w I' Mu' (a0 :: as) (seqG (ps.take j) (q :: s)).2 ((L + 1, o1) :: F))
    ⟨.nil, (hC1.mono hle1).mono hle2⟩ ?_ ?_
  · rintro j v ys C m3 I3 Mu3 g3 h3 tk3 E3 hv ⟨hys, hC3⟩ hle3 S3 hx3
    generalize hec : compEnvC _ _ C env = ec
    have hEc : EnvOk ec [(".0", .local), ("part", .local), ("resolve_part", .globalImplicit), ("scope", .cell)] C [("scope", L + 1)] := by rewrite [← hec, ← henv]; exact ⟨rfl, rfl, rfl, rfl, rfl, rfl⟩
    obtain ⟨x, hx, hix⟩ := (hir.mono hle3).of_map hv
    have hm3 := hC3.own
    have hj : j < ps.length := (List.getElem?_eq_some_iff.mp hx).1
    have hgt := seqG_g (c := c) (ps := ps.take j) (fun y hy => hg y (List.mem_of_mem_take hy)) W _ hW
    rw [List.length_take, Nat.min_eq_left (Nat.le_of_lt hj)] at hgt
    refine hideP ?_; intro _ hG_; obtain ⟨q', s', es', hb', hw', hl'⟩ := shp_cons hgt.2 hb hwt; refine hG_ ?_; clear hG_
    repeat walk_at "s2"
    rw [es'] at hC3 hgt
    have hcj : c * j + c ≤ c * ps.length := by
      have := Nat.mul_le_mul_left c hj
      rw [Nat.succ_eq_add_one, Nat.mul_add] at this; (first | lia | omega)
    refine r_hide ?_; intro _ _; refine (hps x (List.mem_of_getElem? hx) I3 Mu3 a0 as q' s' _ v (W + c * j) hix hC3 hgt.1 (by (first | lia | omega)) hb' hw' (by (first | lia | omega))).go hh S3 (by (first | lia | omega)) (by (first | lia | omega)) ?_
    rintro v4 I4 Mu4 h4 tk4 S4 hle4 ⟨hi4, hC4⟩
    walk_at "hid"
    refine EltOk.intro S4 hle4 ⟨?_, ?_⟩
    · rw [seqG_take hx, es']; exact (hys.mono hle4).snoc hi4
    · rw [seqG_take hx, es']; exact hC4
  · rintro D C ys I3 Mu3 h3 tk3 k3 m3 ⟨hys, hC3⟩ hly hle3 hD S3 hns hCx
    refine comp_end S3 hns hCx ?_
    intro h4 S4
    rw [hlen, List.take_length] at hys hC3
    have hleD := PM.le_upd (o := lstO ys k3) hD
    have hDl : (I3.upd D (lstO ys k3)) D = some (lstO ys k3) := PM.upd_self _ _ _
    refine r_addL S4 (.inI (hleD _ _ (hle3 _ _ (hle2 _ _ hl1)))) (.inI hDl) (by simp; (first | lia | omega)) ?_
    intro l5 h5 I5 hle5 hl5 S5
    repeat walk_at "s2"
    refine r_tupOf S5 (.inI hl5) (by simp; (first | lia | omega)) ?_
    intro t6 h6 I6 hle6 ht6 S6
    have ll := PM.le_trans hleD (PM.le_trans hle5 hle6)
    walk_at "hid"; exact Back.intro S6 (PM.le_trans hle1 (PM.le_trans hle2 (PM.le_trans hle3 ll))) ⟨.tup ht6 (.cons (.str _ _) (hys.mono ll)), (hC3.mono ll).forget⟩
end
section
variable {prog : Program} {w : World} {p : Program} {loose : List Str} {mean : ExcName → Option Value} {mg mb : Str → Option Value} {hB : Heap} {N : Nat}
theorem adds_one (Mu : PM) (a : Addr) (o : Obj) : Mu.adds [(a, o)] = Mu.upd a o := by
  funext b
  unfold PM.adds PM.upd
  by_cases hb : b = a
  · subst hb; simp [List.lookup]
  · have : (b == a) = false := beq_eq_false_iff_ne.mpr hb
    simp [List.lookup, hb, this]
inductive Leaf : D → Prop
  | none : Leaf .none
  | int (i : Int) : Leaf (.int i)
  | str (s : Str) : Leaf (.str s)
theorem part_leaf (B : Base (KK w.params) p loose mean mg mb hB) {dd : D} (hf : Leaf dd) : SemOk prog w hB N 289 1 0 dd (fun s => (dd, s)) := by
  intro I Mu a0 as q s F v W hv hC hW hc hb hwt hs
  refine (call_defC (d := 0) (u := 0) B (by rfl) (by rfl) (fun s => BindsTo.of_eq rfl) rfl (by decide) ?_).up (Nat.le_refl _) (by (first | lia | omega))
  intro A g' L h' gn dr tk os cells hh hd hu Y hcells S
  obtain ⟨o1, hcl, ho1⟩ := CellsAre.one Y
  generalize henv : envX _ _ _ _ _ _ = env
  have hE := EnvOk.of henv
  dsimp only at hE
  refine r_hide ?_; intro _ _
  replace hE : EnvOk env _ L [("scope", L + 1)] := hE
  replace ho1 : o1.data = .cell (some (.ref a0)) := ho1
  replace hcl : cells = [(L + 1, o1)] := hcl
  subst hcl
  have hn1 : Mu (L + 1) = none := (hcells _ (.head _)).2
  rw [adds_one] at S
  have hC1 := hC.add (o := o1) hn1
  generalize Mu.upd (L + 1) o1 = Mu1 at *
  cases hf
  all_goals
    cases hv
    repeat walk_at "s2"
    walk_at "hid"; exact Back.intro S (PM.le_refl _) ⟨by constructor, hC1.forget⟩
theorem part_node (B : Base (KK w.params) p loose mean mg mb hB) {wd : Str} {rest : List D} {d c : Nat} {g : List (Sc Str) → D × List (Sc Str)} (hrl : rest.length ≤ 1000) (h : SemOk prog w hB N 284 d c (.tup (.str wd :: rest)) g) : SemOk prog w hB N 289 (d + 1) c (.tup (.str wd :: rest)) g := by
  intro I Mu a0 as q s F v W hv hC hW hc hb hwt hs
  have hv0 := hv
  cases hv with
  | @tup a vs _ ha hall =>
  cases hall with
  | @cons v1 vs' _ _ i1 irest =>
  cases i1 with | str _ t1 =>
  have hlen : vs'.length = rest.length := irest.length
  refine (call_defC (d := d) (u := 3 * d) B (by rfl) (by rfl) (fun s => BindsTo.of_eq rfl) rfl (by decide) ?_).up (Nat.le_refl _) (by (first | lia | omega))
  intro A g' L h' gn dr tk os cells hh hd hu Y hcells S
  obtain ⟨o1, hcl, ho1⟩ := CellsAre.one Y
  generalize henv : envX _ _ _ _ _ _ = env
  have hE := EnvOk.of henv
  dsimp only at hE
  refine r_hide ?_; intro _ _
  replace hE : EnvOk env _ L [("scope", L + 1)] := hE
  replace ho1 : o1.data = .cell (some (.ref a0)) := ho1
  replace hcl : cells = [(L + 1, o1)] := hcl
  subst hcl
  have hn1 : Mu (L + 1) = none := (hcells _ (.head _)).2
  rw [adds_one] at S
  have hC1 := hC.add (o := o1) hn1
  have hm1 : (Mu.upd (L + 1) o1) (L + 1) = some o1 := PM.upd_self _ _ _
  generalize Mu.upd (L + 1) o1 = Mu1 at *
  have hg1 := At.get S (.inI ha)
  repeat walk_at "s2"
  refine PySem.IsiPair.tuple_list (s := ⟨h', gn, dr, _, os⟩) hg1 rfl ?_
  repeat walk_at "s2"
  refine PySem.IsiPair.tuple_tuple (s := ⟨h', gn, dr, _, os⟩) hg1 rfl ?_
  repeat walk_at "s2"
  refine r_tlen S (.inI ha) (by simp; (first | lia | omega)) ?_
  repeat walk_at "s2"
  rw [show decide ((0 : Int) < ((Value.str wd t1 :: vs').length : Nat)) = true from by simp]
  repeat walk_at "s2"
  refine r_titem S (.inI ha) (by decide) (by decide) (by rfl) ?_
  repeat walk_at "s2"
  refine r_hide ?_; intro _ _; refine (h I Mu1 a0 as q s _ _ W hv0 hC1 hW hc hb hwt hs).go hh S (by (first | lia | omega)) (by (first | lia | omega)) ?_
  rintro v2 I2 Mu2 h2 tk2 S2 hle2 ⟨hp2, hC2⟩
  walk_at "hid"; exact Back.intro S2 hle2 ⟨hp2, hC2.forget⟩
theorem part_list (B : Base (KK w.params) p loose mean mg mb hB) {ps : List (D × Gn)} {d c : Nat} (hps : ∀ x ∈ ps, SemOk prog w hB N 289 d c x.1 x.2) (hg : ∀ x ∈ ps, GOk c x.2) (hl : ps.length ≤ 1000) :
    SemOk prog w hB N 289 (d + 1) (c * ps.length) (.lst (ps.map (·.1))) (fun s => (.lst (seqG ps s).1, (seqG ps s).2)) := by
  intro I Mu a0 as q s F v W hv hC hW hc hb hwt hs
  cases hv with
  | @lst a vs n _ ha irest =>
  have hlen : vs.length = ps.length := by rw [irest.length, List.length_map]
  refine (call_defC (d := d) (u := 3 * d) B (by rfl) (by rfl) (fun s => BindsTo.of_eq rfl) rfl (by decide) ?_).up (Nat.le_refl _) (by (first | lia | omega))
  intro A g' L h' gn dr tk os cells hh hd hu Y hcells S
  obtain ⟨o1, hcl, ho1⟩ := CellsAre.one Y
  generalize henv : envX _ _ _ _ _ _ = env
  have hE := EnvOk.of henv
  dsimp only at hE
  refine r_hide ?_; intro _ _
  replace hE : EnvOk env _ L [("scope", L + 1)] := hE
  replace ho1 : o1.data = .cell (some (.ref a0)) := ho1
  replace hcl : cells = [(L + 1, o1)] := hcl
  subst hcl
  have hn1 : Mu (L + 1) = none := (hcells _ (.head _)).2
  rw [adds_one] at S
  have hC1 := hC.add (o := o1) hn1
  generalize Mu.upd (L + 1) o1 = Mu1 at *
  have hg1 := At.get S (.inI ha)
  repeat walk_at "s2"
  refine PySem.IsiPair.list_list (s := ⟨h', gn, dr, _, os⟩) hg1 rfl ?_
  repeat walk_at "s2"
  refine r_ListComp (cl := [("scope", L + 1)]) (by rewrite [← henv]; rfl) rfl rfl ?_ (fun _ => rfl)
  repeat walk_at "s2"
  refine r_compList hh rfl rfl rfl S ha (by (first | lia | omega))
    (fun j ys I' Mu' => IsAll I' ys (seqG (ps.take j) (q :: s)).1 ∧ Chn prog w I' Mu' (a0 :: as) (seqG (ps.take j) (q :: s)).2 ((L + 1, o1) :: F))
    ⟨.nil, hC1⟩ ?_ ?_
  · rintro j v ys C m3 I3 Mu3 g3 h3 tk3 E3 hv ⟨hys, hC3⟩ hle3 S3 hx3
    generalize hec : compEnvC _ _ C env = ec
    have hEc : EnvOk ec [(".0", .local), ("one", .local), ("resolve_part", .globalImplicit), ("scope", .cell)] C [("scope", L + 1)] := by rewrite [← hec, ← henv]; exact ⟨rfl, rfl, rfl, rfl, rfl, rfl⟩
    obtain ⟨x, hx, hix⟩ := (irest.mono hle3).of_map hv
    have hm3 := hC3.own
    have hj : j < ps.length := (List.getElem?_eq_some_iff.mp hx).1
    have hgt := seqG_g (c := c) (ps := ps.take j) (fun y hy => hg y (List.mem_of_mem_take hy)) W _ hW
    rw [List.length_take, Nat.min_eq_left (Nat.le_of_lt hj)] at hgt
    refine hideP ?_; intro _ hG_; obtain ⟨q', s', es', hb', hw', hl'⟩ := shp_cons hgt.2 hb hwt; refine hG_ ?_; clear hG_
    repeat walk_at "s2"
    rw [es'] at hC3 hgt
    have hcj : c * j + c ≤ c * ps.length := by
      have := Nat.mul_le_mul_left c hj
      rw [Nat.succ_eq_add_one, Nat.mul_add] at this; (first | lia | omega)
    refine r_hide ?_; intro _ _; refine (hps x (List.mem_of_getElem? hx) I3 Mu3 a0 as q' s' _ v (W + c * j) hix hC3 hgt.1 (by (first | lia | omega)) hb' hw' (by (first | lia | omega))).go hh S3 (by (first | lia | omega)) (by (first | lia | omega)) ?_
    rintro v4 I4 Mu4 h4 tk4 S4 hle4 ⟨hi4, hC4⟩
    walk_at "hid"
    refine EltOk.intro S4 hle4 ⟨?_, ?_⟩
    · rw [seqG_take hx, es']; exact (hys.mono hle4).snoc hi4
    · rw [seqG_take hx, es']; exact hC4
  · rintro D C ys I3 Mu3 h3 tk3 k3 m3 ⟨hys, hC3⟩ hly hle3 hD S3 hns hCx
    refine comp_end S3 hns hCx ?_
    intro h4 S4
    rw [hlen, List.take_length] at hys hC3
    have hleD := PM.le_upd (o := lstO ys k3) hD
    walk_at "hid"; exact Back.intro S4 (PM.le_trans hle3 hleD) ⟨.lst (PM.upd_self _ _ _) (hys.mono hleD), (hC3.mono hleD).forget⟩
end
section
variable {prog : Program} {w : World} {p : Program} {loose : List Str} {mean : ExcName → Option Value} {mg mb : Str → Option Value} {hB : Heap} {N : Nat}
theorem ScAt.setD {I Mu : PM} {x : Ad} {q : Sc Str} {out : Value} (hS : ScAt prog w I Mu x q out) (nx : x.all.Nodup) (k : Nat → Tok) (t1 t2 t3 : Tok) (l : Int) (n : Nat) :
    ScAt prog w I (Mu.upd x.d (dictOf (attrEs w.params k out (.str "main" t1) (.ref x.bl) (.ref x.wl) (.int (q.size : Nat) t2) (.ref x.cp) (.int l t3)) n)) x q out := by
  refine Ad.neE nx ?_; rintro N1 N2 N3 N4 N5 N6 N7 N8 N9 N10
  have key : ∀ y o, y ≠ x.d → (Mu.upd x.d o) y = Mu y := by grind [PM.upd]
  refine ⟨(key _ _ (by grind)).trans hS.inst, ⟨k, t1, t2, t3, l, n, PM.upd_self _ _ _⟩, ?_, ?_, ?_, hS.cb.at (key _ _ (by grind)), ?_, F2.at hS.bs fun a ha k q => q.at (key _ _ (by grind)), F2.at hS.ws fun a ha k q => q.at (PM.le_refl _) (key _ _ (by grind))⟩
  · obtain ⟨nn, e⟩ := hS.bl; exact ⟨nn, (key _ _ (by grind)).trans e⟩
  · obtain ⟨nn, e⟩ := hS.wl; exact ⟨nn, (key _ _ (by grind)).trans e⟩
  · obtain ⟨vs, nn, e, r⟩ := hS.cp; exact ⟨vs, nn, (key _ _ (by grind)).trans e, r⟩
  · obtain ⟨nn, e⟩ := hS.w0; exact ⟨nn, (key _ _ (by grind)).trans e⟩
theorem expr_ok (B : Base (KK w.params) p loose mean mg mb hB) {i : Int} {d2 : D} {d c : Nat} {g : Gn} (h : SemOk prog w hB N 289 d c d2 g) : SemOk prog w hB N 236 (d + 1) c (.tup [.str "expr", .int i, d2]) (fun s => (.tup [.str "expr", .int i, (g s).1], (g s).2)) := by
  intro I Mu a0 as q s F v W hv hC hW hc hb hwt hs
  refine hideP ?_; intro _ hG_
  refine hv.threeE ?_; rintro a v1 v2 v3 rfl ha i1 i2 i3
  cases i1 with | str _ tt1 =>
  cases i2 with | int _ tt2 =>
  refine hG_ ?_; clear hG_
  refine (call_def (d := d) (u := 3 * d) B (by rfl) (by rfl) (fun s => BindsTo.of_eq rfl) (locs rfl) (by decide) ?_).up (Nat.le_refl _) (by (first | lia | omega))
  intro A g' L h' gn dr tk os hh hd hu S
  generalize henv : envX _ _ _ _ _ _ = env
  have hE := EnvOk.of henv
  dsimp only at hE
  refine r_hide ?_; intro _ _
  refine hC.headE ?_; rintro x rfl hS nx hF back
  refine hS.attrsE ?_; rintro k t1 t2 t3 l n hat
  repeat walk_at "s2"
  refine r_titem S (.inI ha) (by decide) (by decide) (by rfl) ?_
  repeat walk_at "s2"
  refine r_sset (es' := attrEs w.params k (outV as) (.str "main" t1) (.ref x.bl) (.ref x.wl) (.int (q.size : Nat) t2) (.ref x.cp) (.int i tt2)) (n' := n) B S hS.inst hat (by rfl) (by rfl) (Nat.le_of_ble_eq_true rfl) ?_
  intro h1 S1
  have hC1 := back I _ x q (PM.le_refl _) rfl (hS.setD nx k t1 t2 tt2 i n) nx (fun b hb => .inl hb) (fun b o hb ho => by rw [PM.upd_ne _ _ (fun e => hb (by rw [e]; simp [Ad.all]))]; exact ho)
  repeat walk_at "s2"
  refine r_titem S1 (.inI ha) (by decide) (by decide) (by rfl) ?_
  repeat walk_at "s2"
  refine r_titem S1 (.inI ha) (by decide) (by decide) (by rfl) ?_
  repeat walk_at "s2"
  refine r_hide ?_; intro _ _; refine (h I _ x.a as q s F _ W i3 hC1 hW hc hb hwt hs).go hh S1 (by (first | lia | omega)) (by (first | lia | omega)) ?_
  rintro v5 I5 Mu5 h5 tk5 S5 hle5 ⟨hp5, hC5⟩
  repeat walk_at "s2"
  refine r_newTup S5 (Nat.le_of_ble_eq_true rfl) ?_
  intro a6 h6 I6 hle6 ha6 S6
  walk_at "hid"; exact Back.intro S6 (PM.le_trans hle5 hle6) ⟨.tup3 ha6 (.str _ _) (.int _ _) (hp5.mono hle6), hC5.mono hle6⟩
end
section
variable {prog : Program} {w : World} {p : Program} {loose : List Str} {mean : ExcName → Option Value} {mg mb : Str → Option Value} {hB : Heap} {N : Nat}
theorem mem_sum {l : List Nat} {x : Nat} (h : x ∈ l) : x ≤ l.sum := by
  induction l with
  | nil => cases h
  | cons a r ih =>
    rw [List.sum_cons]
    rcases List.mem_cons.mp h with rfl | h
    · (first | lia | omega)
    · have := ih h; (first | lia | omega)
theorem wt_bounds {q : Sc Str} (h : wt q ≤ 400000) : q.blocks.length ≤ 900000 ∧ q.waits.length ≤ 900000 ∧ (∀ b ∈ q.blocks, b.length ≤ 400000) ∧ (∀ b ∈ q.waits, b.length ≤ 400000) ∧ q.caps.length ≤ 900000 ∧ q.capB.length ≤ 900000 := by
  unfold wt at h
  refine ⟨by (first | lia | omega), by (first | lia | omega), fun b hb => ?_, fun b hb => ?_, by (first | lia | omega), by (first | lia | omega)⟩
  · have := mem_sum (List.mem_map_of_mem (f := List.length) hb); (first | lia | omega)
  · have := mem_sum (List.mem_map_of_mem (f := List.length) hb); (first | lia | omega)
theorem Wt.fit {W : Nat} {s : List (Sc Str)} (h : Wt W s) (hW : W ≤ 400000) : Fit s := fun q hq =>
  let z := wt_bounds (Nat.le_trans (h q hq) hW); ⟨z.1, z.2.2.2.2.1, z.2.2.2.2.2⟩
theorem head_ok (B : Base (KK w.params) p loose mean mg mb hB) {dd : D} {d c : Nat} {g : Gn} (hd1 : 1 ≤ d) (h : SemOk prog w hB N 289 d c dd g) (hg : GOk c g) : SemOk prog w hB N 243 (d + 1) c dd (fun s => ((g s).1, introS (g s).2)) := by
  intro I Mu a0 as q s F v W hv hC hW hc hb hwt hs
  refine (call_def (d := d) (u := 3 * d) B (by rfl) (by rfl) (fun s => BindsTo.of_eq rfl) (locs rfl) (by decide) ?_).up (Nat.le_refl _) (by (first | lia | omega))
  intro A g' L h' gn dr tk os hh hd hu S
  generalize henv : envX _ _ _ _ _ _ = env
  have hE := EnvOk.of henv
  dsimp only at hE
  refine r_hide ?_; intro _ _
  repeat walk_at "s2"
  refine r_hide ?_; intro _ _; refine (h I Mu a0 as q s F _ W hv hC hW hc hb hwt hs).go hh S (by (first | lia | omega)) (by (first | lia | omega)) ?_
  rintro v1 I1 Mu1 h1 tk1 S1 hle1 ⟨hp1, hC1⟩
  walk_at "st"; intro h2 S2
  repeat walk_at "s2"
  have hgt := hg W _ hW
  refine hideP ?_; intro _ hG_; obtain ⟨q', s', es', hb', hw', hl'⟩ := shp_cons hgt.2 hb hwt; refine hG_ ?_; clear hG_
  rw [es'] at hC1 hgt
  have hbd := wt_bounds (Nat.le_trans (hgt.1 q' (.head _)) hc)
  refine r_hide ?_; intro _ _; refine (intro_ok B hC1 hbd.1 hbd.2.1 hb' hw' hbd.2.2.1 hbd.2.2.2.1).go hh S2 (by (first | lia | omega)) (by (first | lia | omega)) ?_
  rintro v3 I3 Mu3 h3 tk3 S3 hle3 ⟨rfl, hC3⟩
  repeat walk_at "s2"
  walk_at "hid"; refine Back.intro S3 (PM.le_trans hle1 hle3) ⟨hp1.mono hle3, ?_⟩
  try dsimp only
  rw [es']; exact hC3
theorem part_name (hN : N ≤ 20) (B : Base (KK w.params) p loose mean mg mb hB) (sig : Bool) {nm : Str} (G : Good nm) : SemOk prog w hB N 166 23 3 (.tup [.str "name", .str (sigS sig), .str nm]) (rNameD sig nm) := by
  intro I Mu a0 as q s F v W hv hC hW hc hb hwt hs
  exact (rname_ok B sig G hv hC (hW.fit (by (first | lia | omega)))).up (by (first | lia | omega)) (by (first | lia | omega))
theorem part_my (B : Base (KK w.params) p loose mean mg mb hB) (sig : Bool) {nm : Str} (G : Good nm) : SemOk prog w hB N 180 2 2 (.tup [.str "my", .str (sigS sig), .str nm]) (fun s => (myR sig (sizeS s), tellS (sigS sig ++ nm) s)) := by
  intro I Mu a0 as q s F v W hv hC hW hc hb hwt hs
  have hbd := wt_bounds (Nat.le_trans (hW q (.head _)) (by (first | lia | omega) : W ≤ 400000))
  exact rmy_ok B sig G hv hC hbd.2.1 hwt hbd.2.2.2.1
end
section
variable {prog : Program} {w : World} {p : Program} {loose : List Str} {mean : ExcName → Option Value} {mg mb : Str → Option Value} {hB : Heap} {N : Nat}
noncomputable def addI (x : D × Gn) : D × Gn := (x.1, fun s => ((x.2 s).1, introS (x.2 s).2))
theorem addI_g {c : Nat} {x : D × Gn} (h : GOk c x.2) : GOk c (addI x).2 := fun W s hw => by
  have h1 := h W s hw
  have h2 := intro_g _ _ h1.1
  exact ⟨h2.1, h2.2.trans h1.2⟩
noncomputable def blkG (ps : List (D × Gn)) : Gn := fun s => (blockD (seqG (ps.map addI) (enterS s)).1, leaveS (seqG (ps.map addI) (enterS s)).2)
/-- the contract of resolve_block: the scope's own blocks may be none as yet -/
noncomputable def BlkOk (prog : Program) (w : World) (hB : Heap) (N : Nat) (d c : Nat) (dIn : D) (g : Gn) : Prop :=
  ∀ (I Mu : PM) (a0 : Addr) (as : List Addr) (q : Sc Str) (s : List (Sc Str)) (F : List (Addr × Obj)) (v : Value) (W : Nat), Is I v dIn → Chn prog w I Mu (a0 :: as) (q :: s) F → Wt W (q :: s) → W + c ≤ 400000 → s.length ≤ N →
    CallOk prog w hB d (3 * d) (.ref 229) [.ref a0, v] I Mu (fun r I' Mu' => Is I' r (g (q :: s)).1 ∧ Chn prog w I' Mu' (a0 :: as) (g (q :: s)).2 F)
theorem block_sem (B : Base (KK w.params) p loose mean mg mb hB) {ps : List (D × Gn)} {d c : Nat} (hps : ∀ x ∈ ps, SemOk prog w hB N 284 d c x.1 x.2) (hg : ∀ x ∈ ps, GOk c x.2) (hl : ps.length ≤ 1000) (hd2 : 1 ≤ d) :
    BlkOk prog w hB N (d + 1) (c * ps.length + 2) (blockD (ps.map (·.1))) (blkG ps) := by
  intro I Mu a0 as q s F v W hv hC hW hc hs
  refine hideP ?_; intro _ hG_
  refine hv.twoE ?_; rintro a v1 v2 rfl ha i1 i2
  cases i1 with | str _ tt1 =>
  cases i2 with
  | @lst la vs nl _ hla irest =>
  have hlen : vs.length = ps.length := by rw [irest.length, List.length_map]
  refine hG_ ?_; clear hG_
  refine (call_def (d := d) (u := 3 * d) B (by rfl) (by rfl) (fun s => BindsTo.of_eq rfl) (locs rfl) (by decide) ?_).up (Nat.le_refl _) (by (first | lia | omega))
  intro A g' L h' gn dr tk os hh hd hu S
  generalize henv : envX _ _ _ _ _ _ = env
  have hE := EnvOk.of henv
  dsimp only at hE
  refine r_hide ?_; intro _ _
  refine hC.headE ?_; rintro x rfl hS nx hF back
  refine hS.attrsE ?_; rintro k t1 t2 t3 l n hat
  repeat walk_at "s2"
  refine r_sget B S hS.inst hat (by rfl) (by rfl) ?_
  walk_at "st"; intro h1 S1
  repeat walk_at "s2"
  have hbd := wt_bounds (Nat.le_trans (hW q (.head _)) (by (first | lia | omega) : W ≤ 400000))
  refine r_hide ?_; intro _ _; refine (enter_ok B hC hbd.1 hbd.2.1).go hh S1 (by (first | lia | omega)) (by (first | lia | omega)) ?_
  rintro v2 I2 Mu2 h2 tk2 S2 hle2 ⟨rfl, hC2⟩
  repeat walk_at "s2"
  refine r_newLst S2 (Nat.le_of_ble_eq_true rfl) ?_
  intro dn h3 hI3 hM3 S3
  walk_at "st"; intro h4 S4
  have hC4 := hC2.add (o := lstO [] 0) hM3
  refine hideP ?_; intro _ hG_; obtain ⟨m4, hsc, hpk, hnd, hdn, S4'⟩ : ∃ m4, m4 "scope" = some (.ref x.a) ∧ m4 "package" = some (.str "main" t1) ∧ m4 "node" = some (.ref a) ∧ m4 "done" = some (.ref dn) ∧ St hB g' L m4 I2 (Mu2.upd dn (lstO [] 0)) h4 := ⟨_, rfl, rfl, rfl, rfl, S4⟩; refine hG_ ?_; clear hG_
  clear S S1 S2 S3 S4 back hS nx hF hat
  walk_at "hid"; refine r_cons ?_; intro _ _; refine (wpAny_For ?_)
  repeat walk_at "s2"
  refine r_titem S4' (.inI (hle2 _ _ ha)) (by decide) (by decide) (by rfl) ?_
  have W0 : Wt (W + 2) (enterS (q :: s)) := enter_w hW
  refine r_forList hh S4' (hle2 _ _ hla) (fun _ _ _ _ _ _ _ _ _ q => wpAny_pure q)
    (fun i m' I' Mu' => m' "scope" = some (.ref x.a) ∧ m' "package" = some (.str "main" t1) ∧ m' "done" = some (.ref dn) ∧ ∃ ys ny, IsAll I' ys (seqG ((ps.map addI).take i) (enterS (q :: s))).1 ∧ ys.length = i ∧ Chn prog w I' Mu' (x.a :: as) (seqG ((ps.map addI).take i) (enterS (q :: s))).2 ((dn, lstO ys ny) :: F))
    (fun _ _ _ => False) (fun _ _ _ _ => False) ⟨hsc, hpk, hdn, [], 0, .nil, rfl, hC4⟩ ?_ ?_ (fun _ _ _ _ _ _ x => x.elim)
  · intro i v m1 I1 Mu1 g1 h1' tk1 E' hv ⟨hsc1, hpk1, hdn1, ys, ny, hys, hly, hC1⟩ hI1 hg1 S1
    obtain ⟨y, hy, hiy⟩ := ((irest.mono hle2).mono hI1).of_map hv
    have hi : i < ps.length := (List.getElem?_eq_some_iff.mp hy).1
    have hy' : (ps.map addI)[i]? = some (addI y) := by rw [List.getElem?_map, hy]; rfl
    have hgt := seqG_g (c := c) (ps := (ps.map addI).take i) (fun z hz => by
      obtain ⟨z0, hz0, rfl⟩ := List.mem_map.mp (List.mem_of_mem_take hz)
      exact addI_g (hg z0 hz0)) _ _ W0
    rw [List.length_take, List.length_map, Nat.min_eq_left (Nat.le_of_lt hi)] at hgt
    refine hideP ?_; intro _ hG_; obtain ⟨q', s', es', hb', hw', hl'⟩ := shp_cons (q := { q with blocks := [] :: q.blocks, waits := [] :: q.waits }) (s := s) hgt.2 (by simp) (by simp); refine hG_ ?_; clear hG_
    rw [es'] at hC1 hgt
    have hcj : c * i + c ≤ c * ps.length := by
      have := Nat.mul_le_mul_left c hi
      rw [Nat.succ_eq_add_one, Nat.mul_add] at this; (first | lia | omega)
    (try (refine r_turn ?_; intro _ _)); refine assign_Name ?_
    walk_at "st"; intro h5 S5
    refine hideP ?_; intro _ hG_; obtain ⟨m5, hsc5, hpk5, hdn5, hst5, S5'⟩ : ∃ m5, m5 "scope" = some (.ref x.a) ∧ m5 "package" = some (.str "main" t1) ∧ m5 "done" = some (.ref dn) ∧ m5 "statement" = some v ∧ St hB g1 L m5 I1 Mu1 h5 := ⟨_, hsc1, hpk1, hdn1, rfl, S5⟩; refine hG_ ?_; clear hG_
    clear S1 S5
    repeat walk_at "s2"
    refine r_listMeth S5' (.inMu hC1.own) PySem.F.slot_list_append PySem.F.type_list_append ?_
    repeat walk_at "s2"
    refine r_hide ?_; intro _ _; refine (hps y (List.mem_of_getElem? hy) I1 Mu1 x.a as q' s' _ v (W + 2 + c * i) hiy hC1 hgt.1 (by (first | lia | omega)) hb' hw' (by (first | lia | omega))).go hh S5' (by (first | lia | omega)) (by (first | lia | omega)) ?_
    rintro v6 I6 Mu6 h6 tk6 S6 hle6 ⟨hp6, hC6⟩
    repeat walk_at "s2"
    refine r_append S6 hC6.own (by (first | lia | omega)) ?_
    intro h7 n7 S7
    have hC7 := hC6.set (o' := lstO (ys ++ [v6]) n7)
    repeat walk_at "s2"
    have hgy := hg y (List.mem_of_getElem? hy) _ _ hgt.1
    refine hideP ?_; intro _ hG_; obtain ⟨q2, s2, es2, hb2, hw2, hl2⟩ := shp_cons hgy.2 hb' hw'; refine hG_ ?_; clear hG_
    rw [es2] at hC7 hgy
    have hbd2 := wt_bounds (Nat.le_trans (hgy.1 q2 (.head _)) (by (first | lia | omega) : W + 2 + c * i + c ≤ 400000))
    refine r_hide ?_; intro _ _; refine (intro_ok B hC7 hbd2.1 hbd2.2.1 hb2 hw2 hbd2.2.2.1 hbd2.2.2.2.1).go hh S7 (by (first | lia | omega)) (by (first | lia | omega)) ?_
    rintro v8 I8 Mu8 h8 tk8 S8 hle8 ⟨rfl, hC8⟩
    repeat walk_at "s2"
    walk_at "hid"; refine Turn.next S8 (PM.le_trans hle6 hle8) ⟨hsc5, hpk5, hdn5, ys ++ [v6], n7, ?_, by simp [hly], ?_⟩
    · rw [seqG_take hy', es']; exact ((hys.mono hle6).mono hle8).snoc (hp6.mono hle8)
    · rw [seqG_take hy', es']
      show Chn prog w I8 Mu8 _ (introS (y.2 (q' :: s')).2) _
      rw [es2]; exact hC8
  · intro m1 I1 Mu1 h1' tk1 hj hI1 S1
    refine hideP ?_; intro _ hG_; obtain ⟨hsc1, hpk1, hdn1, ys, ny, hys, hly, hC1⟩ := hj.resolve_right id; refine hG_ ?_; clear hG_
    rw [hlen] at hys hC1
    rw [show (ps.map addI).take ps.length = ps.map addI from List.take_of_length_le (by simp)] at hys hC1
    try dsimp only
    have hgt := seqG_g (c := c) (ps := ps.map addI) (fun z hz => by
      obtain ⟨z0, hz0, rfl⟩ := List.mem_map.mp hz
      exact addI_g (hg z0 hz0)) _ _ W0
    rw [List.length_map] at hgt
    refine hideP ?_; intro _ hG_; obtain ⟨q', s', es', hb', hw', hl'⟩ := shp_cons (q := { q with blocks := [] :: q.blocks, waits := [] :: q.waits }) (s := s) hgt.2 (by simp) (by simp); refine hG_ ?_; clear hG_
    rw [es'] at hC1 hgt
    have hbd2 := wt_bounds (Nat.le_trans (hgt.1 q' (.head _)) (by (first | lia | omega) : W + 2 + c * ps.length ≤ 400000))
    repeat walk_at "s2"
    refine r_hide ?_; intro _ _; refine (leave_ok B hC1 hbd2.1 hbd2.2.1 hb' hw').go hh S1 (by (first | lia | omega)) (by (first | lia | omega)) ?_
    rintro v8 I8 Mu8 h8 tk8 S8 hle8 ⟨rfl, hC8⟩
    repeat walk_at "s2"
    refine hC8.headE ?_; rintro x8 hx8 hS8 nx8 hF8 back8
    refine hS8.attrsE ?_; rintro k8 t81 t82 t83 l8 n8 hat8
    have hin8 : Mu8 x.a = some (instObj 108 x8.d) := hx8 ▸ hS8.inst
    refine r_sset (es' := attrEs w.params k8 (outV as) (.str "main" t1) (.ref x8.bl) (.ref x8.wl) (.int (_ : Nat) t82) (.ref x8.cp) (.int l8 t83)) (n' := n8) B S8 hin8 hat8 (by rfl) (by rfl) (Nat.le_of_ble_eq_true rfl) ?_
    intro h9 S9
    have hC9 := back8 I8 _ x8 _ (PM.le_refl _) hx8 (hS8.setD nx8 k8 t1 t82 t83 l8 n8) nx8 (fun b hb => .inl hb) (fun b o hb ho => by rw [PM.upd_ne _ _ (fun e => hb (by rw [e]; simp [Ad.all]))]; exact ho)
    repeat walk_at "s2"
    obtain ⟨Sf, lf⟩ := S9.freeze hC9.own
    have hC10 := (hC9.drop).mono lf
    refine r_newTup Sf (Nat.le_of_ble_eq_true rfl) ?_
    intro a11 h11 I11 hle11 ha11 S11
    walk_at "hid"; refine Back.intro S11 (PM.le_trans hle2 (PM.le_trans hI1 (PM.le_trans hle8 (PM.le_trans lf hle11)))) ⟨?_, ?_⟩
    · exact .tup2 ha11 (.str _ _) (.lst (hle11 _ _ (PM.upd_self _ _ _)) (hys.mono (PM.le_trans hle8 (PM.le_trans lf hle11))))
    · show Chn prog w I11 _ _ (leaveS (seqG (ps.map addI) (enterS (q :: s))).2) F
      rw [es']; exact hC10.mono hle11
end
section
variable {prog : Program} {w : World} {p : Program} {loose : List Str} {mean : ExcName → Option Value} {mg mb : Str → Option Value} {hB : Heap} {N : Nat}
theorem BlkOk.sem {d c : Nat} {dd : D} {g : Gn} (h : BlkOk prog w hB N d c dd g) : SemOk prog w hB N 229 d c dd g :=
  fun I Mu a0 as q s F v W hv hC hW hc _ _ hs => h I Mu a0 as q s F v W hv hC hW hc hs
theorem SemOk.up {f d d' c : Nat} {dd : D} {g : Gn} (h : SemOk prog w hB N f d c dd g) (hd : d ≤ d') : SemOk prog w hB N f d' c dd g :=
  fun I Mu a0 as q s F v W hv hC hW hc hb hw hs => (h I Mu a0 as q s F v W hv hC hW hc hb hw hs).up hd (Nat.mul_le_mul_left 3 hd)
theorem BlkOk.up {d d' c : Nat} {dd : D} {g : Gn} (h : BlkOk prog w hB N d c dd g) (hd : d ≤ d') : BlkOk prog w hB N d' c dd g :=
  fun I Mu a0 as q s F v W hv hC hW hc hs => (h I Mu a0 as q s F v W hv hC hW hc hs).up hd (Nat.mul_le_mul_left 3 hd)
theorem Is.five {I : PM} {v : Value} {d1 d2 d3 d4 d5 : D} (h : Is I v (.tup [d1, d2, d3, d4, d5])) : ∃ a v1 v2 v3 v4 v5, v = .ref a ∧ I a = some (tupO [v1, v2, v3, v4, v5]) ∧ Is I v1 d1 ∧ Is I v2 d2 ∧ Is I v3 d3 ∧ Is I v4 d4 ∧ Is I v5 d5 :=
  let ⟨a, _, e, ha, r⟩ := h.tupInv
  let ⟨v1, _, e1, i1, r1⟩ := r.consInv
  let ⟨v2, _, e2, i2, r2⟩ := r1.consInv
  let ⟨v3, _, e3, i3, r3⟩ := r2.consInv
  let ⟨v4, _, e4, i4, r4⟩ := r3.consInv
  let ⟨v5, _, e5, i5, r5⟩ := r4.consInv
  ⟨a, v1, v2, v3, v4, v5, e, by rw [ha, e1, e2, e3, e4, e5, r5.nilInv], i1, i2, i3, i4, i5⟩
theorem Is.fiveE {I : PM} {v : Value} {d1 d2 d3 d4 d5 : D} {G : Prop} (h : Is I v (.tup [d1, d2, d3, d4, d5])) (k : ∀ a v1 v2 v3 v4 v5, v = .ref a → I a = some (tupO [v1, v2, v3, v4, v5]) → Is I v1 d1 → Is I v2 d2 → Is I v3 d3 → Is I v4 d4 → Is I v5 d5 → G) : G :=
  let ⟨a, v1, v2, v3, v4, v5, e, q, r1, r2, r3, r4, r5⟩ := h.five
  k a v1 v2 v3 v4 v5 e q r1 r2 r3 r4 r5
/-- what foreach does -/
noncomputable def eachG (g1 g2 g3 : Gn) : Gn := fun s =>
  (.tup [.str "foreach", .str "", (g1 (enterS s)).1, (g2 (g1 (enterS s)).2).1, (g3 (introS (g2 (g1 (enterS s)).2).2)).1], leaveS (g3 (introS (g2 (g1 (enterS s)).2).2)).2)
theorem foreach_ok (B : Base (KK w.params) p loose mean mg mb hB) {d1 d2 d3 : D} {d c1 c2 c3 : Nat} {g1 g2 g3 : Gn} (hd1 : 1 ≤ d) (h1 : SemOk prog w hB N 289 d c1 d1 g1) (k1 : GOk c1 g1) (h2 : SemOk prog w hB N 289 d c2 d2 g2) (k2 : GOk c2 g2) (h3 : BlkOk prog w hB N (d + 1) c3 d3 g3) (k3 : GOk c3 g3) :
    SemOk prog w hB N 271 (d + 2) (2 + c1 + c2 + c3) (.tup [.str "foreach", .str "", d1, d2, d3]) (eachG g1 g2 g3) := by
  have hHead := head_ok B hd1 h2 k2
  intro I Mu a0 as q s F v W hv hC hW hc hb hwt hs
  refine hideP ?_; intro _ hG_
  refine hv.fiveE ?_; rintro a v1 v2 v3 v4 v5 rfl ha i1 i2 i3 i4 i5
  cases i1 with | str _ tt1 =>
  cases i2 with | str _ tt2 =>
  refine hG_ ?_; clear hG_
  refine (call_def (d := d + 1) (u := 3 * d + 3) B (by rfl) (by rfl) (fun s => BindsTo.of_eq rfl) (locs rfl) (by decide) ?_).up (Nat.le_refl _) (by (first | lia | omega))
  intro A g' L h' gn dr tk os hh hd hu S
  generalize henv : envX _ _ _ _ _ _ = env
  have hE := EnvOk.of henv
  dsimp only at hE
  refine r_hide ?_; intro _ _
  walk_at "hid"; refine r_cons ?_; intro _ _; refine (Assign_Tuple ?_ rfl (by rewrite [← henv]; rfl))
  repeat walk_at "s2"
  refine r_asgTup S hh (isT S (.inI ha)) rfl rfl ?_
  intro h1' S1
  refine r_inOrdN ?_ rfl
  walk_at "st"; intro h2' S2
  refine r_inOrdN ?_ rfl
  walk_at "st"; intro h3' S3
  refine r_inOrdN ?_ rfl
  walk_at "st"; intro h4' S4
  refine r_inOrdN ?_ rfl
  walk_at "st"; intro h5' S5
  refine r_inOrdN ?_ rfl
  walk_at "st"; intro h6' S6
  refine r_inOrdE ?_
  refine hideP ?_; intro _ hG_; obtain ⟨m6, hsc, hw6, hl6, hv6, hi6, hb6, S6'⟩ : ∃ m6, m6 "scope" = some (.ref a0) ∧ m6 "word" = some (.str "foreach" tt1) ∧ m6 "label" = some (.str "" tt2) ∧ m6 "variable" = some v3 ∧ m6 "items" = some v4 ∧ m6 "block" = some v5 ∧ St hB g' L m6 I Mu h6' := ⟨_, rfl, rfl, rfl, rfl, rfl, rfl, S6⟩; refine hG_ ?_; clear hG_
  clear S S1 S2 S3 S4 S5 S6
  repeat walk_at "s2"
  have hbd := wt_bounds (Nat.le_trans (hW q (.head _)) (by (first | lia | omega) : W ≤ 400000))
  refine r_hide ?_; intro _ _; refine (enter_ok B hC hbd.1 hbd.2.1).go hh S6' (by (first | lia | omega)) (by (first | lia | omega)) ?_
  rintro v7 I7 Mu7 h7 tk7 S7 hle7 ⟨rfl, hC7⟩
  repeat walk_at "s2"
  have W7 : Wt (W + 2) (enterS (q :: s)) := enter_w hW
  refine r_hide ?_; intro _ _; refine (h1 I7 Mu7 a0 as _ s F v3 (W + 2) (i3.mono hle7) hC7 W7 (by (first | lia | omega)) (by simp) (by simp) hs).go hh S7 (by (first | lia | omega)) (by (first | lia | omega)) ?_
  rintro v8 I8 Mu8 h8 tk8 S8 hle8 ⟨hp8, hC8⟩
  walk_at "st"; intro h9 S9
  repeat walk_at "s2"
  have w8 := k1 _ _ W7
  refine hideP ?_; intro _ hG_; obtain ⟨q8, s8, es8, hb8, hw8, hl8⟩ := shp_cons (q := { q with blocks := [] :: q.blocks, waits := [] :: q.waits }) (s := s) w8.2 (by simp) (by simp); refine hG_ ?_; clear hG_
  rw [show ({ q with blocks := [] :: q.blocks, waits := [] :: q.waits } : Sc Str) :: s = enterS (q :: s) from rfl, es8] at hC8
  rw [es8] at w8
  refine r_hide ?_; intro _ _; refine (hHead I8 Mu8 a0 as q8 s8 F v4 _ ((i4.mono hle7).mono hle8) hC8 w8.1 (by (first | lia | omega)) hb8 hw8 (by (first | lia | omega))).go hh S9 (by (first | lia | omega)) (by (first | lia | omega)) ?_
  rintro v10 I10 Mu10 h10 tk10 S10 hle10 ⟨hp10, hC10⟩
  walk_at "st"; intro h11 S11
  repeat walk_at "s2"
  have w10 := k2 _ _ w8.1
  have w10' := intro_g _ _ w10.1
  have m10 := w10'.2.trans w10.2
  refine hideP ?_; intro _ hG_; obtain ⟨q10, s10, es10, hb10, hw10', hl10⟩ := shp_cons (q := q8) (s := s8) m10 hb8 hw8; refine hG_ ?_; clear hG_
  dsimp only at es10 hC10 w10'
  rw [es10] at hC10 w10'
  refine r_hide ?_; intro _ _; refine (h3 I10 Mu10 a0 as q10 s10 F v5 _ (((i5.mono hle7).mono hle8).mono hle10) hC10 w10'.1 (by (first | lia | omega)) (by (first | lia | omega))).go hh S11 (by (first | lia | omega)) (by (first | lia | omega)) ?_
  rintro v12 I12 Mu12 h12 tk12 S12 hle12 ⟨hp12, hC12⟩
  walk_at "st"; intro h13 S13
  repeat walk_at "s2"
  have w12 := k3 _ _ w10'.1
  refine hideP ?_; intro _ hG_; obtain ⟨q12, s12, es12, hb12, hw12, hl12⟩ := shp_cons (q := q10) (s := s10) w12.2 hb10 hw10'; refine hG_ ?_; clear hG_
  rw [es12] at hC12 w12
  have hbd12 := wt_bounds (Nat.le_trans (w12.1 q12 (.head _)) (by (first | lia | omega)))
  refine r_hide ?_; intro _ _; refine (leave_ok B hC12 hbd12.1 hbd12.2.1 hb12 hw12).go hh S13 (by (first | lia | omega)) (by (first | lia | omega)) ?_
  rintro v14 I14 Mu14 h14 tk14 S14 hle14 ⟨rfl, hC14⟩
  repeat walk_at "s2"
  refine r_newTup S14 (Nat.le_of_ble_eq_true rfl) ?_
  intro a15 h15 I15 hle15 ha15 S15
  have l12 := PM.le_trans hle12 (PM.le_trans hle14 hle15)
  have l10 := PM.le_trans hle10 l12
  walk_at "hid"; refine Back.intro S15 (PM.le_trans hle7 (PM.le_trans hle8 l10)) ⟨?_, ?_⟩
  · unfold eachG
    rw [es8, es10]
    exact .tup ha15 (.cons (.str _ _) (.cons (.str _ _) (.cons (hp8.mono l10) (.cons (hp10.mono l12) (.cons (hp12.mono (PM.le_trans hle14 hle15)) .nil)))))
  · unfold eachG
    try dsimp only
    rw [es8, es10, es12]
    exact hC14.mono hle15
end
section
variable {prog : Program} {w : World} {p : Program} {loose : List Str} {mean : ExcName → Option Value} {mg mb : Str → Option Value} {hB : Heap} {N : Nat}
/-- what if does, with one arm -/
noncomputable def condG (g1 g3 : Gn) : Gn := fun s =>
  (.tup [.str "if", .lst [.tup [(g1 (enterS s)).1, (g3 (introS (g1 (enterS s)).2)).1]], .none], leaveS (g3 (introS (g1 (enterS s)).2)).2)
theorem if_ok (B : Base (KK w.params) p loose mean mg mb hB) {d1 d3 : D} {d c1 c3 : Nat} {g1 g3 : Gn} (hd1 : 1 ≤ d) (h1 : SemOk prog w hB N 289 d c1 d1 g1) (k1 : GOk c1 g1) (h3 : BlkOk prog w hB N (d + 1) c3 d3 g3) (k3 : GOk c3 g3) :
    SemOk prog w hB N 250 (d + 2) (2 + c1 + c3) (.tup [.str "if", .lst [.tup [d1, d3]], .none]) (condG g1 g3) := by
  have hHead := head_ok B hd1 h1 k1
  intro I Mu a0 as q s F v W hv hC hW hc hb hwt hs
  refine hideP ?_; intro _ hG_
  refine hv.threeE ?_; rintro a v1 v2 v3 rfl ha i1 i2 i3
  cases i1 with | str _ tt1 =>
  have i3' := i3
  cases i3 with | none =>
  cases i2 with
  | @lst la vs nl _ hla irest =>
  cases irest with
  | @cons u1 us _ _ j1 jrest =>
  cases jrest
  refine j1.twoE ?_; rintro ta e1 e2 rfl hta ie1 ie2
  refine hG_ ?_; clear hG_
  refine (call_def (d := d + 1) (u := 3 * d + 3) B (by rfl) (by rfl) (fun s => BindsTo.of_eq rfl) (locs rfl) (by decide) ?_).up (Nat.le_refl _) (by (first | lia | omega))
  intro A g' L h' gn dr tk os hh hd hu S
  generalize henv : envX _ _ _ _ _ _ = env
  have hE := EnvOk.of henv
  dsimp only at hE
  refine r_hide ?_; intro _ _
  repeat walk_at "s2"
  have hbd := wt_bounds (Nat.le_trans (hW q (.head _)) (by (first | lia | omega) : W ≤ 400000))
  refine r_hide ?_; intro _ _; refine (enter_ok B hC hbd.1 hbd.2.1).go hh S (by (first | lia | omega)) (by (first | lia | omega)) ?_
  rintro v7 I7 Mu7 h7 tk7 S7 hle7 ⟨rfl, hC7⟩
  repeat walk_at "s2"
  have W7 : Wt (W + 2) (enterS (q :: s)) := enter_w hW
  refine r_newLst S7 (Nat.le_of_ble_eq_true rfl) ?_
  intro dn h8 hI8 hM8 S8
  walk_at "st"; intro h9 S9
  have hC9 := hC7.add (o := lstO [] 0) hM8
  refine hideP ?_; intro _ hG_; obtain ⟨m9, hsc, hnd, hdn, S9'⟩ : ∃ m9, m9 "scope" = some (.ref a0) ∧ m9 "node" = some (.ref a) ∧ m9 "arms" = some (.ref dn) ∧ St hB g' L m9 I7 (Mu7.upd dn (lstO [] 0)) h9 := ⟨_, rfl, rfl, rfl, S9⟩; refine hG_ ?_; clear hG_
  clear S S7 S8 S9
  walk_at "hid"; refine r_cons ?_; intro _ _; refine (wpAny_For ?_)
  repeat walk_at "s2"
  refine r_titem S9' (.inI (hle7 _ _ ha)) (by decide) (by decide) (by rfl) ?_
  refine r_forList hh S9' (hle7 _ _ hla) ?_
    (fun i m' I' Mu' => m' "scope" = some (.ref a0) ∧ m' "node" = some (.ref a) ∧ m' "arms" = some (.ref dn) ∧ ((i = 0 ∧ Chn prog w I' Mu' (a0 :: as) (enterS (q :: s)) ((dn, lstO [] 0) :: F)) ∨
      (i = 1 ∧ ∃ y ny, Is I' y (.tup [(g1 (enterS (q :: s))).1, (g3 (introS (g1 (enterS (q :: s))).2)).1]) ∧ Chn prog w I' Mu' (a0 :: as) (g3 (introS (g1 (enterS (q :: s))).2)).2 ((dn, lstO [y] ny) :: F))))
    (fun _ _ _ => False) (fun _ _ _ _ => False) ⟨hsc, hnd, hdn, .inl ⟨rfl, hC9⟩⟩ ?_ ?_ (fun _ _ _ _ _ _ x => x.elim)
  · intro it l i v s Q' E' hv hi hq
    rw [List.mem_singleton.mp hv]
    exact wpAny_letOwnedTupleGo_listiter hi hq
  · rintro i v m1 I1 Mu1 gg h1' tk1 E' hv ⟨hsc1, hnd1, hdn1, hC1⟩ hI1 hg1 S1
    obtain ⟨hi, e⟩ := List.getElem?_eq_some_iff.mp hv
    have hi0 : i = 0 := by simpa using hi
    subst hi0
    cases e
    replace hC1 := (hC1.resolve_right (fun z => absurd z.1 (by decide))).2
    have hta1 := hI1 _ _ (hle7 _ _ hta)
    refine r_asgTup S1 hh (isT S1 (.inI hta1)) rfl rfl ?_
    intro h2' S2
    refine r_inOrdN ?_ rfl
    walk_at "st"; intro h3' S3
    refine r_inOrdN ?_ rfl
    walk_at "st"; intro h4' S4
    refine r_inOrdE ?_
    refine hideP ?_; intro _ hG_; obtain ⟨m4, hsc4, hnd4, hdn4, htt4, hbb4, S4'⟩ : ∃ m4, m4 "scope" = some (.ref a0) ∧ m4 "node" = some (.ref a) ∧ m4 "arms" = some (.ref dn) ∧ m4 "test" = some e1 ∧ m4 "block" = some e2 ∧ St hB gg L m4 I1 Mu1 h4' := ⟨_, hsc1, hnd1, hdn1, rfl, rfl, S4⟩; refine hG_ ?_; clear hG_
    clear S1 S2 S3 S4
    repeat walk_at "s2"
    refine r_hide ?_; intro _ _; refine (hHead I1 Mu1 a0 as _ s _ e1 (W + 2) ((ie1.mono hle7).mono hI1) hC1 W7 (by (first | lia | omega)) (by simp) (by simp) hs).go hh S4' (by (first | lia | omega)) (by (first | lia | omega)) ?_
    rintro v5 I5 Mu5 h5 tk5 S5 hle5 ⟨hp5, hC5⟩
    walk_at "st"; intro h6 S6
    refine hideP ?_; intro _ hG_; obtain ⟨m6, hsc6, hnd6, hdn6, htt6, hbb6, S6'⟩ : ∃ m6, m6 "scope" = some (.ref a0) ∧ m6 "node" = some (.ref a) ∧ m6 "arms" = some (.ref dn) ∧ m6 "test" = some v5 ∧ m6 "block" = some e2 ∧ St hB gg L m6 I5 Mu5 h6 := ⟨_, hsc4, hnd4, hdn4, rfl, hbb4, S6⟩; refine hG_ ?_; clear hG_
    clear S5 S6
    have w8 := k1 _ _ W7
    have w8' := intro_g _ _ w8.1
    refine hideP ?_; intro _ hG_; obtain ⟨q8, s8, es8, hb8, hw8, hl8⟩ := shp_cons (q := { q with blocks := [] :: q.blocks, waits := [] :: q.waits }) (s := s) (w8'.2.trans w8.2) (by simp) (by simp); refine hG_ ?_; clear hG_
    dsimp only at es8 w8'
    replace hC5 : Chn prog w I5 Mu5 (a0 :: as) (introS (g1 (enterS (q :: s))).2) ((dn, lstO [] 0) :: F) := hC5
    rw [es8] at hC5 w8'
    repeat walk_at "s2"
    refine r_listMeth S6' (.inMu hC5.own) PySem.F.slot_list_append PySem.F.type_list_append ?_
    repeat walk_at "s2"
    refine r_hide ?_; intro _ _; refine (h3 I5 Mu5 a0 as q8 s8 _ e2 _ (((ie2.mono hle7).mono hI1).mono hle5) hC5 w8'.1 (by (first | lia | omega)) (by (first | lia | omega))).go hh S6' (by (first | lia | omega)) (by (first | lia | omega)) ?_
    rintro v12 I12 Mu12 h12 tk12 S12 hle12 ⟨hp12, hC12⟩
    repeat walk_at "s2"
    refine r_newTup S12 (Nat.le_of_ble_eq_true rfl) ?_
    intro a15 h15 I15 hle15 ha15 S15
    repeat walk_at "s2"
    refine r_append S15 hC12.own (by simp) ?_
    intro h16 n16 S16
    have hC16 := (hC12.mono hle15).set (o' := lstO ([] ++ [.ref a15]) n16)
    repeat walk_at "s2"
    walk_at "hid"; refine Turn.next S16 (PM.le_trans hle5 (PM.le_trans hle12 hle15)) ⟨hsc6, hnd6, hdn6, .inr ⟨rfl, .ref a15, n16, ?_, ?_⟩⟩
    · rw [es8]; exact .tup2 ha15 ((hp5.mono hle12).mono hle15) (hp12.mono hle15)
    · rw [es8]; exact hC16
  · intro m1 I1 Mu1 h1' tk1 hj hI1 S1
    refine hideP ?_; intro _ hG_; obtain ⟨hsc1, hnd1, hdn1, hj2⟩ := hj.resolve_right id; refine hG_ ?_; clear hG_
    refine hideP ?_; intro _ hG_; obtain ⟨-, y, ny, hy, hC1⟩ := hj2.resolve_left (fun z => absurd z.1 (by simp)); refine hG_ ?_; clear hG_
    try dsimp only
    have w8 := k1 _ _ W7
    have w8' := intro_g _ _ w8.1
    refine hideP ?_; intro _ hG_; obtain ⟨q8, s8, es8, hb8, hw8, hl8⟩ := shp_cons (q := { q with blocks := [] :: q.blocks, waits := [] :: q.waits }) (s := s) (w8'.2.trans w8.2) (by simp) (by simp); refine hG_ ?_; clear hG_
    dsimp only at es8 w8'
    rw [es8] at w8' hC1 hy
    have w12 := k3 _ _ w8'.1
    refine hideP ?_; intro _ hG_; obtain ⟨q12, s12, es12, hb12, hw12, hl12⟩ := shp_cons (q := q8) (s := s8) w12.2 hb8 hw8; refine hG_ ?_; clear hG_
    rw [es12] at hC1 w12
    have ha1 := hI1 _ _ (hle7 _ _ ha)
    repeat walk_at "s2"
    refine r_titem S1 (.inI ha1) (by decide) (by decide) (by rfl) ?_
    repeat walk_at "s2"
    refine r_hide ?_; intro _ _; refine (part_leaf (N := N) B .none I1 Mu1 a0 as q12 s12 _ _ _ .none hC1 w12.1 (by (first | lia | omega)) hb12 hw12 (by (first | lia | omega))).go hh S1 (by (first | lia | omega)) (by (first | lia | omega)) ?_
    rintro v13 I13 Mu13 h13 tk13 S13 hle13 ⟨hp13, hC13⟩
    walk_at "hid"
    cases hp13
    walk_at "st"; intro h14 S14
    repeat walk_at "s2"
    have hbd12 := wt_bounds (Nat.le_trans (w12.1 q12 (.head _)) (by (first | lia | omega)))
    refine r_hide ?_; intro _ _; refine (leave_ok B hC13 hbd12.1 hbd12.2.1 hb12 hw12).go hh S14 (by (first | lia | omega)) (by (first | lia | omega)) ?_
    rintro v15 I15 Mu15 h15 tk15 S15 hle15 ⟨rfl, hC15⟩
    repeat walk_at "s2"
    obtain ⟨Sf, lf⟩ := S15.freeze hC15.own
    have hC16 := (hC15.drop).mono lf
    refine r_newTup Sf (Nat.le_of_ble_eq_true rfl) ?_
    intro a17 h17 I17 hle17 ha17 S17
    have ll := PM.le_trans hle13 (PM.le_trans hle15 (PM.le_trans lf hle17))
    walk_at "hid"; refine Back.intro S17 (PM.le_trans hle7 (PM.le_trans hI1 ll)) ⟨?_, ?_⟩
    · unfold condG
      rw [es8]
      exact .tup3 ha17 (.str _ _) (.lst (hle17 _ _ (PM.upd_self _ _ _)) (.cons (hy.mono ll) .nil)) .none
    · unfold condG
      try dsimp only
      rw [es8, es12]
      exact hC16.mono hle17
end
section
section
variable {prog : Program} {w : World} {K : Frag} {p : Program} {loose : List Str} {mean : ExcName → Option Value} {mg mb : Str → Option Value} {hB : Heap}
/-- the same as a code: for what a class's call runs -/
noncomputable def CodeOk (prog : Program) (w : World) (hB : Heap) (d u : Nat) (f : Value) (vs : List Value) (I Mu : PM) (Post : Value → PM → PM → Prop) : Prop :=
  ∀ (A : Around) (g : PM) (L : Addr) (m : Str → Option Value) (h : Heap) (gn : Array GenState) (dr : Drawn) (tk : Nat) (os : OsState) (R : Result → Shared → Prop), A.handled = none → A.depth + d < recursionLimit → A.units + u < cLine → St hB g L m I Mu h →
    (∀ r I' Mu' h' tk', St hB g L m I' Mu' h' → I.le I' → Post r I' Mu' → R (.ok (.ret r)) ⟨h', gn, dr, tk', os⟩) → codeAny (model prog w) A (.call f ⟨vs, []⟩) R ⟨h, gn, dr, tk, os⟩
theorem code_def0 {name qual : Str} {params : Arguments} {body : List Stmt} {scope : Scope} {dV kV doc pm cdv ct oc : Value} {an od : Option Addr} {osl : Array (Option Value)} {f : Addr} {vs : List Value} {binds : List (Str × Value)} {I Mu : PM} {Post : Value → PM → PM → Prop} {d u : Nat}
    (B : Base K p loose mean mg mb hB) (ho : K.lookup f = some ⟨oc, od, .func (fnOf name qual params body scope dV kV doc pm an cdv ct), osl⟩) (hcd : codeIn K cdv qual = true)
    (hbind : ∀ s, BindsTo s (fnOf name qual params body scope dV kV doc pm an cdv ct) ⟨vs, []⟩ binds) (hloc : ∀ y ∈ binds, scope.names.lookup y.1 = some .local)
    (hcell : ∀ x ∈ scope.names, x.2 ≠ .cell)
    (h : ∀ (A : Around) (g : PM) (L : Addr) (h : Heap) (gn : Array GenState) (dr : Drawn) (tk : Nat) (os : OsState), A.handled = none → A.depth + d < recursionLimit → A.units + u < cLine → St hB g L (fun y => binds.reverse.lookup y) I Mu h →
      wpAny (model prog w) A (execs body (envX qual scope L f cdv [])) (Back hB g L I Post gn dr os) (fun _ _ => False) ⟨h, gn, dr, tk, os⟩)
    (hco : scope.isCoroutine = false := by rfl) (hgen : scope.isGenerator = false := by rfl) (hk : scope.kind = .function := by rfl) : CodeOk prog w hB (d + 1) (u + 3) (.ref f) vs I Mu Post := by
  intro A g L m h₀ gn dr tk₀ os R hh hd hu S hQ
  have F := S.fr
  refine codeAny_call_def (fd := fnOf name qual params body scope dV kV doc pm an cdv ct) (body := body) (binds := binds) (by (first | lia | omega)) ((B.k.keeps F.keep) _ _ ho) rfl (B.t.nolimit.keeps F.keep) (codeRec_of (B.k.keeps F.keep) hcd) rfl (hbind _) hcell hloc (fun h₁ hns hk₁ => ?_) hco hgen hk
  have S₁ := S.enter hns (by
    cases e : h₀.get? h₀.objs.size with
    | none => rfl
    | some o => exact absurd (Heap.lt_size e) (Nat.lt_irrefl _)) (Nat.le_trans S.low (Nat.le_of_lt S.ns.lt)) hk₁
  refine wpAny_mono (h (A.deeper (envX qual scope h₀.objs.size f cdv [])) _ h₀.objs.size h₁ gn dr (tk₀ + binds.length) os hh ?_ ?_ S₁) (fun fl s' hb => ?_) fun _ _ x => x.elim
  · rw [depth_deeper]; (first | lia | omega)
  · show A.units + 3 + u < cLine; (first | lia | omega)
  · refine hideP ?_; intro _ hG_; obtain ⟨m', I', Mu', h', tk', rfl, S', hl, hp⟩ := hb; refine hG_ ?_; clear hG_
    exact hQ _ I' Mu' h' tk' (S.back (PM.le_refl _) S') hl hp
/-- a class of the text is called -/
theorem call_class {C fI : Addr} {vs : List Value} {I Mu : PM} {Post : Value → PM → PM → Prop} {d u : Nat} (B : Base K p loose mean mg mb hB) (hm : makesIn K C = true) (hi : findIn K (.ref C) "__init__" = some (some (.ref fI))) (hf : isFn K (.ref fI) = true) (hne : ∃ a o, I a = some o)
    (h : ∀ x dx, I x = none → I dx = none → Mu x = none → Mu dx = none → x ≠ dx → CodeOk prog w hB d u (.ref fI) (.ref x :: vs) I ((Mu.upd dx (dictOf [] 0)).upd x (instObj C dx)) (fun r I' Mu' => r = .none ∧ Post (.ref x) I' Mu')) :
    CallOk prog w hB (d + 1) (u + 1) (.ref C) vs I Mu Post := by
  intro A g L m h₀ gn dr tk₀ os Q E hh hd hu S hQ
  obtain ⟨a1, o1, ha1⟩ := hne
  have N : News hB L h₀ (newsOf hB L h₀ L) := fun q hq => by have z := mem_newsOf (a := q.1) (o := q.2).mp hq; exact ⟨z.1, z.2.1, z.2.2.2⟩
  refine call_cls (s := ⟨h₀, gn, dr, tk₀, os⟩) S.fr B.k N hm hi hf fun x dx h' F' N' hlt hdx => ?_
  have hk : ∀ b y, b ≠ L → h₀.get? b = some y → h'.get? b = some y := fun b y n2 e => by
    cases q : hB.get? b with
    | some z => rw [S.keep b z (S.base b z q)] at e; cases e; exact F'.keep b _ q
    | none => exact (N' (b, y) (.tail _ (.tail _ (mem_newsOf.mpr ⟨e, n2, n2, q⟩)))).1
  have S' : St hB g L m I Mu h' := ⟨F'.ns, fun b x e => hk b x (fun q => by rw [q, S.off] at e; cases e) (S.keep b x e), S.low, S.base, S.off, fun b x e => ⟨hk b x (S.imm b x e).2.1 (S.imm b x e).1, (S.imm b x e).2⟩, fun b x e => ⟨hk b x (S.chg b x e).2.1 (S.chg b x e).1, (S.chg b x e).2⟩, S.dis, S.hi⟩
  have zx := N' _ (.head _)
  have zd := N' _ (.tail _ (.head _))
  have none0 : ∀ b, dx ≤ b → b ≠ L → hB.get? b = none → h₀.get? b = none := fun b hb n1 n2 => by
    cases q : h₀.get? b with
    | none => rfl
    | some y => exact absurd (hlt _ (mem_newsOf.mpr ⟨q, n1, n1, n2⟩)) (Nat.not_lt.mpr hb)
  have fx := S.fresh' (none0 x (Nat.le_of_lt hdx) zx.2.1 zx.2.2)
  have fd := S.fresh' (none0 dx (Nat.le_refl _) zd.2.1 zd.2.2)
  have hge : hB.objs.size ≤ dx := by
    have z := S.imm a1 o1 ha1
    exact Nat.le_trans (S.hi a1 o1 (.inl ha1)) (Nat.le_of_lt (hlt _ (mem_newsOf.mpr ⟨z.1, z.2.1, z.2.1, S.new_off z.2.2⟩)))
  have S1 := S'.addMu zd.1 fd.1 fd.2.2.1 fd.2.2.2 hge
  have S2 := S1.addMu zx.1 fx.1 fx.2.2.1 fx.2.2.2 (Nat.le_trans hge (Nat.le_of_lt hdx))
  refine h x dx fx.1 fd.1 fx.2.1 fd.2.1 (Nat.ne_of_gt hdx) (A.under (.builtin "type.__call__" ⟨.ref C :: vs, []⟩)) g L m h' gn dr tk₀ os _ hh ?_ ?_ S2 ?_
  · rw [depth_under_make]; (first | lia | omega)
  · show A.units + 1 + u < cLine; (first | lia | omega)
  · rintro r I' Mu' h2 tk' S3 hle ⟨rfl, hp⟩
    exact ⟨rfl, hQ _ I' Mu' h2 tk' S3 hle hp⟩
end
variable {prog : Program} {w : World} {p : Program} {loose : List Str} {mean : ExcName → Option Value} {mg mb : Str → Option Value} {hB : Heap}
theorem Chn.perm {I Mu : PM} {as : List Addr} {s : List (Sc Str)} {F F' : List (Addr × Obj)} (h : Chn prog w I Mu as s F) (q : F.Perm F') : Chn prog w I Mu as s F' := by
  refine hideP ?_; intro _ hG_; obtain ⟨xs, e, c, f, nd⟩ := h; refine hG_ ?_; clear hG_
  exact ⟨xs, e, c, fun y hy => f y (q.mem_iff.mpr hy), (List.Perm.nodup_iff (List.Perm.append_left _ (q.map _))).mp nd⟩
theorem Chn.newHead {I Mu : PM} {as : List Addr} {s : List (Sc Str)} {F : List (Addr × Obj)} {x dx bl wl cp cb w0 : Addr} {k : Nat → Tok} {t1 t2 t3 : Tok} {n n1 n2 n3 n4 : Nat} {l : Int} {o : Obj} (ho : o.IsDictOf (strKind prog w) [])
    (h : Chn prog w I Mu as s ((x, instObj 108 dx) :: (dx, dictOf (attrEs w.params k (outV as) (.str "main" t1) (.ref bl) (.ref wl) (.int 0 t2) (.ref cp) (.int l t3)) n) :: (bl, lstO [.ref cb] n1) :: (wl, lstO [.ref w0] n2) :: (cp, lstO [] n3) :: (cb, o) :: (w0, lstO [] n4) :: F)) :
    Chn prog w I Mu (x :: as) (newSc :: s) F := by
  refine hideP ?_; intro _ hG_; obtain ⟨xs, e, c, f, nd⟩ := h; refine hG_ ?_; clear hG_
  refine ⟨⟨x, dx, bl, wl, cp, cb, w0, [], []⟩ :: xs, by simp [e], .cons ⟨f (_, _) (.head _), ⟨k, t1, t2, t3, l, n, ?_⟩, ⟨n1, f (_, _) (.tail _ (.tail _ (.head _)))⟩, ⟨n2, f (_, _) (.tail _ (.tail _ (.tail _ (.head _))))⟩, ⟨[], n3, f (_, _) (.tail _ (.tail _ (.tail _ (.tail _ (.head _))))), .nil⟩, ⟨o, [], f (_, _) (.tail _ (.tail _ (.tail _ (.tail _ (.tail _ (.head _)))))), ho, .nil⟩, ⟨n4, f (_, _) (.tail _ (.tail _ (.tail _ (.tail _ (.tail _ (.tail _ (.head _))))))) ⟩, .nil, .nil⟩ c, fun q hq => f q (by simp [hq]), ?_⟩
  · rw [e]; exact f (_, _) (.tail _ (.head _))
  · simp only [allA, List.flatMap_cons, Ad.all, List.append_nil, List.map_cons, List.append_assoc, List.cons_append, List.nil_append] at nd ⊢
    refine (List.Perm.nodup_iff ?_).mp nd
    have : ∀ (a : List Addr) (b c : List Addr), (a ++ (b ++ c)).Perm (b ++ (a ++ c)) := fun a b c => by
      rw [← List.append_assoc, ← List.append_assoc]; exact List.Perm.append_right _ List.perm_append_comm
    exact this (xs.flatMap Ad.all) [x, dx, bl, wl, cp, cb, w0] (F.map (·.1))
section
variable {A : Around} {E : Value → Shared → Prop} {h : Heap} {gn : Array GenState} {dr : Drawn} {tk : Nat} {os : OsState} {g : PM} {L : Addr} {m : Str → Option Value} {I Mu : PM} {v : Value}
theorem r_snew {a dx : Addr} {es : List DictEntry} {n : Nat} {name : Str} {Q : Unit → Shared → Prop} (B : Base (KK w.params) p loose mean mg mb hB) (S : St hB g L m I Mu h) (hx : Mu a = some (instObj 108 dx)) (hd : Mu dx = some (dictOf es n))
    (hl : getL name es = some none) (e : putL name (PyData.keyHash w.params name) (.str name (tk + 1)) v es = es ++ [⟨PyData.keyHash w.params name, .str name (tk + 1), v⟩]) (hz : (es ++ [(⟨PyData.keyHash w.params name, .str name (tk + 1), v⟩ : DictEntry)]).length ≤ 1000)
    (q : ∀ h' t n', St hB g L m I (Mu.upd dx (dictOf (es ++ [⟨PyData.keyHash w.params name, .str name t, v⟩]) n')) h' → Q () ⟨h', gn, dr, tk + 2, os⟩) (hn : name = "outer" ∨ name = "package" ∨ name = "blocks" ∨ name = "waiting" ∨ name = "size" ∨ name = "captures" ∨ name = "line" := by simp) :
    wpAny (model prog w) A (setAttr (.ref a) name v) Q E ⟨h, gn, dr, tk, os⟩ :=
  r_sset (es' := es ++ [(⟨PyData.keyHash w.params name, .str name (tk + 1), v⟩ : DictEntry)]) (n' := putN name es n) B S hx hd (by rw [hl]; rfl) (by rw [e]) hz (fun h' S' => q h' _ _ S') hn
end
theorem PM.none_upd {H : PM} {a b : Addr} {o : Obj} (h : H.upd a o b = none) : b ≠ a ∧ H b = none := by
  by_cases e : b = a
  · subst e; rw [PM.upd_self] at h; cases h
  · rw [PM.upd_ne _ _ e] at h; exact ⟨e, h⟩
theorem init_map {Mu : PM} {x d c b w v p : Addr} {i c0 b0 w0 v0 p0 d0 d1 d2 d3 d4 d5 d6 d7 : Obj} (h : x ≠ d ∧ c ≠ x ∧ c ≠ d ∧ b ≠ x ∧ b ≠ d ∧ b ≠ c ∧ w ≠ x ∧ w ≠ d ∧ w ≠ c ∧ w ≠ b ∧ v ≠ x ∧ v ≠ d ∧ v ≠ c ∧ v ≠ b ∧ v ≠ w ∧ p ≠ x ∧ p ≠ d ∧ p ≠ c ∧ p ≠ b ∧ p ≠ w ∧ p ≠ v) :
    ((((((((((((((Mu.upd d d0).upd x i).upd d d1).upd d d2).upd c c0).upd b b0).upd d d3).upd w w0).upd v v0).upd d d4).upd d d5).upd p p0).upd d d6).upd d d7) = ((((((Mu.upd w w0).upd c c0).upd p p0).upd v v0).upd b b0).upd d d7).upd x i := by
  refine hideP ?_; intro _ hG_; obtain ⟨_, _, _, _, _, _, _, _, _, _, _, _, _, _, _, _, _, _, _, _, _⟩ := h; refine hG_ ?_; clear hG_
  funext y
  simp only [PM.upd]
  by_cases q1 : y = x
  · subst q1; grind
  by_cases q2 : y = d
  · subst q2; grind
  simp only [q1, q2, if_false]
  by_cases q3 : y = b
  · subst q3; grind
  by_cases q4 : y = v
  · subst q4; grind
  by_cases q5 : y = p
  · subst q5; grind
  by_cases q6 : y = c
  · subst q6; grind
  simp only [q3, q4, q5, q6, if_false]
theorem init_ok (B : Base (KK w.params) p loose mean mg mb hB) {I Mu : PM} {as : List Addr} {s : List (Sc Str)} {F : List (Addr × Obj)} {t : Tok} (hC : Chn prog w I Mu as s F) {x dx : Addr} (hx0 : I x = none) (hd0 : I dx = none) (hx1 : Mu x = none) (hd1 : Mu dx = none) (hne : x ≠ dx) :
    CodeOk prog w hB 1 3 (.ref 105) [.ref x, outV as, .str "main" t] I ((Mu.upd dx (dictOf [] 0)).upd x (instObj 108 dx)) (fun r I' Mu' => r = .none ∧ Chn prog w I' Mu' (x :: as) (newSc :: s) F) := by
  refine code_def0 (d := 0) (u := 0) B (by rfl) (by rfl) (fun s => BindsTo.of_eq rfl) (locs rfl) (by decide) ?_
  intro A g L h gn dr tk os hh hd hu S
  generalize henv : envX _ _ _ _ _ _ = env
  have hE := EnvOk.of henv
  dsimp only at hE
  refine r_hide ?_; intro _ _
  generalize hov : outV as = ov at *
  have ho : handedIn ov = true := by subst hov; cases as <;> rfl
  repeat walk_at "s2"
  have hxd := hne.symm
  refine r_snew B S (PM.upd_self _ _ _) (es := []) (n := 0) (by grind [PM.upd]) (by rfl) (by rfl) (Nat.le_of_ble_eq_true rfl) ?_
  intro h1 t1 n1 S1
  repeat walk_at "s2"
  refine r_snew B S1 (dx := dx) (by walk_at "mu") (by walk_at "mu") (by rfl) (by rfl) (Nat.le_of_ble_eq_true rfl) ?_
  intro h2 t2 n2 S2
  repeat walk_at "s2"
  refine r_dictE S2 ?_
  intro cb h3' hI3 hM3 S3
  repeat walk_at "s2"
  refine r_newLst S3 (Nat.le_of_ble_eq_true rfl) ?_
  intro bl h4 hI4 hM4 S4
  repeat walk_at "s2"
  have c1 := (PM.none_upd (PM.none_upd (PM.none_upd hM3).2).2).1
  have c2 := (PM.none_upd (PM.none_upd (PM.none_upd (PM.none_upd hM3).2).2).2).1
  have c3 := (PM.none_upd (PM.none_upd (PM.none_upd (PM.none_upd hM3).2).2).2).2
  have b3 := (PM.none_upd hM4).1
  have b1 := (PM.none_upd (PM.none_upd (PM.none_upd (PM.none_upd hM4).2).2).2).1
  have b2 := (PM.none_upd (PM.none_upd (PM.none_upd (PM.none_upd (PM.none_upd hM4).2).2).2).2).1
  have b4 := (PM.none_upd (PM.none_upd (PM.none_upd (PM.none_upd (PM.none_upd hM4).2).2).2).2).2
  refine r_snew B S4 (dx := dx) (by walk_at "mu") (by walk_at "mu") (by rfl) (by rfl) (Nat.le_of_ble_eq_true rfl) ?_
  intro h5 t5 n5 S5
  repeat walk_at "s2"
  refine r_newLst S5 (Nat.le_of_ble_eq_true rfl) ?_
  intro w0 h6 hI6 hM6 S6
  repeat walk_at "s2"
  refine r_newLst S6 (Nat.le_of_ble_eq_true rfl) ?_
  intro wl h7 hI7 hM7 S7
  repeat walk_at "s2"
  have w2 := (PM.none_upd hM6).1
  have w4 := (PM.none_upd (PM.none_upd hM6).2).1
  have w3 := (PM.none_upd (PM.none_upd (PM.none_upd hM6).2).2).1
  have w1 := (PM.none_upd (PM.none_upd (PM.none_upd (PM.none_upd (PM.none_upd (PM.none_upd hM6).2).2).2).2).2).1
  have w5 := (PM.none_upd (PM.none_upd (PM.none_upd (PM.none_upd (PM.none_upd (PM.none_upd (PM.none_upd hM6).2).2).2).2).2).2).2
  have v5 := (PM.none_upd hM7).1
  have v2 := (PM.none_upd (PM.none_upd hM7).2).1
  have v4 := (PM.none_upd (PM.none_upd (PM.none_upd hM7).2).2).1
  have v3 := (PM.none_upd (PM.none_upd (PM.none_upd (PM.none_upd hM7).2).2).2).1
  have v1 := (PM.none_upd (PM.none_upd (PM.none_upd (PM.none_upd (PM.none_upd (PM.none_upd (PM.none_upd hM7).2).2).2).2).2).2).1
  have v6 := (PM.none_upd (PM.none_upd (PM.none_upd (PM.none_upd (PM.none_upd (PM.none_upd (PM.none_upd (PM.none_upd hM7).2).2).2).2).2).2).2).2
  refine r_snew B S7 (dx := dx) (by walk_at "mu") (by walk_at "mu") (by rfl) (by rfl) (Nat.le_of_ble_eq_true rfl) ?_
  intro h8 t8 n8 S8
  repeat walk_at "s2"
  refine r_snew B S8 (dx := dx) (by walk_at "mu") (by walk_at "mu") (by rfl) (by rfl) (Nat.le_of_ble_eq_true rfl) ?_
  intro h9 t9 n9 S9
  repeat walk_at "s2"
  refine r_newLst S9 (Nat.le_of_ble_eq_true rfl) ?_
  intro cp h10 hI10 hM10 S10
  repeat walk_at "s2"
  have p2 := (PM.none_upd hM10).1
  have p6 := (PM.none_upd (PM.none_upd (PM.none_upd hM10).2).2).1
  have p5 := (PM.none_upd (PM.none_upd (PM.none_upd (PM.none_upd hM10).2).2).2).1
  have p4 := (PM.none_upd (PM.none_upd (PM.none_upd (PM.none_upd (PM.none_upd (PM.none_upd hM10).2).2).2).2).2).1
  have p3 := (PM.none_upd (PM.none_upd (PM.none_upd (PM.none_upd (PM.none_upd (PM.none_upd (PM.none_upd hM10).2).2).2).2).2).2).1
  have p1 := (PM.none_upd (PM.none_upd (PM.none_upd (PM.none_upd (PM.none_upd (PM.none_upd (PM.none_upd (PM.none_upd (PM.none_upd (PM.none_upd hM10).2).2).2).2).2).2).2).2).2).1
  have p7 := (PM.none_upd (PM.none_upd (PM.none_upd (PM.none_upd (PM.none_upd (PM.none_upd (PM.none_upd (PM.none_upd (PM.none_upd (PM.none_upd (PM.none_upd hM10).2).2).2).2).2).2).2).2).2).2).2
  refine r_snew B S10 (dx := dx) (by walk_at "mu") (by walk_at "mu") (by rfl) (by rfl) (Nat.le_of_ble_eq_true rfl) ?_
  intro h11 t11 n11 S11
  repeat walk_at "s2"
  refine r_snew B S11 (dx := dx) (by walk_at "mu") (by walk_at "mu") (by rfl) (by rfl) (Nat.le_of_ble_eq_true rfl) ?_
  intro h12 t12 n12 S12
  repeat walk_at "s2"
  walk_at "hid"; refine Back.intro S12 (PM.le_refl _) ⟨rfl, ?_⟩
  have up : ∀ {H : PM} {a b : Addr} {o : Obj}, H b = none → b ≠ a → (H.upd a o) b = none := fun h n => (PM.upd_ne _ _ n).trans h
  rw [init_map ⟨hne, c1, c2, b1, b2, b3, w1, w2, w3, w4, v1, v2, v3, v4, v5, p1, p2, p3, p4, p5, p6⟩]
  subst hov
  refine Chn.newHead (x := x) (dx := dx) (bl := bl) (wl := wl) (cp := cp) (cb := cb) (w0 := w0) (k := fun i => [t1, t2, t5, t8, t9, t11, t12].getD i 0) (o := emptyD) emptyD_is
    (Chn.add (Chn.add (Chn.add (Chn.add (Chn.add (Chn.add (Chn.add hC w5) ?_) ?_) ?_) ?_) ?_) ?_)
  · exact up c3 w3.symm
  · exact up (up p7 p5) p3
  · exact up (up (up v6 v5) v3) p6.symm
  · exact up (up (up (up b4 w4.symm) b3) p4.symm) v4.symm
  · exact up (up (up (up (up hd1 w2.symm) c2.symm) p2.symm) v2.symm) b2.symm
  · exact up (up (up (up (up (up hx1 w1.symm) c1.symm) p1.symm) v1.symm) b1.symm) hne
end
section
local macro_rules | `(tactic| walk_at "s2") => `(tactic| with_reducible refine PyProof.Rows.ne_str ?_)
variable {prog : Program} {w : World} {p : Program} {loose : List Str} {mean : ExcName → Option Value} {mg mb : Str → Option Value} {hB : Heap} {N : Nat}
noncomputable def capsS : List (Sc Str) → List (Nat × Nat × Bool)
  | q :: _ => q.caps
  | [] => []
/-- what a sub does -/
noncomputable def subG (g3 : Gn) : Gn := fun s =>
  (.tup [.str "subdef", .str "", (g3 (newSc :: s)).1, .int (sizeS (g3 (newSc :: s)).2), .lst ((capsS (g3 (newSc :: s)).2).map capD)], (g3 (newSc :: s)).2.tail)
/-- the innermost scope is left, and its captures are never changed again -/
theorem Chn.pop {I Mu : PM} {a0 : Addr} {as : List Addr} {q : Sc Str} {s : List (Sc Str)} {F : List (Addr × Obj)} (h : Chn prog w I Mu (a0 :: as) (q :: s) F) :
    ∃ x : Ad, x.a = a0 ∧ ScAt prog w I Mu x q (outV as) ∧ x.all.Nodup ∧ Chn prog w I (Mu.del x.cp) as s F := by
  refine hideP ?_; intro _ hG_; obtain ⟨xs, e, c, f, n⟩ := h; refine hG_ ?_; clear hG_
  cases c with
  | @cons x xs _ _ p r =>
    simp only [List.map_cons, List.cons.injEq] at e
    obtain ⟨e1, e2⟩ := e
    simp only [allA, List.flatMap_cons, List.append_assoc] at n
    have n1 := (List.nodup_append.mp n).1
    have n2 := (List.nodup_append.mp n).2.1
    have n3 := (List.nodup_append.mp n).2.2
    have hcp : x.cp ∈ x.all := by simp [Ad.all]
    refine ⟨x, e1, e2 ▸ p, n1, xs, e2, r.frame (PM.le_refl _) fun b hb => PM.del_ne _ fun z => n3 _ hcp _ (List.mem_append.mpr (.inl hb)) z.symm, fun y hy => ?_, n2⟩
    rw [PM.del_ne _ fun z => n3 _ hcp _ (List.mem_append.mpr (.inr (List.mem_map_of_mem (f := (·.1)) hy))) z.symm]
    exact f y hy
theorem cls_call (P : Params) : makesIn (KK P) 108 = true ∧ findIn (KK P) (.ref 108) "__init__" = some (some (.ref 105)) ∧ isFn (KK P) (.ref 105) = true := ⟨rfl, rfl, rfl⟩
theorem newscope_ok (B : Base (KK w.params) p loose mean mg mb hB) {I Mu : PM} {as : List Addr} {s : List (Sc Str)} {F : List (Addr × Obj)} {t : Tok} (hC : Chn prog w I Mu as s F) (hne : ∃ a o, I a = some o) :
    CallOk prog w hB 2 4 (.ref 108) [outV as, .str "main" t] I Mu (fun r I' Mu' => ∃ x, r = .ref x ∧ Chn prog w I' Mu' (x :: as) (newSc :: s) F) :=
  call_class B (cls_call w.params).1 (cls_call w.params).2.1 (cls_call w.params).2.2 hne fun x dx h1 h2 h3 h4 h5 A g L m h gn dr tk os R hh hd hu S hR =>
    init_ok B hC h1 h2 h3 h4 h5 A g L m h gn dr tk os R hh hd hu S fun r I' Mu' h' tk' S' le ⟨e, c⟩ => hR r I' Mu' h' tk' S' le ⟨e, x, rfl, c⟩
theorem sub_ok (B : Base (KK w.params) p loose mean mg mb hB) {d3 x4 x5 : D} {d c3 : Nat} {g3 : Gn} (hd1 : 2 ≤ d) (h3 : BlkOk prog w hB (N + 1) d c3 d3 g3) (k3 : GOk c3 g3) :
    SemOk prog w hB N 222 (d + 1) c3 (.tup [.str "subdef", .str "", d3, x4, x5]) (subG g3) := by
  intro I Mu a0 as q s F v W hv hC hW hc hb hwt hs
  refine hideP ?_; intro _ hG_
  refine hv.fiveE ?_; rintro a v1 v2 v3 v4 v5 rfl ha i1 i2 i3 i4 i5
  cases i1 with | str _ tt1 =>
  cases i2 with | str _ tt2 =>
  refine hG_ ?_; clear hG_
  refine (call_def (d := d) (u := 3 * d) B (by rfl) (by rfl) (fun s => BindsTo.of_eq rfl) (locs rfl) (by decide) ?_).up (Nat.le_refl _) (by (first | lia | omega))
  intro A g' L h' gn dr tk os hh hd hu S
  generalize henv : envX _ _ _ _ _ _ = env
  have hE := EnvOk.of henv
  dsimp only at hE
  refine r_hide ?_; intro _ _
  repeat walk_at "s2"
  walk_at "st"; intro h1 S1
  repeat walk_at "s2"
  refine r_titem S1 (.inI ha) (by decide) (by decide) (by rfl) ?_
  repeat walk_at "s2"
  refine (if_neg (show ¬ ((Str.ofString "" != Str.ofString "") = true) from by decide)).mpr ?_
  repeat walk_at "s2"
  refine hC.headE ?_; rintro x ex hS nx hF back
  refine hS.attrsE ?_; rintro k t1 t2 t3 l n hat
  refine r_sget B S1 (ex ▸ hS.inst) hat (by rfl) (by rfl) ?_
  repeat walk_at "s2"
  try dsimp only
  refine r_hide ?_; intro _ _; refine (newscope_ok B hC ⟨_, _, ha⟩).go hh S1 (by (first | lia | omega)) (by (first | lia | omega)) ?_
  rintro v6 I6 Mu6 h6 tk6 S6 hle6 ⟨y, rfl, hC6⟩
  walk_at "st"; intro h7 S7
  repeat walk_at "s2"
  obtain ⟨F0, hC0, -⟩ := hC6.outer
  refine hC0.headE ?_; rintro x0 ex0 hS0 - - -
  refine hS0.attrsE ?_; rintro k0 t01 t02 t03 l0 n0 hat0
  refine r_sget B S7 (ex0 ▸ hS0.inst) hat0 (by rfl) (by rfl) ?_
  repeat walk_at "s2"
  refine hC6.headE ?_; rintro y1 ey1 hS1 ny1 hF1 back1
  refine hS1.attrsE ?_; rintro k1 t11 t12 t13 l1 n1 hat1
  have hin1 : Mu6 y = some (instObj 108 y1.d) := ey1 ▸ hS1.inst
  refine r_sset (es' := attrEs w.params k1 (.ref a0) (.str "main" t11) (.ref y1.bl) (.ref y1.wl) (.int 0 t12) (.ref y1.cp) (.int l0 t03)) (n' := n1) B S7 hin1 hat1 (by rfl) (by rfl) (Nat.le_of_ble_eq_true rfl) ?_
  intro h8 S8
  have hC8 := back1 I6 _ y1 newSc (PM.le_refl _) ey1 (hS1.setD ny1 k1 t11 t12 t03 l0 n1) ny1 (fun b hb => .inl hb) (fun b o hb ho => by rw [PM.upd_ne _ _ (fun e => hb (by rw [e]; simp [Ad.all]))]; exact ho)
  repeat walk_at "s2"
  refine r_titem S8 (.inI (hle6 _ _ ha)) (by decide) (by decide) (by rfl) ?_
  repeat walk_at "s2"
  have W8 : Wt W (newSc :: q :: s) := .cons (Nat.zero_le _) hW
  refine r_hide ?_; intro _ _; refine (h3 I6 _ y (a0 :: as) newSc (q :: s) F v3 W (i3.mono hle6) hC8 W8 hc (by simp; (first | lia | omega))).go hh S8 (by (first | lia | omega)) (by (first | lia | omega)) ?_
  rintro v9 I9 Mu9 h9 tk9 S9 hle9 ⟨hp9, hC9⟩
  walk_at "st"; intro h10 S10
  repeat walk_at "s2"
  refine (if_neg (show ¬ ((Str.ofString "" != Str.ofString "") = true) from by decide)).mpr ?_
  repeat walk_at "s2"
  have w9 := k3 _ _ W8
  obtain ⟨q9, s9, es9⟩ : ∃ q9 s9, (g3 (newSc :: q :: s)).2 = q9 :: s9 := by
    cases e : (g3 (newSc :: q :: s)).2 with
    | nil => rw [e] at w9; cases w9.2
    | cons q9 s9 => exact ⟨_, _, rfl⟩
  rw [es9] at hC9
  refine hideP ?_; intro _ hG_; obtain ⟨y9, ey9, hS9, ny9, hC9'⟩ := hC9.pop; refine hG_ ?_; clear hG_
  refine hS9.attrsE ?_; rintro k9 t91 t92 t93 l9 n9 hat9
  have hin9 : Mu9 y = some (instObj 108 y9.d) := ey9 ▸ hS9.inst
  refine r_sget B S10 hin9 hat9 (by rfl) (by rfl) ?_
  repeat walk_at "s2"
  refine r_sget B S10 hin9 hat9 (by rfl) (by rfl) ?_
  repeat walk_at "s2"
  refine hideP ?_; intro _ hG_; obtain ⟨vc, nc, hcp, hic⟩ := hS9.cp; refine hG_ ?_; clear hG_
  obtain ⟨Sf, lf⟩ := S10.freeze hcp
  have hC11 := hC9'.mono lf
  refine r_newTup Sf (Nat.le_of_ble_eq_true rfl) ?_
  intro a12 h12 I12 hle12 ha12 S12
  walk_at "hid"; refine Back.intro S12 (PM.le_trans hle6 (PM.le_trans hle9 (PM.le_trans lf hle12))) ⟨?_, ?_⟩
  · unfold subG
    rw [es9]
    exact .tup ha12 (.cons (.str _ _) (.cons (.str _ _) (.cons (hp9.mono (PM.le_trans lf hle12)) (.cons (.int _ _) (.cons (.lst (hle12 _ _ (PM.upd_self _ _ _)) (hic.mono (PM.le_trans lf hle12))) .nil)))))
  · unfold subG
    rw [es9]
    exact hC11.mono hle12
end
section
variable {prog : Program} {w : World} {p : Program} {loose : List Str} {mean : ExcName → Option Value} {mg mb : Str → Option Value} {hB : Heap} {N : Nat}
theorem prog_ok (B : Base (KK w.params) p loose mean mg mb hB) {d3 : D} {d c3 : Nat} {g3 : Gn} (hd1 : 2 ≤ d) (hc : c3 ≤ 400000) (h3 : BlkOk prog w hB N d c3 d3 g3) (k3 : GOk c3 g3) {I Mu : PM} {v : Value} (hv : Is I v (.tup [.str "program", d3])) :
    CallOk prog w hB (d + 1) (3 * (d + 1)) (.ref 296) [v] I Mu (fun r I' _ => Is I' r (.tup [.str "program", (g3 [newSc]).1, .int (sizeS (g3 [newSc]).2)])) := by
  refine hideP ?_; intro _ hG_
  refine hv.twoE ?_; rintro a v1 v2 rfl ha i1 i2
  have hC : Chn prog w I Mu [] [] [] := ⟨[], rfl, .nil, fun q hq => (nomatch hq), .nil⟩
  refine hG_ ?_; clear hG_
  refine (call_def (d := d) (u := 3 * d) B (by rfl) (by rfl) (fun s => BindsTo.of_eq rfl) (locs rfl) (by decide) ?_).up (Nat.le_refl _) (by (first | lia | omega))
  intro A g' L h' gn dr tk os hh hd hu S
  generalize henv : envX _ _ _ _ _ _ = env
  have hE := EnvOk.of henv
  dsimp only at hE
  refine r_hide ?_; intro _ _
  repeat walk_at "s2"
  try dsimp only
  refine r_hide ?_; intro _ _; refine (newscope_ok B hC ⟨_, _, ha⟩).go hh S (by (first | lia | omega)) (by (first | lia | omega)) ?_
  rintro v6 I6 Mu6 h6 tk6 S6 hle6 ⟨y, rfl, hC6⟩
  walk_at "st"; intro h7 S7
  repeat walk_at "s2"
  refine r_titem S7 (.inI (hle6 _ _ ha)) (by decide) (by decide) (by rfl) ?_
  repeat walk_at "s2"
  have W8 : Wt 0 ([newSc] : List (Sc Str)) := .cons (Nat.zero_le _) (fun q hq => nomatch hq)
  refine r_hide ?_; intro _ _; refine (h3 I6 _ y [] newSc [] [] v2 0 (i2.mono hle6) hC6 W8 (by (first | lia | omega)) (Nat.zero_le _)).go hh S7 (by (first | lia | omega)) (by (first | lia | omega)) ?_
  rintro v9 I9 Mu9 h9 tk9 S9 hle9 ⟨hp9, hC9⟩
  walk_at "st"; intro h10 S10
  repeat walk_at "s2"
  have w9 := k3 _ _ W8
  obtain ⟨q9, s9, es9⟩ : ∃ q9 s9, (g3 [newSc]).2 = q9 :: s9 := by
    cases e : (g3 [newSc]).2 with
    | nil => rw [e] at w9; cases w9.2
    | cons q9 s9 => exact ⟨_, _, rfl⟩
  rw [es9] at hC9
  refine hideP ?_; intro _ hG_; obtain ⟨y9, ey9, hS9, ny9, hC9'⟩ := hC9.pop; refine hG_ ?_; clear hG_
  refine hS9.attrsE ?_; rintro k9 t91 t92 t93 l9 n9 hat9
  have hin9 : Mu9 y = some (instObj 108 y9.d) := ey9 ▸ hS9.inst
  refine r_sget B S10 hin9 hat9 (by rfl) (by rfl) ?_
  repeat walk_at "s2"
  refine r_newTup S10 (Nat.le_of_ble_eq_true rfl) ?_
  intro a12 h12 I12 hle12 ha12 S12
  walk_at "hid"; refine Back.intro S12 (PM.le_trans hle6 (PM.le_trans hle9 hle12)) ?_
  rw [es9]
  exact .tup3 ha12 (.str _ _) (hp9.mono hle12) (.int _ _)
end
section
variable {prog : Program} {w : World} {p : Program} {loose : List Str} {mean : ExcName → Option Value} {mg mb : Str → Option Value} {hB : Heap} {N : Nat}
noncomputable def myG (M : Nm) (t : T) : Gn := fun s => (myR t.sig (sizeS s), tellS (sigS t.sig ++ M.t t) s)
noncomputable def nameG (M : Nm) (u : U) : Gn := rNameD u.sig (M.u u)
noncomputable def tupG (wd : Str) (ps : List (D × Gn)) : Gn := fun s => (.tup (.str wd :: (seqG ps s).1), (seqG ps s).2)
noncomputable def exprG (g : Gn) : Gn := fun s => (.tup [.str "expr", .int 1, (g s).1], (g s).2)
noncomputable def lstG (ps : List (D × Gn)) : Gn := fun s => (.lst (seqG ps s).1, (seqG ps s).2)
noncomputable def leafG (d : D) : Gn := fun s => (d, s)
noncomputable def gns (M : Nm) : B → List (D × Gn)
  | .nil => []
  | .asg t u r => (asgD (myD M t) (nameD M u), exprG (tupG "assign" [(myD M t, myG M t), (nameD M u, nameG M u)])) :: gns M r
  | .two u v r => (twoD (nameD M u) (nameD M v), exprG (tupG "list" [(.lst [nameD M u, nameD M v], lstG [(nameD M u, nameG M u), (nameD M v, nameG M v)])])) :: gns M r
  | .bare b r => (bareD (stms M b), tupG "bare" [(.str "", leafG (.str "")), (blockD (stms M b), blkG (gns M b))]) :: gns M r
  | .sub b r => (subD (stms M b) 0 [], exprG (tupG "anonsub" [(.tup [.str "subdef", .str "", blockD (stms M b), .int 0, .lst []], subG (blkG (gns M b)))])) :: gns M r
  | .each t u b r => (eachD (myD M t) (nameD M u) (stms M b), eachG (myG M t) (nameG M u) (blkG (gns M b))) :: gns M r
  | .cond t u b r => (condD (myD M t) (nameD M u) (stms M b), condG (tupG "assign" [(myD M t, myG M t), (nameD M u, nameG M u)]) (blkG (gns M b))) :: gns M r
theorem gns_stms (M : Nm) (b : B) : (gns M b).map (·.1) = stms M b := by
  induction b with
  | nil => rfl
  | _ => simp only [gns, stms, List.map_cons]; simp [*]
/-- the keys of a naming -/
noncomputable def kf (M : Nm) : Kf Str := ⟨fun t => sigS t.sig ++ M.t t, fun u => sigS u.sig ++ M.u u, fun u => M.u u⟩
theorem nameG_eq (M : Nm) (u : U) (s : List (Sc Str)) : nameG M u s = rName (kf M) u s := by
  unfold nameG rNameD rName kf
  try dsimp only
  rcases find u.sig (sigS u.sig ++ M.u u) s with ⟨_ | n, s'⟩ <;> rfl
theorem gns_res (M : Nm) (b : B) : ∀ s, seqG ((gns M b).map addI) s = res (kf M) b s := by
  induction b with
  | nil => intro s; rfl
  | asg t u r ih =>
    intro s
    simp only [gns, List.map_cons, seqG, addI, res, ih, exprG, tupG, lstG, nameG_eq]
    rfl
  | two u v r ih =>
    intro s
    simp only [gns, List.map_cons, seqG, addI, res, ih, exprG, tupG, lstG, nameG_eq]
    rfl
  | bare b r ihb ih =>
    intro s
    simp only [gns, List.map_cons, seqG, addI, res, ih, exprG, tupG, lstG, nameG_eq, tupG, leafG, blkG, ihb]
    rfl
  | sub b r ihb ih =>
    intro s
    simp only [gns, List.map_cons, seqG, addI, res, ih, exprG, tupG, lstG, nameG_eq, tupG, exprG, subG, blkG, ihb]
    generalize leaveS (res (kf M) b (enterS (newSc :: s))).2 = y
    cases y <;> rfl
  | each t u b r ihb ih =>
    intro s
    simp only [gns, List.map_cons, seqG, addI, res, ih, exprG, tupG, lstG, nameG_eq, eachG, blkG, ihb]
    rfl
  | cond t u b r ihb ih =>
    intro s
    simp only [gns, List.map_cons, seqG, addI, res, ih, exprG, tupG, lstG, nameG_eq, condG, tupG, blkG, ihb]
    rfl
noncomputable def OkB (M : Nm) : B → Nat → Prop
  | .nil, _ => True
  | .asg t u r, n => Good (M.t t) ∧ Good (M.u u) ∧ OkB M r n
  | .two u v r, n => Good (M.u u) ∧ Good (M.u v) ∧ OkB M r n
  | .bare b r, n => ∃ k, n = k + 1 ∧ (gns M b).length ≤ 5 ∧ OkB M b k ∧ OkB M r n
  | .sub b r, n => ∃ k, n = k + 1 ∧ (gns M b).length ≤ 5 ∧ OkB M b k ∧ OkB M r n
  | .each t u b r, n => ∃ k, n = k + 1 ∧ Good (M.t t) ∧ Good (M.u u) ∧ (gns M b).length ≤ 5 ∧ OkB M b k ∧ OkB M r n
  | .cond t u b r, n => ∃ k, n = k + 1 ∧ Good (M.t t) ∧ Good (M.u u) ∧ (gns M b).length ≤ 5 ∧ OkB M b k ∧ OkB M r n
noncomputable def dS : Nat → Nat
  | 0 => 31
  | n + 1 => dS n + 10
noncomputable def cS : Nat → Nat
  | 0 => 6
  | n + 1 => 2 * (cS n * 5 + 2) + 8
theorem dS_eq (n : Nat) : dS n = 31 + 10 * n := by
  induction n with
  | zero => rfl
  | succ n ih => rw [dS, ih]; (first | lia | omega)
theorem cS_ge (n : Nat) : 6 ≤ cS n := by cases n <;> simp only [cS] <;> (first | lia | omega)
theorem SemOk.upc {f d c c' : Nat} {dd : D} {g : Gn} (h : SemOk prog w hB N f d c dd g) (hc : c ≤ c') : SemOk prog w hB N f d c' dd g :=
  fun I Mu a0 as q s F v W hv hC hW hc' hb hw hs => h I Mu a0 as q s F v W hv hC hW (by (first | lia | omega)) hb hw hs
theorem BlkOk.upc {d c c' : Nat} {dd : D} {g : Gn} (h : BlkOk prog w hB N d c dd g) (hc : c ≤ c') : BlkOk prog w hB N d c' dd g :=
  fun I Mu a0 as q s F v W hv hC hW hc' hs => h I Mu a0 as q s F v W hv hC hW (by (first | lia | omega)) hs
theorem GOk.upc {c c' : Nat} {g : Gn} (h : GOk c g) (hc : c ≤ c') : GOk c' g := fun W s hw => ⟨(h W s hw).1.up (by (first | lia | omega)), (h W s hw).2⟩
theorem myG_g (M : Nm) (t : T) : GOk 2 (myG M t) := fun W s hw => tell_g _ W s hw
theorem nameG_g (M : Nm) (u : U) : GOk 3 (nameG M u) := fun W s hw => by
  have := find_g u.sig (sigS u.sig ++ M.u u) W s hw
  unfold nameG rNameD
  rcases h : find u.sig (sigS u.sig ++ M.u u) s with ⟨_ | n, s'⟩ <;> rw [h] at this <;> exact this
theorem leafG_g (d : D) : GOk 0 (leafG d) := fun W s hw => ⟨hw, rfl⟩
theorem tupG_g {c : Nat} {wd : Str} {ps : List (D × Gn)} (h : ∀ x ∈ ps, GOk c x.2) : GOk (c * ps.length) (tupG wd ps) := fun W s hw => seqG_g h W s hw
theorem lstG_g {c : Nat} {ps : List (D × Gn)} (h : ∀ x ∈ ps, GOk c x.2) : GOk (c * ps.length) (lstG ps) := fun W s hw => seqG_g h W s hw
theorem exprG_g {c : Nat} {g : Gn} (h : GOk c g) : GOk c (exprG g) := fun W s hw => h W s hw
theorem blkG_g {c : Nat} {ps : List (D × Gn)} (h : ∀ x ∈ ps, GOk c x.2) : GOk (c * ps.length + 2) (blkG ps) := fun W s hw => by
  have h1 := seqG_g (c := c) (ps := ps.map addI) (fun x hx => by obtain ⟨y, hy, rfl⟩ := List.mem_map.mp hx; exact addI_g (h y hy))
  rw [List.length_map] at h1
  exact inside_g h1 W s hw
theorem subG_g {c : Nat} {g : Gn} (h : GOk c g) : GOk c (subG g) := fun W s hw => by
  obtain ⟨h1, h2⟩ := h W (newSc :: s) (.cons (Nat.zero_le _) hw)
  refine ⟨fun q hq => h1 q (List.mem_of_mem_tail hq), ?_⟩
  show List.map shp ((g (newSc :: s)).2.tail) = _
  rw [List.map_tail, h2]; rfl
theorem eachG_g {c1 c2 c3 : Nat} {g1 g2 g3 : Gn} (h1 : GOk c1 g1) (h2 : GOk c2 g2) (h3 : GOk c3 g3) : GOk (c1 + c2 + c3 + 2) (eachG g1 g2 g3) := by
  have hg : GOk (c1 + c2 + c3) (fun s => ((), (g3 (introS (g2 (g1 s).2).2)).2)) := fun W s hw => by
    obtain ⟨a1, a2⟩ := h1 W s hw
    obtain ⟨b1, b2⟩ := h2 _ _ a1
    obtain ⟨e1, e2⟩ := intro_g _ _ b1
    obtain ⟨f1, f2⟩ := h3 _ _ e1
    exact ⟨f1.up (by (first | lia | omega)), f2.trans (e2.trans (b2.trans a2))⟩
  exact fun W s hw => inside_g hg W s hw
theorem condG_g {c1 c3 : Nat} {g1 g3 : Gn} (h1 : GOk c1 g1) (h3 : GOk c3 g3) : GOk (c1 + c3 + 2) (condG g1 g3) := by
  have hg : GOk (c1 + c3) (fun s => ((), (g3 (introS (g1 s).2)).2)) := fun W s hw => by
    obtain ⟨a1, a2⟩ := h1 W s hw
    obtain ⟨e1, e2⟩ := intro_g _ _ a1
    obtain ⟨f1, f2⟩ := h3 _ _ e1
    exact ⟨f1.up (by (first | lia | omega)), f2.trans (e2.trans a2)⟩
  exact fun W s hw => inside_g hg W s hw
-- the parts
theorem p_my (Bs : Base (KK w.params) p loose mean mg mb hB) {M : Nm} {t : T} (G : Good (M.t t)) : SemOk prog w hB N 289 26 3 (myD M t) (myG M t) :=
  ((part_node Bs (by simp) (node_special Bs (fa := 180) (by rfl) (by rfl) (part_my Bs t.sig G))).up (by (first | lia | omega))).upc (by (first | lia | omega))
theorem p_name (Bs : Base (KK w.params) p loose mean mg mb hB) (hN : N ≤ 20) {M : Nm} {u : U} (G : Good (M.u u)) : SemOk prog w hB N 289 26 3 (nameD M u) (nameG M u) :=
  ((part_node Bs (by simp) (node_special Bs (fa := 166) (by rfl) (by rfl) (part_name hN Bs u.sig G))).up (by (first | lia | omega))).upc (by (first | lia | omega))
theorem all2 {α : Type} {P : α → Prop} {x y : α} (hx : P x) (hy : P y) : ∀ z ∈ [x, y], P z := fun z hz => by
  rcases List.mem_cons.mp hz with rfl | hz
  · exact hx
  · rw [List.mem_singleton.mp hz]; exact hy
theorem all1 {α : Type} {P : α → Prop} {x : α} (hx : P x) : ∀ z ∈ [x], P z := fun z hz => by rw [List.mem_singleton.mp hz]; exact hx
theorem p_assign (Bs : Base (KK w.params) p loose mean mg mb hB) (hN : N ≤ 20) {M : Nm} {t : T} {u : U} (G : Good (M.t t)) (G' : Good (M.u u)) : SemOk prog w hB N 289 28 6 (.tup [.str "assign", myD M t, nameD M u]) (tupG "assign" [(myD M t, myG M t), (nameD M u, nameG M u)]) :=
  part_node Bs (by simp) (node_default Bs (wd := "assign") (ps := [(myD M t, myG M t), (nameD M u, nameG M u)]) (c := 3) (by rfl) (all2 (p_my Bs G) (p_name Bs hN G')) (all2 ((myG_g M t).upc (by (first | lia | omega))) (nameG_g M u)) (by simp) (by simp))
theorem assign_g (M : Nm) (t : T) (u : U) : GOk 6 (tupG "assign" [(myD M t, myG M t), (nameD M u, nameG M u)]) := tupG_g (c := 3) (ps := [(myD M t, myG M t), (nameD M u, nameG M u)]) (all2 ((myG_g M t).upc (by (first | lia | omega))) (nameG_g M u))
theorem n_expr (Bs : Base (KK w.params) p loose mean mg mb hB) {d2 : D} {d c : Nat} {g : Gn} (h : SemOk prog w hB N 289 d c d2 g) : SemOk prog w hB N 284 (d + 2) c (.tup [.str "expr", .int 1, d2]) (exprG g) :=
  node_special Bs (fa := 236) (by rfl) (by rfl) (expr_ok Bs h)
theorem block_of (Bs : Base (KK w.params) p loose mean mg mb hB) {M : Nm} {b : B} {d c : Nat} (h : ∀ x ∈ gns M b, SemOk prog w hB N 284 d c x.1 x.2 ∧ GOk c x.2) (hl : (gns M b).length ≤ 5) (h1 : 1 ≤ d) : BlkOk prog w hB N (d + 1) (c * 5 + 2) (blockD (stms M b)) (blkG (gns M b)) ∧ GOk (c * 5 + 2) (blkG (gns M b)) := by
  have le : c * (gns M b).length + 2 ≤ c * 5 + 2 := by have := Nat.mul_le_mul_left c hl; (first | lia | omega)
  constructor
  · rw [← gns_stms]
    exact (block_sem Bs (fun x hx => (h x hx).1) (fun x hx => (h x hx).2) (by (first | lia | omega)) h1).upc le
  · exact (blkG_g (fun x hx => (h x hx).2)).upc le
theorem all_ok (Bs : Base (KK w.params) p loose mean mg mb hB) {M : Nm} (b : B) : ∀ {n N : Nat}, OkB M b n → N + n ≤ 20 → ∀ x ∈ gns M b, SemOk prog w hB N 284 (dS n) (cS n) x.1 x.2 ∧ GOk (cS n) x.2 := by
  induction b with
  | nil => intro n N _ _ x hx; exact nomatch hx
  | asg t u r ih =>
    intro n N ho hN x hx
    obtain ⟨g1, g2, ho⟩ := ho
    rcases List.mem_cons.mp hx with rfl | hx
    · have := dS_eq n; have := cS_ge n
      exact ⟨((n_expr Bs (p_assign Bs (by (first | lia | omega)) g1 g2)).up (by (first | lia | omega))).upc (by (first | lia | omega)), (exprG_g (assign_g M t u)).upc (by (first | lia | omega))⟩
    · exact ih ho hN x hx
  | two u v r ih =>
    intro n N ho hN x hx
    obtain ⟨g1, g2, ho⟩ := ho
    rcases List.mem_cons.mp hx with rfl | hx
    · have := dS_eq n; have := cS_ge n
      have h1 := part_list (prog := prog) Bs (N := N) (ps := [(nameD M u, nameG M u), (nameD M v, nameG M v)]) (c := 3) (all2 (p_name Bs (by (first | lia | omega)) g1) (p_name Bs (by (first | lia | omega)) g2)) (all2 (nameG_g M u) (nameG_g M v)) (by simp)
      have k1 : GOk 6 (lstG [(nameD M u, nameG M u), (nameD M v, nameG M v)]) := lstG_g (c := 3) (ps := [(nameD M u, nameG M u), (nameD M v, nameG M v)]) (all2 (nameG_g M u) (nameG_g M v))
      have h2 := node_default (prog := prog) Bs (N := N) (wd := "list") (ps := [(.lst [nameD M u, nameD M v], lstG [(nameD M u, nameG M u), (nameD M v, nameG M v)])]) (c := 6) (by rfl) (all1 h1) (all1 k1) (by simp) (by simp)
      have h3 := part_node Bs (by simp) h2
      exact ⟨((n_expr Bs h3).up (by (first | lia | omega))).upc (by simp only [List.length_cons, List.length_nil]; (first | lia | omega)), (exprG_g (tupG_g (c := 6) (ps := [(.lst [nameD M u, nameD M v], lstG [(nameD M u, nameG M u), (nameD M v, nameG M v)])]) (all1 k1))).upc (by simp only [List.length_cons, List.length_nil]; (first | lia | omega))⟩
    · exact ih ho hN x hx
  | bare b r ihb ih =>
    intro n N ho hN x hx
    refine hideP ?_; intro _ hG_; obtain ⟨k, rfl, hl, hob, ho⟩ := ho; refine hG_ ?_; clear hG_
    rcases List.mem_cons.mp hx with rfl | hx
    · have := dS_eq k
      obtain ⟨hb, kb⟩ := block_of (prog := prog) Bs (ihb (n := k) (N := N) hob (by (first | lia | omega))) hl (by (first | lia | omega))
      have h1 := part_node Bs (by simp) (node_special Bs (fa := 229) (by rfl) (by rfl) hb.sem)
      have h2 := node_default (prog := prog) Bs (N := N) (wd := "bare") (ps := [(.str "", leafG (.str "")), (blockD (stms M b), blkG (gns M b))]) (c := cS k * 5 + 2) (by rfl) (all2 (((part_leaf Bs (.str "")).up (by (first | lia | omega))).upc (by (first | lia | omega))) h1) (all2 ((leafG_g _).upc (by (first | lia | omega))) kb) (by simp) (by simp)
      exact ⟨(h2.up (by simp only [dS]; (first | lia | omega))).upc (by simp only [cS, List.length_cons, List.length_nil]; (first | lia | omega)), (tupG_g (c := cS k * 5 + 2) (ps := [(.str "", leafG (.str "")), (blockD (stms M b), blkG (gns M b))]) (all2 ((leafG_g _).upc (by (first | lia | omega))) kb)).upc (by simp only [cS, List.length_cons, List.length_nil]; (first | lia | omega))⟩
    · exact ih ho hN x hx
  | sub b r ihb ih =>
    intro n N ho hN x hx
    refine hideP ?_; intro _ hG_; obtain ⟨k, rfl, hl, hob, ho⟩ := ho; refine hG_ ?_; clear hG_
    rcases List.mem_cons.mp hx with rfl | hx
    · have := dS_eq k
      obtain ⟨hb, kb⟩ := block_of (prog := prog) Bs (ihb (n := k) (N := N + 1) hob (by (first | lia | omega))) hl (by (first | lia | omega))
      have h1 := part_node Bs (by simp) (node_special Bs (wd := "subdef") (fa := 222) (by rfl) (by rfl) (sub_ok Bs (x4 := .int 0) (x5 := .lst []) (by (first | lia | omega)) hb kb))
      have h2 := node_default (prog := prog) Bs (N := N) (wd := "anonsub") (ps := [(.tup [.str "subdef", .str "", blockD (stms M b), .int 0, .lst []], subG (blkG (gns M b)))]) (c := cS k * 5 + 2) (by rfl) (all1 h1) (all1 (subG_g kb)) (by simp) (by simp)
      have h3 := part_node Bs (by simp) h2
      exact ⟨((n_expr Bs h3).up (by simp only [dS]; (first | lia | omega))).upc (by simp only [cS, List.length_cons, List.length_nil]; (first | lia | omega)), (exprG_g (tupG_g (c := cS k * 5 + 2) (ps := [(.tup [.str "subdef", .str "", blockD (stms M b), .int 0, .lst []], subG (blkG (gns M b)))]) (all1 (subG_g kb)))).upc (by simp only [cS, List.length_cons, List.length_nil]; (first | lia | omega))⟩
    · exact ih ho hN x hx
  | each t u b r ihb ih =>
    intro n N ho hN x hx
    refine hideP ?_; intro _ hG_; obtain ⟨k, rfl, g1, g2, hl, hob, ho⟩ := ho; refine hG_ ?_; clear hG_
    rcases List.mem_cons.mp hx with rfl | hx
    · have := dS_eq k
      obtain ⟨hb, kb⟩ := block_of (prog := prog) Bs (ihb (n := k) (N := N) hob (by (first | lia | omega))) hl (by (first | lia | omega))
      have h1 := foreach_ok (prog := prog) Bs (N := N) (d := dS k) (by (first | lia | omega)) ((p_my Bs g1).up (by (first | lia | omega))) ((myG_g M t).upc (by (first | lia | omega))) ((p_name Bs (by (first | lia | omega)) g2).up (by (first | lia | omega))) (nameG_g M u) hb kb
      have h2 := node_special Bs (fa := 271) (by rfl) (by rfl) h1
      exact ⟨(h2.up (by simp only [dS]; (first | lia | omega))).upc (by simp only [cS]; (first | lia | omega)), (eachG_g (myG_g M t) (nameG_g M u) kb).upc (by simp only [cS]; (first | lia | omega))⟩
    · exact ih ho hN x hx
  | cond t u b r ihb ih =>
    intro n N ho hN x hx
    refine hideP ?_; intro _ hG_; obtain ⟨k, rfl, g1, g2, hl, hob, ho⟩ := ho; refine hG_ ?_; clear hG_
    rcases List.mem_cons.mp hx with rfl | hx
    · have := dS_eq k
      obtain ⟨hb, kb⟩ := block_of (prog := prog) Bs (ihb (n := k) (N := N) hob (by (first | lia | omega))) hl (by (first | lia | omega))
      have h1 := if_ok (prog := prog) Bs (N := N) (d := dS k) (by (first | lia | omega)) ((p_assign Bs (by (first | lia | omega)) g1 g2).up (by (first | lia | omega))) (assign_g M t u) hb kb
      have h2 := node_special Bs (fa := 250) (by rfl) (by rfl) h1
      exact ⟨(h2.up (by simp only [dS]; (first | lia | omega))).upc (by simp only [cS]; (first | lia | omega)), (condG_g (assign_g M t u) kb).upc (by simp only [cS]; (first | lia | omega))⟩
    · exact ih ho hN x hx
/-- what resolve_program gives -/
noncomputable def progD (K : Kf Str) (b : B) : D := .tup [.str "program", blockD (res K b (enterS [newSc])).1, .int (sizeS (leaveS (res K b (enterS [newSc])).2))]
theorem program_ok (Bs : Base (KK w.params) p loose mean mg mb hB) {M : Nm} {b : B} (ho : OkB M b 3) (hl : (gns M b).length ≤ 5) {I Mu : PM} {v : Value} (hv : Is I v (.tup [.str "program", blockD (stms M b)])) :
    CallOk prog w hB 63 190 (.ref 296) [v] I Mu (fun r I' _ => Is I' r (progD (kf M) b)) := by
  obtain ⟨hb, kb⟩ := block_of (prog := prog) Bs (all_ok Bs b (n := 3) (N := 0) ho (by (first | lia | omega))) hl (by decide)
  have := prog_ok (prog := prog) Bs (by decide) (by decide) hb kb (I := I) (Mu := Mu) hv
  rw [show (blkG (gns M b) [newSc]).1 = blockD (res (kf M) b (enterS [newSc])).1 by simp only [blkG, gns_res], show (blkG (gns M b) [newSc]).2 = leaveS (res (kf M) b (enterS [newSc])).2 by simp only [blkG, gns_res]] at this
  exact this.up (by decide) (by decide)
end
section
noncomputable def lg (s : Str) : Str := if s = "x" then "xa" else if s = "y" then "xab" else if s = "z" then "xabx" else s
noncomputable def lgS (s : Str) : Str := if (Txt.slice s none (some 6) == "main::") = true then "main::" ++ lg (Txt.slice s (some 6) none) else lg s
mutual
noncomputable def longD : D → D
  | .none => .none
  | .int i => .int i
  | .str s => .str (lgS s)
  | .tup l => .tup (longL l)
  | .lst l => .lst (longL l)
noncomputable def longL : List D → List D
  | [] => []
  | d :: r => longD d :: longL r
end
theorem longL_map (l : List D) : longL l = l.map longD := by
  induction l with
  | nil => rfl
  | cons d r ih => rw [longL, ih]; rfl
/-- at most n deep, no list longer than 1000, no str longer than 1000 -/
noncomputable def Sm : Nat → D → Prop
  | _, .none => True
  | _, .int _ => True
  | _, .str s => s.length ≤ 1000
  | 0, .tup _ => False
  | 0, .lst _ => False
  | n + 1, .tup l => l.length ≤ 1000 ∧ ∀ x ∈ l, Sm n x
  | n + 1, .lst l => l.length ≤ 1000 ∧ ∀ x ∈ l, Sm n x
section
variable {prog : Program} {w : World} {A : Around} {E : Value → Shared → Prop} {h : Heap} {gn : Array GenState} {dr : Drawn} {tk : Nat} {os : OsState} {env : Env} {hB : Heap} {g : PM} {L : Addr} {m : Str → Option Value} {I Mu : PM} {value slice : PySem.Expr} {x : Str} {t : Tok} {Q : Value → Shared → Prop}
theorem r_sslT {j : Int} {uj : Tok} (S : St hB g L m I Mu h) (hz : x.length ≤ 1000000) (q : ∀ h' t' k, St hB g L m I Mu h' → Q (.str (Txt.slice x none (some j)) t') ⟨h', gn, dr, k, os⟩)
    (hs : subscripted slice false (.str x t) (.ref h.objs.size) = operate [.ref h.objs.size, .str x t] (getItem (.str x t) (.ref h.objs.size)) := by with_unfolding_all rfl)
    (ht : ∀ r, letTemporaryGo value (.str x t) r = pure () := by intro _; with_unfolding_all rfl) :
    wpAny (model prog w) A (subscriptTail value slice (.str x t) (.ref h.objs.size)) Q E ⟨h.push { cls := .type "slice", data := .fields #[.none, .int j uj, .none] }, gn, dr, tk, os⟩ := by
  obtain ⟨post, N, back⟩ := S.viaNew
  exact slice_strN_ns (s := ⟨h, gn, dr, tk, os⟩) S.fr N (fun h' t' k F' N' => q h' t' k (back h' F' N')) hs ht (by rw [sizeLine_eq]; (first | lia | omega))
theorem r_sslF {j : Int} {uj : Tok} (S : St hB g L m I Mu h) (hz : x.length ≤ 1000000) (q : ∀ h' t' k, St hB g L m I Mu h' → Q (.str (Txt.slice x (some j) none) t') ⟨h', gn, dr, k, os⟩)
    (hs : subscripted slice false (.str x t) (.ref h.objs.size) = operate [.ref h.objs.size, .str x t] (getItem (.str x t) (.ref h.objs.size)) := by with_unfolding_all rfl)
    (ht : ∀ r, letTemporaryGo value (.str x t) r = pure () := by intro _; with_unfolding_all rfl) :
    wpAny (model prog w) A (subscriptTail value slice (.str x t) (.ref h.objs.size)) Q E ⟨h.push { cls := .type "slice", data := .fields #[.int j uj, .none, .none] }, gn, dr, tk, os⟩ := by
  obtain ⟨post, N, back⟩ := S.viaNew
  exact slice_strN_sn (s := ⟨h, gn, dr, tk, os⟩) S.fr N (fun h' t' k F' N' => q h' t' k (back h' F' N')) hs ht (by rw [sizeLine_eq]; (first | lia | omega))
/-- isinstance(v, (tuple, list)) -/
noncomputable def seqB : D → Bool
  | .tup _ => true
  | .lst _ => true
  | _ => false
theorem r_isiTL {v : Value} {d : D} {tp : Addr} (S : St hB g L m I Mu h) (hv : Is I v d) (ht : I tp = some (tupO [.type "tuple", .type "list"])) (q : ∀ k, Q (.bool (seqB d)) ⟨h, gn, dr, k, os⟩) :
    wpAny (model prog w) A (call (.builtin "isinstance") [v, .ref tp]) Q E ⟨h, gn, dr, tk, os⟩ := by
  have htp := At.get S (.inI ht)
  cases hv with
  | none =>
    refine IsiPair.tupleOfB (Tx := "NoneType") (cs := [.type "tuple", .type "list"]) (vs := [false, false]) (s := ⟨h, gn, dr, tk, os⟩) ?_ rfl htp rfl q
    pv_isi_answers
  | int =>
    refine IsiPair.tupleOfB (Tx := "int") (cs := [.type "tuple", .type "list"]) (vs := [false, false]) (s := ⟨h, gn, dr, tk, os⟩) ?_ rfl htp rfl q
    pv_isi_answers
  | str =>
    refine IsiPair.tupleOfB (Tx := "str") (cs := [.type "tuple", .type "list"]) (vs := [false, false]) (s := ⟨h, gn, dr, tk, os⟩) ?_ rfl htp rfl q
    pv_isi_answers
  | tup ha _ =>
    refine IsiPair.tupleOfB (Tx := "tuple") (cs := [.type "tuple", .type "list"]) (vs := [true, false]) (s := ⟨h, gn, dr, tk, os⟩) ?_ ⟨_, At.get S (.inI ha), rfl⟩ htp rfl q
    pv_isi_answers
  | lst ha _ =>
    refine IsiPair.tupleOfB (Tx := "list") (cs := [.type "tuple", .type "list"]) (vs := [false, true]) (s := ⟨h, gn, dr, tk, os⟩) ?_ ⟨_, At.get S (.inI ha), rfl⟩ htp rfl q
    pv_isi_answers
end
variable {prog : Program} {w : World} {p : Program} {loose : List Str} {mean : ExcName → Option Value} {mg mb : Str → Option Value} {hB : Heap}
theorem lgAt (k : Str) (t0 t1 t2 t3 : Tok) : ∃ t, (valueAt (merged [] [(("x" : Str), Value.str "xa" t1), ("y", .str "xab" t2), ("z", .str "xabx" t3)]) k).getD (.str k t0) = .str (lg k) t := by
  have e : merged [] [(("x" : Str), Value.str "xa" t1), ("y", .str "xab" t2), ("z", .str "xabx" t3)] = [(("x" : Str), Value.str "xa" t1), ("y", .str "xab" t2), ("z", .str "xabx" t3)] := by
    unfold merged stored; rfl
  rw [e]
  unfold valueAt lg
  by_cases h1 : k = "x"
  · subst h1; exact ⟨t1, by simp⟩
  · by_cases h2 : k = "y"
    · subst h2; exact ⟨t2, by simp [List.find?, Ne.symm h1, h1]⟩
    · by_cases h3 : k = "z"
      · subst h3; exact ⟨t3, by simp [List.find?, Ne.symm h1, Ne.symm h2, h1, h2]⟩
      · exact ⟨t0, by simp [List.find?, Ne.symm h1, Ne.symm h2, Ne.symm h3, h1, h2, h3]⟩
noncomputable def kids : D → List D
  | .tup l => l
  | .lst l => l
  | _ => []
theorem long_step (B : Base (KK w.params) p loose mean mg mb hB) {n : Nat} {d : D} (hk : (kids d).length ≤ 1000) (hstr : ∀ s, d = .str s → s.length ≤ 1000)
    (ih : ∀ x ∈ kids d, ∀ {I Mu : PM} {v : Value}, Is I v x → CallOk prog w hB n (3 * n) (.ref 329) [v] I Mu (fun r I' _ => Is I' r (longD x))) {I Mu : PM} {v : Value} (hv : Is I v d) :
    CallOk prog w hB (n + 1) (3 * (n + 1)) (.ref 329) [v] I Mu (fun r I' _ => Is I' r (longD d)) := by
  refine (call_def (d := n) (u := 3 * n) B (by rfl) (by rfl) (fun s => BindsTo.of_eq rfl) (locs rfl) (by decide) ?_).up (Nat.le_refl _) (by (first | lia | omega))
  intro A g' L h' gn dr tk os hh hd hu S
  generalize henv : envX _ _ _ _ _ _ = env
  have hE := EnvOk.of henv
  dsimp only at hE
  refine r_hide ?_; intro _ _
  repeat walk_at "s2"
  refine r_dict S rfl rfl (by decide) (by decide) ?_
  intro ld h1 hId hMd S1
  refine r_pairC ?_
  repeat walk_at "s2"
  refine r_pairC ?_
  repeat walk_at "s2"
  refine r_pairC ?_
  repeat walk_at "s2"
  refine r_pairN ?_
  refine PairsOk.fin S1 (PM.upd_self _ _ _) (kvs := [("x", .str "xa" _), ("y", .str "xab" _), ("z", .str "xabx" _)]) ⟨strKind_is prog w _ _, rfl, strKind_is prog w _ _, rfl, strKind_is prog w _ _, rfl, trivial⟩ ?_
  intro h2 o2 tk2 S2 ho2
  walk_at "st"; intro h3 S3
  refine hideP ?_; intro _ hG_; obtain ⟨m3, Mu3, hpm, hlm, hMl, S3'⟩ : ∃ m3 Mu3, m3 "part" = some v ∧ m3 "longer" = some (.ref ld) ∧ Mu3 ld = some o2 ∧ St hB g' L m3 I Mu3 h3 := ⟨_, _, rfl, rfl, PM.upd_self _ _ _, S3⟩; refine hG_ ?_; clear hG_
  clear S S1 S2 S3
  repeat walk_at "s2"
  refine r_newTup S3' (Nat.le_of_ble_eq_true rfl) ?_
  intro a4 h4 I4 hle4 ha4 S4
  repeat walk_at "s2"
  refine r_isiTL S4 (hv.mono hle4) ha4 ?_
  intro k5
  have hv4 := hv.mono hle4
  cases hv4 with
  | none =>
    dsimp only [seqB]
    repeat walk_at "s2"
    walk_at "hid"; exact Back.intro S4 hle4 (by unfold longD; exact .none)
  | int i t =>
    dsimp only [seqB]
    repeat walk_at "s2"
    walk_at "hid"; exact Back.intro S4 hle4 (by unfold longD; exact .int _ _)
  | str x t =>
    have hx := hstr x rfl
    dsimp only [seqB]
    repeat walk_at "s2"
    refine r_sslT S4 (by (first | lia | omega)) ?_
    intro h6 t6 k6 S6
    repeat walk_at "s2"
    by_cases hb : (Txt.slice x none (some 6) == Str.ofString "main::") = true
    · refine (if_pos hb).mpr ?_
      repeat walk_at "s2"
      refine r_dictMeth S6 (.inMu hMl) ho2 PySem.F.slot_dict_get PySem.F.type_dict_get ?_
      repeat walk_at "s2"
      refine r_sslF S6 (by (first | lia | omega)) ?_
      intro h7 t7 k7 S7
      repeat walk_at "s2"
      refine r_sslF S7 (by (first | lia | omega)) ?_
      intro h8 t8 k8 S8
      repeat walk_at "s2"
      refine r_get2 B S8 (.inMu hMl) ho2 ?_
      obtain ⟨t9, e9⟩ := lgAt (Txt.slice x (some 6) none) t8 _ _ _
      rw [e9]
      refine r_addS ?_ ?_
      · have := PyProof.Txt.length_slice_le x (some 6) none
        unfold lg; split; decide; split; decide; split; decide; have e6 : (Str.ofString "main::").length = 6 := by decide
        (first | lia | omega)
      intro t10 tk10
      walk_at "hid"; exact Back.intro S8 hle4 (by unfold longD lgS; rw [if_pos hb]; exact .str _ _)
    · refine (if_neg hb).mpr ?_
      repeat walk_at "s2"
      refine r_dictMeth S6 (.inMu hMl) ho2 PySem.F.slot_dict_get PySem.F.type_dict_get ?_
      repeat walk_at "s2"
      refine r_get2 B S6 (.inMu hMl) ho2 ?_
      obtain ⟨t9, e9⟩ := lgAt x t _ _ _
      rw [e9]
      walk_at "hid"; exact Back.intro S6 hle4 (by unfold longD lgS; rw [if_neg hb]; exact .str _ _)
  | @tup a vs ds ha hall =>
    dsimp only [seqB]
    repeat walk_at "s2"
    refine r_asgComp (cl' := []) (by rewrite [← henv]; rfl) (by rewrite [← henv]; rfl) rfl rfl ?_ (fun _ => rfl)
    repeat walk_at "s2"
    have hlen : vs.length = ds.length := hall.length
    refine r_compTup hh rfl rfl rfl S4 ha (by dsimp only [kids] at hk; (first | lia | omega))
      (fun j ys I' Mu' => IsAll I' ys ((longL ds).take j)) .nil ?_ ?_
    · rintro j v ys C m5 I5 Mu5 g5 h5 tk5 E5 hv5 hys hle5 S5 hx5
      generalize hec : compEnvC _ _ C env = ec
      have hEc : EnvOk ec [(".0", .local), ("one", .local), ("_law_longer_names", .globalImplicit)] C [] := by rewrite [← hec, ← henv]; exact ⟨rfl, rfl, rfl, rfl, rfl, rfl⟩
      obtain ⟨x, hx, hix⟩ := (hall.mono hle5).at hv5
      repeat walk_at "s2"
      refine r_hide ?_; intro _ _; refine (ih x (List.mem_of_getElem? hx) hix).go hh S5 (by (first | lia | omega)) (by (first | lia | omega)) ?_
      rintro v6 I6 Mu6 h6 tk6 S6 hle6 hi6
      walk_at "hid"
      refine EltOk.intro S6 hle6 ?_
      rw [longL_map, List.take_add_one, List.getElem?_map, hx]
      rw [← longL_map]
      exact (hys.mono hle6).snoc hi6
    · rintro D C ys I5 Mu5 h5 tk5 k5 m5 hys hly hle5 hD S5 hns hCx
      refine comp_use (y := "found") hE S5 hns hCx rfl ?_
      intro h6 S6
      have hDl : (I5.upd D (lstO ys k5)) D = some (lstO ys k5) := PM.upd_self _ _ _
      have hleD := PM.le_upd (o := lstO ys k5) hD
      rw [hlen, List.take_of_length_le (by rw [longL_map, List.length_map]; (first | lia | omega))] at hys
      try dsimp only
      have hle := PM.le_trans hle4 (PM.le_trans hle5 hleD)
      refine hideP ?_; intro _ hG_; obtain ⟨m7, hp7, hf7, S7⟩ : ∃ m7, m7 "part" = some (.ref a) ∧ m7 "found" = some (.ref D) ∧ St hB g' L m7 (I5.upd D (lstO ys k5)) Mu5 h6 := ⟨_, hpm, rfl, S6⟩; refine hG_ ?_; clear hG_
      have hg7 := At.get S7 (.inI (hleD _ _ (hle5 _ _ ha)))
      repeat walk_at "s2"
      refine PySem.IsiPair.tuple_list (s := ⟨h6, gn, dr, _, os⟩) hg7 rfl ?_
      repeat walk_at "s2"
      refine r_tupOf S7 (.inI hDl) (by dsimp only [kids] at hk; (first | lia | omega)) ?_
      intro t8 h8 I8 hle8 ht8 S8
      walk_at "hid"; exact Back.intro S8 (PM.le_trans hle hle8) (by unfold longD; exact .tup ht8 ((hys.mono hleD).mono hle8))
  | @lst a vs nl ds ha hall =>
    dsimp only [seqB]
    repeat walk_at "s2"
    refine r_asgComp (cl' := []) (by rewrite [← henv]; rfl) (by rewrite [← henv]; rfl) rfl rfl ?_ (fun _ => rfl)
    repeat walk_at "s2"
    have hlen : vs.length = ds.length := hall.length
    refine r_compList hh rfl rfl rfl S4 ha (by dsimp only [kids] at hk; (first | lia | omega))
      (fun j ys I' Mu' => IsAll I' ys ((longL ds).take j)) .nil ?_ ?_
    · rintro j v ys C m5 I5 Mu5 g5 h5 tk5 E5 hv5 hys hle5 S5 hx5
      generalize hec : compEnvC _ _ C env = ec
      have hEc : EnvOk ec [(".0", .local), ("one", .local), ("_law_longer_names", .globalImplicit)] C [] := by rewrite [← hec, ← henv]; exact ⟨rfl, rfl, rfl, rfl, rfl, rfl⟩
      obtain ⟨x, hx, hix⟩ := (hall.mono hle5).at hv5
      repeat walk_at "s2"
      refine r_hide ?_; intro _ _; refine (ih x (List.mem_of_getElem? hx) hix).go hh S5 (by (first | lia | omega)) (by (first | lia | omega)) ?_
      rintro v6 I6 Mu6 h6 tk6 S6 hle6 hi6
      walk_at "hid"
      refine EltOk.intro S6 hle6 ?_
      rw [longL_map, List.take_add_one, List.getElem?_map, hx]
      rw [← longL_map]
      exact (hys.mono hle6).snoc hi6
    · rintro D C ys I5 Mu5 h5 tk5 k5 m5 hys hly hle5 hD S5 hns hCx
      refine comp_use (y := "found") hE S5 hns hCx rfl ?_
      intro h6 S6
      have hDl : (I5.upd D (lstO ys k5)) D = some (lstO ys k5) := PM.upd_self _ _ _
      have hleD := PM.le_upd (o := lstO ys k5) hD
      rw [hlen, List.take_of_length_le (by rw [longL_map, List.length_map]; (first | lia | omega))] at hys
      try dsimp only
      have hle := PM.le_trans hle4 (PM.le_trans hle5 hleD)
      refine hideP ?_; intro _ hG_; obtain ⟨m7, hp7, hf7, S7⟩ : ∃ m7, m7 "part" = some (.ref a) ∧ m7 "found" = some (.ref D) ∧ St hB g' L m7 (I5.upd D (lstO ys k5)) Mu5 h6 := ⟨_, hpm, rfl, S6⟩; refine hG_ ?_; clear hG_
      have hg7 := At.get S7 (.inI (hleD _ _ (hle5 _ _ ha)))
      repeat walk_at "s2"
      refine PySem.IsiPair.list_list (s := ⟨h6, gn, dr, _, os⟩) hg7 rfl ?_
      repeat walk_at "s2"
      walk_at "hid"; exact Back.intro S7 hle (by unfold longD; exact .lst hDl (hys.mono hleD))
theorem longer_ok (B : Base (KK w.params) p loose mean mg mb hB) : ∀ (n : Nat) (d : D), Sm n d → ∀ {I Mu : PM} {v : Value}, Is I v d → CallOk prog w hB (n + 1) (3 * (n + 1)) (.ref 329) [v] I Mu (fun r I' _ => Is I' r (longD d)) := by
  intro n
  induction n with
  | zero =>
    intro d hsm I Mu v hv
    refine long_step B ?_ ?_ ?_ hv
    · cases d <;> first | exact Nat.zero_le _ | exact hsm.elim
    · intro s e; subst e; exact hsm
    · intro x hx; cases d <;> first | exact absurd hx List.not_mem_nil | exact hsm.elim
  | succ n ih =>
    intro d hsm I Mu v hv
    refine long_step B ?_ ?_ ?_ hv
    · cases d <;> first | exact Nat.zero_le _ | exact hsm.1
    · intro s e; subst e; exact hsm
    · intro x hx I Mu v hv
      refine ih x ?_ hv
      cases d <;> first | exact absurd hx List.not_mem_nil | exact hsm.2 x hx
end
section
section
variable {prog : Program} {w : World} {A : Around} {E : Value → Shared → Prop} {s : Shared}
theorem keys_strs {es : Array DictEntry} (hk : KeysOf (strKind prog w) es) : ∀ e ∈ es, ∃ x t, e.key = .str x t := fun e he => by
  obtain ⟨k, h1, -⟩ := hk e he
  obtain ⟨t, ht⟩ := Value.isStrOf_shape h1
  exact ⟨k, t, ht⟩
theorem find_otherI {d : Addr} {o : Obj} {es : Array DictEntry} {ep : Nat} {i : Int} {ti : Tok} {hsh : Int} {Q : Option Nat → Shared → Prop} (ho : s.heap.get? d = some o) (hd : o.data = .dict es ep) (hk : KeysOf (strKind prog w) es)
    (heq : ∀ x t (Q : Bool → Shared → Prop) (E : Value → Shared → Prop), Q false s → wpAny (model prog w) A (eqBool (.str x t) (.int i ti)) Q E s) (h : Q none s) : wpAny (model prog w) A (dictFind d (.int i ti) hsh) Q E s := by
  have hall : ((Value.int i ti :: (placesWithHash es.size (fun i => es[i]?.map (·.hash)) hsh).filterMap fun i => es[i]?.map (·.key)).all carriedByValue) = true := by
    rw [List.all_cons, List.all_eq_true.mpr, Bool.and_true]
    · rfl
    · intro v hv
      obtain ⟨i, _, hi⟩ := List.mem_filterMap.mp hv
      cases he : es[i]? with
      | none => rw [he] at hi; cases hi
      | some e =>
        rw [he] at hi
        obtain rfl : e.key = v := by simpa using hi
        obtain ⟨x, t, hx⟩ := keys_strs hk e (Array.mem_of_getElem? he)
        rw [hx]; rfl
  unfold dictFind
  try with_reducible refine wpAny_holding ?_
  refine wpAny_bind (wpAny_dictEntries ho hd ?_)
  dsimp only
  rw [if_pos hall]
  refine wpAny_bind ?_
  refine wpAny_forIn_list _ (fun rest b s' => s' = s ∧ b = (none, ())) _ ?_ ?_ _ _ ⟨rfl, rfl⟩
  · rintro x rest b s' ⟨rfl, rfl⟩
    cases he : es[x]? with
    | none => exact wpAny_pure ⟨rfl, rfl⟩
    | some e =>
      dsimp only
      obtain ⟨y, t, hy⟩ := keys_strs hk e (Array.mem_of_getElem? he)
      by_cases hh : (e.hash == hsh) = true
      · rw [if_pos hh]
        refine wpAny_bind (wpAny_dictEpoch ho hd (wpAny_bind ?_))
        rw [hy]
        refine heq _ _ _ _ (wpAny_bind (wpAny_dictEpoch ho hd ?_))
        show wpAny _ _ (if (ep != ep) = true then _ else _) _ _ _
        rw [if_neg (by simp)]
        exact wpAny_bind (wpAny_rule (wpAny_pure ⟨rfl, rfl⟩))
      · rw [if_neg hh]
        exact wpAny_pure ⟨rfl, rfl⟩
  · rintro b s' ⟨rfl, rfl⟩
    exact wpAny_pure h
theorem find_otherR {d : Addr} {o : Obj} {es : Array DictEntry} {ep : Nat} {a : Addr} {hsh : Int} {Q : Option Nat → Shared → Prop} (ho : s.heap.get? d = some o) (hd : o.data = .dict es ep) (hk : KeysOf (strKind prog w) es)
    (heq : ∀ x t (Q : Bool → Shared → Prop) (E : Value → Shared → Prop), Q false s → wpAny (model prog w) A (eqBool (.str x t) (.ref a)) Q E s)
    (hqt : ∀ (Q : Bool → Shared → Prop) (E : Value → Shared → Prop), Q true s → wpAny (model prog w) A (eqIsQuiet 8 (.ref a)) Q E s) (h : Q none s) : wpAny (model prog w) A (dictFind d (.ref a) hsh) Q E s := by
  have hst : ∀ v ∈ (placesWithHash es.size (fun i => es[i]?.map (·.hash)) hsh).filterMap (fun i => es[i]?.map (·.key)), ∃ x t, v = .str x t := by
    intro v hv
    obtain ⟨i, _, hi⟩ := List.mem_filterMap.mp hv
    cases hei : es[i]? with
    | none => rw [hei] at hi; cases hi
    | some e =>
      rw [hei] at hi
      obtain rfl : e.key = v := by simpa using hi
      exact keys_strs hk e (Array.mem_of_getElem? hei)
  have hany : ¬ (es.any fun e => e.key == Value.ref a && e.hash != hsh) = true := by
    rw [← Array.any_toList, List.any_eq_true]
    rintro ⟨e, hin, hc⟩
    obtain ⟨x, t, hx⟩ := keys_strs hk e (Array.mem_toList_iff.mp hin)
    simp [hx] at hc
  unfold dictFind
  try with_reducible refine wpAny_holding ?_
  refine wpAny_bind (wpAny_dictEntries ho hd ?_)
  dsimp only
  rw [if_neg (show ¬ ((Value.ref a :: (placesWithHash es.size (fun i => es[i]?.map (·.hash)) hsh).filterMap (fun i => es[i]?.map (·.key))).all carriedByValue) = true by simp [carriedByValue])]
  rw [if_neg hany]
  have hone : ¬ (((placesWithHash es.size (fun i => es[i]?.map (·.hash)) hsh).filterMap (fun i => es[i]?.map (·.key))) == [Value.ref a]) = true := by
    intro e
    have e' := eq_of_beq e
    obtain ⟨x, t, hx⟩ := hst (.ref a) (by rw [e']; exact .head _)
    cases hx
  rw [if_neg hone]
  have quiet : ∀ (Q : Bool → Shared → Prop) (E : Value → Shared → Prop), Q false s → wpAny (model prog w) A (tableMayTell (.ref a) ((placesWithHash es.size (fun i => es[i]?.map (·.hash)) hsh).filterMap (fun i => es[i]?.map (·.key)))) Q E s := by
    intro Q E hq
    unfold tableMayTell
    split
    · exact wpAny_pure hq
    · refine wpAny_bind (hqt _ _ ?_)
      simp only [Bool.not_true, Bool.false_eq_true, if_false]
      refine wpAny_bind ?_
      refine wpAny_forIn_list _ (fun rest r s' => s' = s ∧ r = (none, ()) ∧ ∀ v ∈ rest, ∃ x t, v = .str x t) _ ?_ ?_ _ _ ⟨rfl, rfl, hst⟩
      · rintro x rest r s' ⟨rfl, rfl, hr⟩
        obtain ⟨y, t, rfl⟩ := hr x List.mem_cons_self
        rw [eqIsQuiet_byValue 8 (v := .str y t) rfl]
        refine wpAny_bind (wpAny_pure ?_)
        simp only [Bool.not_true, Bool.false_eq_true, if_false]
        exact wpAny_pure ⟨rfl, rfl, fun v hv => hr v (List.mem_cons_of_mem _ hv)⟩
      · rintro r s' ⟨rfl, rfl, _⟩
        exact wpAny_pure hq
  refine wpAny_bind (quiet _ _ ?_)
  rw [if_neg (by simp)]
  refine wpAny_bind ?_
  refine wpAny_forIn_list _ (fun rest b s' => s' = s ∧ b = (none, none)) _ ?_ ?_ _ _ ⟨rfl, rfl⟩
  · rintro x rest b s' ⟨rfl, rfl⟩
    cases he : es[x]? with
    | none => exact wpAny_pure ⟨rfl, rfl⟩
    | some e =>
      dsimp only
      obtain ⟨y, t, hy⟩ := keys_strs hk e (Array.mem_of_getElem? he)
      by_cases hh : (e.hash == hsh) = true
      · rw [if_pos hh]
        refine wpAny_bind (wpAny_dictEpoch ho hd (wpAny_bind ?_))
        rw [hy]
        refine heq _ _ _ _ (wpAny_bind (wpAny_dictEpoch ho hd ?_))
        show wpAny _ _ (if (ep != ep) = true then _ else _) _ _ _
        rw [if_neg (by simp)]
        simp only [Bool.false_eq_true, if_false]
        refine wpAny_bind (wpAny_rule ?_)
        first | rw [if_neg (by simp)] | skip
        first
          | exact wpAny_pure ⟨rfl, rfl⟩
          | exact wpAny_bind (wpAny_pure (wpAny_pure ⟨rfl, rfl⟩))
      · rw [if_neg hh]
        exact wpAny_pure ⟨rfl, rfl⟩
  · rintro b s' ⟨rfl, rfl⟩
    exact wpAny_pure h
/-- key in d, where the dict of strs does not hold it -/
theorem in_other {d : Addr} {kvs : List (Str × Value)} {key : Value} {Q : Value → Shared → Prop} (hd : (d == sysModules) = false) (hm : s.heap.DictOf (strKind prog w) d kvs)
    (hget : ∀ (o : Obj) es ep, s.heap.get? d = some o → o.data = .dict es ep → KeysOf (strKind prog w) es → ∀ (Q : Option Value → Shared → Prop) (E : Value → Shared → Prop), (∀ k, Q none { s with toks := k }) → wpAny (model prog w) A.in1 (dictGet d key) Q E s)
    (h : ∀ k, Q (.bool false) { s with toks := k }) (hargs : argsOk "dict.__contains__" ⟨[.ref d, key], []⟩) : wpAny (model prog w) A (compareOp .In key (.ref d)) Q E s := by
  have hM := hm.mapOf
  show wpAny _ _ (do return .bool (← contains (.ref d) key)) Q E s
  refine wpAny_bind ?_
  unfold contains
  try with_reducible refine wpAny_holding ?_
  refine wpAny_bind (wpAny_specialOf hM.typeIs slot_dict_contains.lookup ?_)
  show wpAny _ _ (if (some (Value.builtin "dict.__contains__") == some Value.none) = true then _ else _) _ E s
  rw [if_neg (by rw [beq_builtin_none]; exact Bool.false_ne_true)]
  refine wpAny_bind (wpAny_callSpecialUnlessNone?_slot (name := Str.ofString "__contains__") hM.typeIs slot_dict_contains
    (wpAny_call_entry slot_dict_contains hM.typeIs entry_dict_contains ?_ hargs))
  show wpAny _ _ (dictGet d key >>= _) _ _ s
  refine hideP ?_; intro _ hG_; obtain ⟨o, es, ep, ho, -, hdat, hk, -⟩ := hM; refine hG_ ?_; clear hG_
  refine wpAny_bind (hget o es ep ho hdat hk _ _ fun k => ?_)
  show wpAny _ _ (Builtin.Dict.pendingKey? d key >>= _) _ _ _
  exact wpAny_bind (wpAny_pendingKey_other hd (wpAny_pure ⟨_, rfl, wpAny_truthy_bool (wpAny_pure (h k))⟩))
end
end
section
mutual
noncomputable def wD : D → WData
  | .none => .none
  | .int i => .int i
  | .str s => .str s
  | .tup l => .tuple (wL l)
  | .lst l => .list (wL l)
noncomputable def wL : List D → List WData
  | [] => []
  | d :: r => wD d :: wL r
end
mutual
noncomputable def pD : D → PyData
  | .none => .none
  | .int i => .int i
  | .str s => .str s
  | .tup l => .tuple (pL l)
  | .lst l => .list (pL l)
noncomputable def pL : List D → List PyData
  | [] => []
  | d :: r => pD d :: pL r
end
/-- hashable, at most n deep -/
noncomputable def Hk : Nat → D → Prop
  | _, .none => True
  | _, .int _ => True
  | _, .str _ => True
  | 0, .tup _ => False
  | n + 1, .tup l => ∀ x ∈ l, Hk n x
  | _, .lst _ => False
section
variable {I : PM} {P : Params} {h : Heap}
mutual
theorem Is.well (hI : ∀ a o, I a = some o → h.get? a = some o) : ∀ {v : Value} {d : D} {n : Nat}, Is I v d → Hk n d → Well P h v (wD d)
  | _, _, _, .none, _ => by unfold wD; exact .none
  | _, _, _, .int i t, _ => by unfold wD; exact .int i t
  | _, _, _, .str s t, _ => by unfold wD; exact .str s t
  | _, _, 0, .tup _ _, hk => hk.elim
  | _, _, n + 1, .tup e r, hk => by unfold wD; exact .tuple (hI _ _ e) (IsAll.well hI r hk)
  | _, _, 0, .lst _ _, hk => hk.elim
  | _, _, n + 1, .lst _ _, hk => hk.elim
theorem IsAll.well (hI : ∀ a o, I a = some o → h.get? a = some o) : ∀ {vs : List Value} {ds : List D} {n : Nat}, IsAll I vs ds → (∀ x ∈ ds, Hk n x) → WellAll P h vs (wL ds)
  | _, _, _, .nil, _ => by unfold wL; exact .nil
  | _, _, _, .cons a r, hk => by unfold wL; exact .cons (Is.well hI a (hk _ (.head _))) (IsAll.well hI r fun x hx => hk x (.tail _ hx))
end
mutual
theorem Is.reads (hI : ∀ a o, I a = some o → h.get? a = some o) : ∀ {v : Value} {d : D}, Is I v d → ∃ as, Reads h v (pD d) as
  | _, _, .none => ⟨_, by unfold pD; exact .none⟩
  | _, _, .int i t => ⟨_, by unfold pD; exact .int i t⟩
  | _, _, .str s t => ⟨_, by unfold pD; exact .str s t⟩
  | _, _, .tup e r => by
    obtain ⟨as, q⟩ := IsAll.reads hI r
    exact ⟨as, by unfold pD; exact .tuple (hI _ _ e) rfl rfl (by simpa using q)⟩
  | _, _, @Is.lst _ a _ _ _ e r => by
    obtain ⟨as, q⟩ := IsAll.reads hI r
    exact ⟨a :: as, by unfold pD; exact .list (hI _ _ e) rfl rfl (by simpa using q)⟩
theorem IsAll.reads (hI : ∀ a o, I a = some o → h.get? a = some o) : ∀ {vs : List Value} {ds : List D}, IsAll I vs ds → ∃ as, ReadsAll h vs (pL ds) as
  | _, _, .nil => ⟨_, by unfold pL; exact .nil⟩
  | _, _, .cons a r => by
    obtain ⟨as, q⟩ := Is.reads hI a
    obtain ⟨bs, q2⟩ := IsAll.reads hI r
    exact ⟨as ++ bs, by unfold pL; exact .cons q q2⟩
end
end
theorem Hk.key : ∀ {n : Nat} {d : D}, Hk n d → (wD d).isDKey = true ∧ (wD d).depth ≤ n := by
  intro n
  induction n with
  | zero => intro d hk; cases d <;> first | exact (show False from hk).elim | exact ⟨by simp [wD, WData.isDKey], by simp [wD, WData.depth]⟩
  | succ n ih =>
    intro d hk
    cases d with
    | tup l =>
      have : WData.areDKeys (wL l) = true ∧ WData.depthAll (wL l) ≤ n := by
        replace hk : ∀ x ∈ l, Hk n x := hk
        induction l with
        | nil => exact ⟨rfl, Nat.zero_le _⟩
        | cons x r ihl =>
          have h1 := ih (hk x (.head _))
          have h2 := ihl fun y hy => hk y (.tail _ hy)
          simp only [wL, WData.areDKeys, WData.depthAll, h1.1, h2.1, Bool.and_self, true_and]
          (first | lia | omega)
      simp only [wD, WData.isDKey, WData.depth, this.1, true_and]
      (first | lia | omega)
    | lst l => exact hk.elim
    | _ => exact ⟨by simp [wD, WData.isDKey], by simp [wD, WData.depth]⟩
section
variable {prog : Program} {w : World} {A : Around} {E : Value → Shared → Prop} {s : Shared} {I : PM}
theorem quiet_is (hI : ∀ a o, I a = some o → s.heap.get? a = some o) : ∀ {n k : Nat} {v : Value} {d : D}, Is I v d → Hk n d → n ≤ k → ∀ (Q : Bool → Shared → Prop) (E : Value → Shared → Prop), Q true s → wpAny (model prog w) A (eqIsQuiet k v) Q E s := by
  intro n
  induction n with
  | zero =>
    intro k v d hv hk _ Q E hq
    cases hv with
    | tup => exact hk.elim
    | lst => exact hk.elim
    | _ => rw [eqIsQuiet_byValue k rfl]; exact wpAny_pure hq
  | succ n ih =>
    intro k v d hv hk hle Q E hq
    cases hv with
    | lst => exact hk.elim
    | @tup a vs ds e r =>
      obtain ⟨k, rfl⟩ : ∃ k', k = k' + 1 := ⟨k - 1, by (first | lia | omega)⟩
      have ho := hI _ _ e
      have hT : s.TypeIs (.ref a) "tuple" := ⟨_, ho, rfl⟩
      unfold eqIsQuiet
      refine wpAny_bind (wpAny_specialOf hT F.slot_tuple_eq.lookup ?_)
      show wpAny _ _ (isInstance (.ref a) (.type "tuple") >>= _) _ _ s
      refine wpAny_bind (wpAny_isInstance hT isSubtype_tuple_tuple ?_)
      simp only [Bool.not_true, Bool.false_eq_true, if_false]
      refine wpAny_bind (wpAny_seqItems ho rfl ?_)
      refine wpAny_bind ?_
      show wpAny _ _ (forIn vs.toArray _ _) _ _ s
      rw [← Array.forIn_toList]
      refine wpAny_forIn_list _ (fun rest r s' => r.1 = none ∧ s' = s ∧ ∀ v ∈ rest, ∃ d, Is I v d ∧ Hk n d) _ ?_ ?_ _ _ ⟨rfl, rfl, ?_⟩
      · rintro v rest r s' ⟨hr, rfl, hall⟩
        obtain ⟨d', hd', hk'⟩ := hall v List.mem_cons_self
        refine wpAny_bind (ih hd' hk' (by (first | lia | omega)) _ _ ?_)
        simp only [Bool.not_true, Bool.false_eq_true, if_false]
        exact wpAny_pure ⟨rfl, rfl, fun u hu' => hall u (List.mem_cons_of_mem _ hu')⟩
      · rintro ⟨r1, r2⟩ s' ⟨hr, rfl, _⟩
        simp only at hr
        subst hr
        exact wpAny_pure hq
      · intro v hv
        obtain ⟨j, hj⟩ := List.getElem?_of_mem (by simpa using hv : v ∈ vs)
        obtain ⟨d', e1, e2⟩ := r.at hj
        exact ⟨d', e2, hk d' (List.mem_of_getElem? e1)⟩
    | _ => rw [eqIsQuiet_byValue k rfl]; exact wpAny_pure hq
end
section
variable {prog : Program} {w : World} {A : Around} {E : Value → Shared → Prop} {h : Heap} {gn : Array GenState} {dr : Drawn} {tk : Nat} {os : OsState} {hB : Heap} {g : PM} {L : Addr} {m : Str → Option Value} {I Mu : PM} {Q : Value → Shared → Prop}
theorem r_inInt {d : Addr} {o : Obj} {kvs : List (Str × Value)} {i : Int} {t : Tok} (S : St hB g L m I Mu h) (hm : At I Mu d o) (ho : o.IsDictOf (strKind prog w) kvs) (lo : (d == sysModules) = false) (q : ∀ k, Q (.bool false) ⟨h, gn, dr, k, os⟩) :
    wpAny (model prog w) A (compareOp .In (.int i t) (.ref d)) Q E ⟨h, gn, dr, tk, os⟩ := by
  refine in_other (s := ⟨h, gn, dr, tk, os⟩) lo (Heap.dictOf_iff.mpr ⟨o, At.get S hm, ho⟩ : h.DictOf (strKind prog w) d kvs) (fun o es ep h1 h2 h3 Q E hq => ?_) q (args_dict_contains _ _)
  unfold dictGet
  try with_reducible refine wpAny_holding ?_
  refine wpAny_bind (wpAny_pyHash_int (wpAny_bind ?_))
  refine find_otherI (s := ⟨h, gn, dr, tk + 1, os⟩) h1 h2 h3 (fun x t' Q E hq => SeqAt.EqAt.str_int x t' i t prog w E Q hq) ?_
  exact wpAny_pure (hq _)
theorem r_inTup {d a : Addr} {o : Obj} {kvs : List (Str × Value)} {l : List D} {n : Nat} (S : St hB g L m I Mu h) (hm : At I Mu d o) (ho : o.IsDictOf (strKind prog w) kvs) (lo : (d == sysModules) = false) (hv : Is I (.ref a) (.tup l)) (hk : Hk n (.tup l)) (hn : n ≤ 8) (hu : A.units + 20 < cLine)
    (q : ∀ k, Q (.bool false) ⟨h, gn, dr, k, os⟩) :
    wpAny (model prog w) A (compareOp .In (.ref a) (.ref d)) Q E ⟨h, gn, dr, tk, os⟩ := by
  have hI : ∀ a o, I a = some o → h.get? a = some o := fun a o e => (S.imm a o e).1
  refine in_other (s := ⟨h, gn, dr, tk, os⟩) lo (Heap.dictOf_iff.mpr ⟨o, At.get S hm, ho⟩ : h.DictOf (strKind prog w) d kvs) (fun o es ep h1 h2 h3 Q E hq => ?_) q (args_dict_contains _ _)
  unfold dictGet
  try with_reducible refine wpAny_holding ?_
  have hkk := hk.key
  have hu1 : A.in1.units = A.units + 1 := rfl
  refine wpAny_bind (pyHash_laid (wD (.tup l)) (.ref a) A.in1 ⟨h, gn, dr, tk, os⟩ _ hkk.1 (Is.well hI hv hk) (by (first | lia | omega)) fun k => wpAny_bind ?_)
  cases hv with
  | @tup _ vs _ e r =>
    refine find_otherR (s := ⟨h, gn, dr, k, os⟩) h1 h2 h3 (fun x t' Q E hq => SeqAt.EqAt.str_tuple (items := vs.toArray) x t' ⟨_, hI _ _ e, rfl, 0, rfl⟩ (by (first | lia | omega)) prog w E Q hq) (fun Q E hq => quiet_is (s := ⟨h, gn, dr, k, os⟩) hI (.tup e r) hk hn Q E hq) ?_
    exact wpAny_pure (hq _)
end
end
section
local macro_rules | `(tactic| walk_at "s2") => `(tactic| with_reducible refine PyProof.Rows.ne_str ?_)
section
variable {prog : Program} {w : World} {A : Around} {E : Value → Shared → Prop} {h : Heap} {gn : Array GenState} {dr : Drawn} {tk : Nat} {os : OsState} {env : Env} {hB : Heap} {g : PM} {L : Addr} {m : Str → Option Value} {I Mu : PM}
theorem r_forTup {target : Expr} {body : List Stmt} {Q : Flow → Shared → Prop} {a : Addr} {vs : List Value} (hh : A.handled = none)
    (S : St hB g L m I Mu h) (hl : I a = some (tupO vs))
    (hgo : ∀ it v (s : Shared) (Q' : Unit → Shared → Prop) (E' : Value → Shared → Prop), Q' () s → wpAny (model prog w) A (letOwnedTupleGo target it v) Q' E' s)
    (J : Nat → (Str → Option Value) → PM → PM → Prop) (Br : (Str → Option Value) → PM → PM → Prop) (Rt : Value → (Str → Option Value) → PM → PM → Prop) (J0 : J 0 m I Mu)
    (step : ∀ i v m₁ I₁ Mu₁ g₁ h₁ tk₁ (E' : Value → Shared → Prop), vs[i]? = some v → J i m₁ I₁ Mu₁ → I.le I₁ → g.le g₁ → St hB g₁ L m₁ I₁ Mu₁ h₁ →
      wpAny (model prog w) A (assign target env v) (fun _ s₂ => wpAny (model prog w) A (execs body env) (Turn hB g₁ L I₁ (J (i + 1)) Br Rt gn dr os) E' s₂) E' ⟨h₁, gn, dr, tk₁, os⟩)
    (done : ∀ m' I' Mu' h' tk', J vs.length m' I' Mu' ∨ Br m' I' Mu' → I.le I' → St hB g L m' I' Mu' h' → Q .next ⟨h', gn, dr, tk', os⟩)
    (ret : ∀ v m' I' Mu' h' tk', Rt v m' I' Mu' → I.le I' → St hB g L m' I' Mu' h' → Q (.ret v) ⟨h', gn, dr, tk', os⟩) :
    wpAny (model prog w) A (pyIter (.ref a)) (fun it s₂ => codeAny (model prog w) A (.forLoop target it body [] env) (fun r s' => match r with | .ok f => Q f s' | .error e => cameBackBy (model prog w) A env E e s') s₂) E ⟨h, gn, dr, tk, os⟩ := by
  have hne : a ≠ h.objs.size := fun q => by rw [q, S.fresh.1] at hl; cases hl
  have ht : h.IsTuple a vs.toArray := ⟨_, (S.imm _ _ hl).1, rfl, 0, rfl⟩
  refine wpAny_pyIter_tuple (s := ⟨h, gn, dr, tk, os⟩) ht ?_
  exact r_forW (P := fun i v => vs.toArray[i]? = some v) S ((Walks.tuple hh h.objs.size a hne vs.toArray)) (by simp) (by rintro b hb; rcases List.mem_cons.mp hb with rfl | hb; exact .inl rfl; rw [List.mem_singleton.mp hb]; exact .inr ⟨_, hl⟩)
    ⟨⟨_, Heap.get?_push_size _ rfl, rfl, rfl⟩, ⟨_, Heap.get?_push_of_some _ (S.imm _ _ hl).1, rfl, 0, rfl⟩⟩ (fun i h' z => ⟨_, z.1.choose_spec.1⟩) (fun i v s Q' E' hv hi q => hgo _ v s Q' E' q) J Br Rt J0 (fun i v m₁ I₁ Mu₁ g₁ h₁ tk₁ E' hi hv => step i v m₁ I₁ Mu₁ g₁ h₁ tk₁ E' (by simpa using hv)) (fun m' I' Mu' h' tk' hj => done m' I' Mu' h' tk' (by simpa using hj)) ret
end
section
variable {prog : Program} {w : World} {A : Around} {E : Value → Shared → Prop} {h : Heap} {gn : Array GenState} {dr : Drawn} {tk : Nat} {os : OsState} {env : Env} {hB : Heap} {g : PM} {L : Addr} {m : Str → Option Value} {I Mu : PM} {Q : Value → Shared → Prop}
theorem r_neE {a e : Addr} {v : Value} {vs : List Value} (S : St hB g L m I Mu h) (ha : I a = some (tupO (v :: vs))) (he : I e = some (tupO [])) (hu : A.units < cLine) (q : Q (.bool true) ⟨h, gn, dr, tk, os⟩) :
    wpAny (model prog w) A (compareOp .NotEq (.ref a) (.ref e)) Q E ⟨h, gn, dr, tk, os⟩ := by
  refine SeqAt.RcNeAt.tuples (s := ⟨h, gn, dr, tk, os⟩) (items := (v :: vs).toArray) (items2 := #[]) (e := fun _ => true) ⟨_, (S.imm _ _ ha).1, rfl, 0, rfl⟩ ⟨_, (S.imm _ _ he).1, rfl, 0, rfl⟩ hu (fun j h1 h2 => absurd h2 (by simp)) prog w E Q ?_
  simpa using q
end
noncomputable abbrev FS := List (Str × Int)
noncomputable def incT (k : Str) (l : List D) : Int := if k = "subdef" then (match l with | [_, _, _, .int n, .lst c] => n - c.length | _ => 0) else 1
noncomputable def talT (l : List D) (f : FS) : FS := match l with
  | .str k :: _ => match lk f k with
    | some n => put f k (n + incT k l)
    | none => f
  | _ => f
theorem talT_none {k : Str} {l : List D} {f : FS} (h : lk f k = none) : talT (.str k :: l) f = f := by
  show (match lk f k with | some n => put f k (n + incT k (.str k :: l)) | none => f) = f
  rw [h]
theorem talT_some {k : Str} {l : List D} {f : FS} {n : Int} (h : lk f k = some n) : talT (.str k :: l) f = put f k (n + incT k (.str k :: l)) := by
  show (match lk f k with | some n => put f k (n + incT k (.str k :: l)) | none => f) = _
  rw [h]
mutual
noncomputable def tal : D → FS → FS
  | .tup l, f => talT l (talL l f)
  | .lst l, f => talL l f
  | .none, f => f
  | .int _, f => f
  | .str _, f => f
noncomputable def talL : List D → FS → FS
  | [], f => f
  | d :: r, f => talL r (tal d f)
end
theorem talL_snoc (l : List D) (x : D) : ∀ f, talL (l ++ [x]) f = tal x (talL l f) := by
  induction l with
  | nil => intro f; rfl
  | cons d r ih => intro f; simp only [List.cons_append, talL, ih]
theorem talL_take {l : List D} {j : Nat} {x : D} (h : l[j]? = some x) (f : FS) : talL (l.take (j + 1)) f = tal x (talL (l.take j) f) := by
  rw [List.take_add_one, h]; exact talL_snoc _ _ _
theorem put_len7 {f : FS} {k : Str} {n v : Int} (h : lk f k = some n) : (put f k v).length = f.length := by
  unfold put
  rw [if_pos, List.length_map]
  unfold lk at h
  obtain ⟨x, hx, -⟩ := Option.map_eq_some_iff.mp h
  exact List.any_eq_true.mpr ⟨x, List.mem_of_find?_eq_some hx, by simpa using List.find?_some hx⟩
theorem talT_len (l : List D) (f : FS) : (talT l f).length = f.length := by
  unfold talT
  split
  · split
    · exact put_len7 ‹_›
    · rfl
  · rfl
mutual
theorem tal_len : ∀ (d : D) (f : FS), (tal d f).length = f.length
  | .tup l, f => by unfold tal; rw [talT_len, talL_len l f]
  | .lst l, f => by unfold tal; exact talL_len l f
  | .none, f => by unfold tal; rfl
  | .int _, f => by unfold tal; rfl
  | .str _, f => by unfold tal; rfl
theorem talL_len : ∀ (l : List D) (f : FS), (talL l f).length = f.length
  | [], f => by unfold talL; rfl
  | d :: r, f => by unfold talL; rw [talL_len r _, tal_len d f]
end
/-- what stands first in a tuple -/
noncomputable def Hd (l : List D) : Prop := match l with
  | [] => False
  | .str k :: _ => k = "subdef" → ∃ a b n c, l = [.str k, a, b, .int n, .lst c] ∧ c.length ≤ 1000
  | .int _ :: _ => True
  | .tup t :: _ => Hk 8 (.tup t)
  | _ => False
noncomputable def TOk : Nat → D → Prop
  | _, .none => True
  | _, .int _ => True
  | _, .str _ => True
  | 0, .tup _ => False
  | 0, .lst _ => False
  | n + 1, .tup l => (l.length ≤ 1000 ∧ Hd l) ∧ ∀ x ∈ l, TOk n x
  | n + 1, .lst l => l.length ≤ 1000 ∧ ∀ x ∈ l, TOk n x
noncomputable def IntI (v : Value) (n : Int) : Prop := ∃ t, v = .int n t
noncomputable def TalAt (prog : Program) (w : World) (Mu : PM) (d : Addr) (f : FS) : Prop := ∃ o kvs, Mu d = some o ∧ o.IsDictOf (strKind prog w) kvs ∧ RKvs IntI kvs f
variable {prog : Program} {w : World} {p : Program} {loose : List Str} {mean : ExcName → Option Value} {mg mb : Str → Option Value} {hB : Heap}
theorem IsAll.sub4 {I : PM} {vs : List Value} {x1 x2 : D} {x3 : Int} {x4 : List D} (h : IsAll I vs [x1, x2, .int x3, .lst x4]) : ∃ y1 y2 t3 a4 vs4 n4, vs = [y1, y2, .int x3 t3, .ref a4] ∧ I a4 = some (lstO vs4 n4) ∧ vs4.length = x4.length :=
  let ⟨y1, _, e1, _, r1⟩ := h.consInv
  let ⟨y2, _, e2, _, r2⟩ := r1.consInv
  let ⟨_, _, e3, i3, r3⟩ := r2.consInv
  let ⟨_, _, e4, i4, r4⟩ := r3.consInv
  let ⟨t3, f3⟩ := i3.intInv
  let ⟨a4, vs4, n4, f4, g4, l4⟩ := i4.lstInv
  ⟨y1, y2, t3, a4, vs4, n4, by rw [e1, e2, e3, e4, f3, f4, r4.nilInv], g4, l4.length⟩
theorem tal_step (B : Base (KK w.params) p loose mean mg mb hB) {n : Nat} {d : D} {fd : Addr} {f : FS} (hk : (kids d).length ≤ 1000) (hhd : ∀ l, d = .tup l → Hd l) (hf : f.length ≤ 1000)
    (ih : ∀ x ∈ kids d, ∀ {I Mu : PM} {v : Value} {f : FS}, f.length ≤ 1000 → Is I v x → TalAt prog w Mu fd f → CallOk prog w hB n (3 * n + 40) (.ref 336) [v, .ref fd] I Mu (fun r I' Mu' => r = .ref fd ∧ TalAt prog w Mu' fd (tal x f))) {I Mu : PM} {v : Value} (hv : Is I v d) (hT : TalAt prog w Mu fd f) :
    CallOk prog w hB (n + 1) (3 * (n + 1) + 40) (.ref 336) [v, .ref fd] I Mu (fun r I' Mu' => r = .ref fd ∧ TalAt prog w Mu' fd (tal d f)) := by
  refine (call_def (d := n) (u := 3 * n + 40) B (by rfl) (by rfl) (fun s => BindsTo.of_eq rfl) (locs rfl) (by decide) ?_).up (Nat.le_refl _) (by (first | lia | omega))
  intro A g' L h' gn dr tk os hh hd hu S
  generalize henv : envX _ _ _ _ _ _ = env
  have hE := EnvOk.of henv
  dsimp only at hE
  refine r_hide ?_; intro _ _
  walk_at "hid"; refine r_cons ?_; intro _ _; refine (wpAny_For ?_)
  repeat walk_at "s2"
  refine r_newTup S (Nat.le_of_ble_eq_true rfl) ?_
  intro a4 h4 I4 hle4 ha4 S4
  repeat walk_at "s2"
  have hv4 := hv.mono hle4
  refine r_isiTL S4 hv4 ha4 ?_
  intro k5
  refine hideP ?_; intro _ hG_; obtain ⟨m5, hpm, hfm, S5⟩ : ∃ m5, m5 "part" = some v ∧ m5 "found" = some (.ref fd) ∧ St hB g' L m5 I4 Mu h4 := ⟨_, rfl, rfl, S4⟩; refine hG_ ?_; clear hG_
  clear S S4
  cases hv4
  case tup a vs ds ha hall _ =>
    dsimp only [seqB]
    repeat walk_at "s2"
    have hlen : vs.length = ds.length := hall.length
    refine r_forTup hh S5 ha (fun _ _ _ _ _ q => wpAny_pure q) (fun i m' I' Mu' => m' "part" = some (.ref a) ∧ m' "found" = some (.ref fd) ∧ TalAt prog w Mu' fd (talL (ds.take i) f)) (fun _ _ _ => False) (fun _ _ _ _ => False) ⟨hpm, hfm, hT⟩ ?_ ?_ (fun _ _ _ _ _ _ x => x.elim)
    · intro i v m1 I1 Mu1 g1 h1' tk1 E' hv1 ⟨hp1, hf1, hT1⟩ hI1 hg1 S1
      obtain ⟨x, hx, hix⟩ := (hall.mono hI1).at hv1
      (try (refine r_turn ?_; intro _ _)); refine assign_Name ?_
      walk_at "st"; intro h6 S6
      refine hideP ?_; intro _ hG_; obtain ⟨m6, hp6, hf6, ho6, S6'⟩ : ∃ m6, m6 "part" = some (.ref a) ∧ m6 "found" = some (.ref fd) ∧ m6 "one" = some v ∧ St hB g1 L m6 I1 Mu1 h6 := ⟨_, hp1, hf1, rfl, S6⟩; refine hG_ ?_; clear hG_
      clear S1 S6
      repeat walk_at "s2"
      refine r_hide ?_; intro _ _; refine (ih x (List.mem_of_getElem? hx) (by rw [talL_len]; exact hf) hix hT1).go hh S6' (by (first | lia | omega)) (by (first | lia | omega)) ?_
      rintro v7 I7 Mu7 h7 tk7 S7 hle7 ⟨rfl, hT7⟩
      repeat walk_at "s2"
      walk_at "hid"; exact Turn.next S7 hle7 ⟨hp6, hf6, by rw [talL_take hx]; exact hT7⟩
    · intro m1 I1 Mu1 h1' tk1 hj hI1 S1
      obtain ⟨hp1, hf1, hT1⟩ := hj.resolve_right id
      rw [hlen, List.take_length] at hT1
      have ha1 := hI1 _ _ ha
      have hall1 := hall.mono hI1
      have hhd' := hhd ds rfl
      have hg1 := At.get S1 (.inI ha1)
      try dsimp only
      repeat walk_at "s2"
      refine PySem.IsiPair.tuple_tuple (s := ⟨h1', gn, dr, _, os⟩) hg1 rfl ?_
      repeat walk_at "s2"
      refine r_newTup S1 (Nat.le_of_ble_eq_true rfl) ?_
      intro e8 h8 I8 hle8 he8 S8
      clear hv hk ih hall hhd ha hlen hg1
      cases hall1 with
      | nil => exact hhd'.elim
      | @cons v1 vs' d1 ds' i1 irest =>
      have ha8 := hle8 _ _ ha1
      repeat walk_at "s2"
      refine r_neE S8 ha8 he8 (by (first | lia | omega)) ?_
      repeat walk_at "s2"
      refine r_titem S8 (.inI ha8) (by decide) (by decide) (by rfl) ?_
      repeat walk_at "s2"
      refine hideP ?_; intro _ hG_; obtain ⟨o9, kvs9, hm9, ho9, hr9⟩ := hT1; refine hG_ ?_; clear hG_
      have hns := S8.notSys B (.inMu hm9)
      have hfl : (talL (d1 :: ds') f).length ≤ 1000 := by rw [talL_len]; exact hf
      generalize hft : talL (d1 :: ds') f = ft at *
      have htal : tal (.tup (d1 :: ds')) f = talT (d1 :: ds') ft := by unfold tal; rw [hft]
      cases d1 with
      | none => exact hhd'.elim
      | lst l => exact hhd'.elim
      | int i =>
        cases i1
        refine r_inInt S8 (.inMu hm9) ho9 hns ?_
        intro k10
        repeat walk_at "s2"
        walk_at "hid"; exact Back.intro S8 (PM.le_trans hle4 (PM.le_trans hI1 hle8)) ⟨rfl, o9, kvs9, hm9, ho9, by rw [htal]; exact hr9⟩
      | tup l =>
        have i1' := i1.mono hle8
        cases i1 with
        | @tup a1 vs1 _ ha1' hall1' =>
        refine r_inTup S8 (.inMu hm9) ho9 hns i1' hhd' (Nat.le_refl _) (by (first | lia | omega)) ?_
        intro k10
        repeat walk_at "s2"
        walk_at "hid"; exact Back.intro S8 (PM.le_trans hle4 (PM.le_trans hI1 hle8)) ⟨rfl, o9, kvs9, hm9, ho9, by rw [htal]; exact hr9⟩
      | str k =>
        cases i1 with
        | str _ t1 =>
        refine r_din S8 (.inMu hm9) ho9 hns ?_
        rcases hr9.at k with ⟨e1, e2⟩ | ⟨nn, vv, e1, e2, t9, rfl⟩
        · rw [e2]
          dsimp only [Option.isSome_none]
          repeat walk_at "s2"
          walk_at "hid"; exact Back.intro S8 (PM.le_trans hle4 (PM.le_trans hI1 hle8)) ⟨rfl, o9, kvs9, hm9, ho9, by rw [htal, talT_none e1]; exact hr9⟩
        · rw [e2]
          dsimp only [Option.isSome_some]
          repeat walk_at "s2"
          refine r_titem S8 (.inI ha8) (by decide) (by decide) (by rfl) ?_
          repeat walk_at "s2"
          refine r_dget S8 (.inMu hm9) ho9 e2 ?_
          repeat walk_at "s2"
          refine r_titem S8 (.inI ha8) (by decide) (by decide) (by rfl) ?_
          repeat walk_at "s2"
          have hkl := hr9.length
          by_cases hks : k = "subdef"
          · subst hks
            refine hideP ?_; intro _ hG_; obtain ⟨x1, x2, x3, x4, ex, hx4⟩ := hhd' rfl; refine hG_ ?_; clear hG_
            injection ex with ex1 ex
            subst ex
            refine hideP ?_; intro _ hG_; obtain ⟨y1, y2, t3, a4', vs4, n4, rfl, ha4', hlen4⟩ := irest.sub4; refine hG_ ?_; clear hG_
            refine (if_neg (show ¬ ((Str.ofString "subdef" != Str.ofString "subdef") = true) from by decide)).mpr ?_
            repeat walk_at "s2"
            refine r_titem S8 (.inI ha8) (by decide) (by decide) (by rfl) ?_
            repeat walk_at "s2"
            refine r_titem S8 (.inI ha8) (by decide) (by decide) (by rfl) ?_
            repeat walk_at "s2"
            refine r_llen S8 (.inI (hle8 _ _ ha4')) (by rw [hlen4]; (first | lia | omega)) ?_
            repeat walk_at "s2"
            refine r_dset S8 hm9 ho9 (by (first | lia | omega)) ?_
            intro h10 o10 S10 ho10
            repeat walk_at "s2"
            walk_at "hid"; refine Back.intro S10 (PM.le_trans hle4 (PM.le_trans hI1 hle8)) ⟨rfl, o10, _, PM.upd_self _ _ _, ho10, ?_⟩
            rw [htal, talT_some e1]
            refine hr9.set ?_
            rw [show incT (Str.ofString "subdef") [.str (Str.ofString "subdef"), x1, x2, .int x3, .lst x4] = x3 - x4.length from if_pos rfl, ← hlen4]
            exact ⟨_, rfl⟩
          · refine (if_pos (show (k != Str.ofString "subdef") = true from by simpa using hks)).mpr ?_
            repeat walk_at "s2"
            refine r_dset S8 hm9 ho9 (by (first | lia | omega)) ?_
            intro h10 o10 S10 ho10
            repeat walk_at "s2"
            walk_at "hid"; refine Back.intro S10 (PM.le_trans hle4 (PM.le_trans hI1 hle8)) ⟨rfl, o10, _, PM.upd_self _ _ _, ho10, ?_⟩
            rw [htal, talT_some e1]
            refine hr9.set ?_
            rw [show incT k (.str k :: ds') = 1 from if_neg hks]
            exact ⟨_, rfl⟩
  case lst a vs nl ds ha hall _ =>
    dsimp only [seqB]
    repeat walk_at "s2"
    have hlen : vs.length = ds.length := hall.length
    refine r_forList hh S5 ha (fun _ _ _ _ _ _ _ _ _ q => wpAny_pure q) (fun i m' I' Mu' => m' "part" = some (.ref a) ∧ m' "found" = some (.ref fd) ∧ TalAt prog w Mu' fd (talL (ds.take i) f)) (fun _ _ _ => False) (fun _ _ _ _ => False) ⟨hpm, hfm, hT⟩ ?_ ?_ (fun _ _ _ _ _ _ x => x.elim)
    · intro i v m1 I1 Mu1 g1 h1' tk1 E' hv1 ⟨hp1, hf1, hT1⟩ hI1 hg1 S1
      obtain ⟨x, hx, hix⟩ := (hall.mono hI1).at hv1
      (try (refine r_turn ?_; intro _ _)); refine assign_Name ?_
      walk_at "st"; intro h6 S6
      refine hideP ?_; intro _ hG_; obtain ⟨m6, hp6, hf6, ho6, S6'⟩ : ∃ m6, m6 "part" = some (.ref a) ∧ m6 "found" = some (.ref fd) ∧ m6 "one" = some v ∧ St hB g1 L m6 I1 Mu1 h6 := ⟨_, hp1, hf1, rfl, S6⟩; refine hG_ ?_; clear hG_
      clear S1 S6
      repeat walk_at "s2"
      refine r_hide ?_; intro _ _; refine (ih x (List.mem_of_getElem? hx) (by rw [talL_len]; exact hf) hix hT1).go hh S6' (by (first | lia | omega)) (by (first | lia | omega)) ?_
      rintro v7 I7 Mu7 h7 tk7 S7 hle7 ⟨rfl, hT7⟩
      repeat walk_at "s2"
      walk_at "hid"; exact Turn.next S7 hle7 ⟨hp6, hf6, by rw [talL_take hx]; exact hT7⟩
    · intro m1 I1 Mu1 h1' tk1 hj hI1 S1
      obtain ⟨hp1, hf1, hT1⟩ := hj.resolve_right id
      rw [hlen, List.take_length] at hT1
      have hg1 := At.get S1 (.inI (hI1 _ _ ha))
      try dsimp only
      repeat walk_at "s2"
      refine PySem.IsiPair.list_tuple (s := ⟨h1', gn, dr, _, os⟩) hg1 rfl ?_
      repeat walk_at "s2"
      walk_at "hid"; exact Back.intro S1 (PM.le_trans hle4 hI1) ⟨rfl, by unfold tal; exact hT1⟩
  all_goals
    dsimp only [seqB]
    repeat walk_at "s2"
    refine r_newLst S5 (Nat.le_of_ble_eq_true rfl) ?_
    intro e6 h6 hI6 hM6 S6
    obtain ⟨S7, le7⟩ := S6.freeze (PM.upd_self _ _ _)
    have hTe : TalAt prog w ((Mu.upd e6 (lstO [] 0)).del e6) fd f := by
      refine hideP ?_; intro _ hG_; obtain ⟨o, kvs, h1, h2, h3⟩ := hT; refine hG_ ?_; clear hG_
      refine ⟨o, kvs, ?_, h2, h3⟩
      have : fd ≠ e6 := fun e => by rw [e, hM6] at h1; cases h1
      rw [PM.del_ne _ this, PM.upd_ne _ _ this]; exact h1
    refine r_forList hh S7 (PM.upd_self _ _ _) (fun _ _ _ _ _ _ _ _ _ q => wpAny_pure q) (fun i m' I' Mu' => m' "part" = m5 "part" ∧ m' "found" = some (.ref fd) ∧ TalAt prog w Mu' fd f) (fun _ _ _ => False) (fun _ _ _ _ => False) ⟨rfl, hfm, hTe⟩ ?_ ?_ (fun _ _ _ _ _ _ x => x.elim)
    · intro i v m1 I1 Mu1 g1 h1' tk1 E' hv; cases hv
    · intro m1 I1 Mu1 h1' tk1 hj hI1 S1
      obtain ⟨hp1, hf1, hT1⟩ := hj.resolve_right id
      rw [hpm] at hp1
      try dsimp only
      repeat walk_at "s2"
      walk_at "hid"; exact Back.intro S1 (PM.le_trans hle4 (PM.le_trans le7 hI1)) ⟨rfl, by unfold tal; exact hT1⟩
theorem tallied_ok (B : Base (KK w.params) p loose mean mg mb hB) {fd : Addr} : ∀ (n : Nat) (d : D), TOk n d → ∀ {I Mu : PM} {v : Value} {f : FS}, f.length ≤ 1000 → Is I v d → TalAt prog w Mu fd f → CallOk prog w hB (n + 1) (3 * (n + 1) + 40) (.ref 336) [v, .ref fd] I Mu (fun r I' Mu' => r = .ref fd ∧ TalAt prog w Mu' fd (tal d f)) := by
  intro n
  induction n with
  | zero =>
    intro d hsm I Mu v f hf hv hT
    refine tal_step B ?_ ?_ hf ?_ hv hT
    · cases d <;> first | exact Nat.zero_le _ | exact (show False from hsm).elim
    · intro l e; subst e; exact (show False from hsm).elim
    · intro x hx; cases d <;> first | exact absurd hx List.not_mem_nil | exact (show False from hsm).elim
  | succ n ih =>
    intro d hsm I Mu v f hf hv hT
    refine tal_step B ?_ ?_ hf ?_ hv hT
    · cases d <;> first | exact Nat.zero_le _ | exact hsm.1.1 | exact hsm.1
    · intro l e; subst e; exact hsm.1.2
    · intro x hx I Mu v f hf hv hT
      refine ih x ?_ hf hv hT
      cases d <;> first | exact absurd hx List.not_mem_nil | exact hsm.2 x hx
end
section
section
variable {κ : Type} [DecidableEq κ]
set_option linter.unusedSectionVars false
theorem glk_nil {α : Type} (k : κ) : lk ([] : List (κ × α)) k = none := rfl
theorem glk_cons {α : Type} (k' k : κ) (x : α) (s : List (κ × α)) : lk ((k', x) :: s) k = if k' = k then some x else lk s k := by
  unfold lk; rw [List.find?_cons]; by_cases e : k' = k <;> simp [e]
theorem lk_app {α : Type} (s : List (κ × α)) (k k' : κ) (v : α) : lk (s ++ [(k, v)]) k' = match lk s k' with | some x => some x | none => if k = k' then some v else none := by
  induction s with
  | nil => simp [glk_cons, glk_nil]
  | cons x r ih =>
    obtain ⟨a, y⟩ := x
    rw [List.cons_append, glk_cons, glk_cons, ih]
    by_cases e : a = k' <;> simp [e]
theorem lk_any {α : Type} (s : List (κ × α)) (k : κ) : s.any (fun kv => kv.1 = k) = (lk s k).isSome := by
  induction s with
  | nil => rfl
  | cons x r ih =>
    obtain ⟨a, y⟩ := x
    rw [List.any_cons, glk_cons, ih]
    by_cases e : a = k <;> simp [e]
theorem lk_map {α : Type} (s : List (κ × α)) (k k' : κ) (v : α) : lk (s.map fun kv => if kv.1 = k then (kv.1, v) else kv) k' = if k' = k then (lk s k').map (fun _ => v) else lk s k' := by
  induction s with
  | nil => simp [glk_nil]
  | cons x r ih =>
    obtain ⟨a, y⟩ := x
    rw [List.map_cons]
    by_cases e : a = k
    · subst e
      simp only [if_true, glk_cons, ih]
      by_cases e2 : a = k'
      · subst e2; simp
      · simp [e2, Ne.symm e2]
    · rw [if_neg e, glk_cons, glk_cons, ih]
      by_cases e2 : a = k'
      · subst e2; simp [e]
      · simp [e2]
theorem lk_put {α : Type} (s : List (κ × α)) (k k' : κ) (v : α) : lk (put s k v) k' = if k' = k then some v else lk s k' := by
  unfold put
  rw [lk_any]
  split
  · rename_i h
    rw [lk_map]
    by_cases e : k' = k
    · subst e
      obtain ⟨x, hx⟩ := Option.isSome_iff_exists.mp h
      simp [hx]
    · simp [e]
  · rename_i h
    rw [lk_app]
    have h' : lk s k = none := by simpa using h
    by_cases e : k' = k
    · subst e; simp [h']
    · simp only [if_neg e, if_neg (Ne.symm e)]
      cases lk s k' <;> rfl
noncomputable abbrev En (κ : Type) : Type := κ → Option Nat
noncomputable def En.hd : List (En κ) → En κ
  | [] => fun _ => none
  | e :: _ => e
noncomputable def En.upd (e : En κ) (k : κ) (i : Nat) : En κ := fun k' => if k' = k then some i else e k'
noncomputable def Inj (e : En κ) : Prop := ∀ k k' i, e k = some i → e k' = some i → k = k'
theorem Inj.upd {e : En κ} (h : Inj e) {k : κ} {i : Nat} (hf : ∀ k', e k' ≠ some i) : Inj (e.upd k i) := by
  intro a b j ha hb
  unfold En.upd at ha hb
  by_cases h1 : a = k <;> by_cases h2 : b = k <;> simp only [h1, h2, if_true, if_false] at ha hb
  · rw [h1, h2]
  · cases ha; exact absurd hb (hf b)
  · cases hb; exact absurd ha (hf a)
  · exact h a b j ha hb
/-- the ghost's keys -/
noncomputable abbrev G : Type := Option Nat
structure Stat (e eo : En κ) (B : List (List (κ × Nat))) (B' : List (List (G × Nat))) : Prop where
  at_ : ∀ k i, e k = some i → hereB k B = hereB (some i) B'
  no : ∀ k, e k = none → hereB k B = none
  out : ∀ k, hereB k B = none → e k = eo k
  nn : hereB none B' = none
structure Dyn (eo : En κ) (q : Sc κ) (q' : Sc G) : Prop where
  size : q.size = q'.size
  caps : q.caps = q'.caps
  at_ : ∀ k i, eo k = some i → lk q.capB k = lk q'.capB (some i)
  no : ∀ k, eo k = none → lk q.capB k = none
  nn : lk q'.capB none = none
noncomputable def Rel : List (En κ) → List (Sc κ) → List (Sc G) → Prop
  | [], [], [] => True
  | e :: es, q :: s, q' :: g => Stat e (En.hd es) q.blocks q'.blocks ∧ Dyn (En.hd es) q q' ∧ Rel es s g
  | _, _, _ => False
theorem here_none {κ : Type} [DecidableEq κ] {q : Sc κ} {k : κ} (h1 : hereB k q.blocks = none) (h2 : lk q.capB k = none) : q.here k = none := by unfold Sc.here; rw [h1]; exact h2
theorem sim_find (sig : Bool) (k : κ) : ∀ (es : List (En κ)) (s : List (Sc κ)) (g : List (Sc G)), (∀ e ∈ es, Inj e) → Rel es s g →
    (find sig k s).1 = (find sig (En.hd es k) g).1 ∧ Rel es (find sig k s).2 (find sig (En.hd es k) g).2 ∧ ((En.hd es k).isSome → (find sig k s).1.isSome) ∧ (En.hd es k = none → (find sig k s).1 = none) := by
  intro es
  induction es with
  | nil =>
    intro s g _ h
    cases s <;> cases g <;> first | exact h.elim | exact ⟨rfl, trivial, fun x => (nomatch x), fun _ => rfl⟩
  | cons e es ih =>
    intro s g hi h
    cases s with
    | nil => cases g <;> exact h.elim
    | cons q s =>
      cases g with
      | nil => exact h.elim
      | cons q' g =>
        obtain ⟨hS, hD, hR⟩ := h
        obtain ⟨i1, i2, i3, i4⟩ := ih s g (fun e' he => hi e' (.tail _ he)) hR
        show (find sig k (q :: s)).1 = (find sig (e k) (q' :: g)).1 ∧ Rel (e :: es) (find sig k (q :: s)).2 (find sig (e k) (q' :: g)).2 ∧ ((e k).isSome → (find sig k (q :: s)).1.isSome) ∧ (e k = none → (find sig k (q :: s)).1 = none)
        cases hek : e k with
        | none =>
          have hb := hS.no k hek
          have heo : En.hd es k = none := (hS.out k hb).symm.trans hek
          have h1 : q.here k = none := here_none hb (hD.no k heo)
          have h2 : q'.here none = none := here_none hS.nn hD.nn
          rw [heo] at i1 i2
          have i5 := i4 heo
          rw [i5] at i1
          have f1 : find sig k s = (none, (find sig k s).2) := by rw [← i5]
          have f2 : find sig none g = (none, (find sig none g).2) := Prod.ext i1.symm rfl
          rw [find_none h1 f1, find_none h2 f2]
          exact ⟨rfl, ⟨hS, hD, i2⟩, fun x => (nomatch x), fun _ => rfl⟩
        | some i =>
          have hb := hS.at_ k i hek
          cases hbk : hereB k q.blocks with
          | some n =>
            have h1 : q.here k = some n := by unfold Sc.here; rw [hbk]
            have h2 : q'.here (some i) = some n := by unfold Sc.here; rw [← hb, hbk]
            rw [find_here h1, find_here h2]
            exact ⟨rfl, ⟨hS, hD, hR⟩, fun _ => rfl, fun x => (nomatch x)⟩
          | none =>
            have heo : En.hd es k = some i := (hS.out k hbk).symm.trans hek
            have hc := hD.at_ k i heo
            cases hck : lk q.capB k with
            | some n =>
              have h1 : q.here k = some n := by unfold Sc.here; rw [hbk]; exact hck
              have h2 : q'.here (some i) = some n := by unfold Sc.here; rw [← hb, hbk]; exact hc.symm.trans hck
              rw [find_here h1, find_here h2]
              exact ⟨rfl, ⟨hS, hD, hR⟩, fun _ => rfl, fun x => (nomatch x)⟩
            | none =>
              have h1 : q.here k = none := here_none hbk hck
              have h2 : q'.here (some i) = none := here_none (hb.symm.trans hbk) (hc.symm.trans hck)
              rw [heo] at i1 i2 i3
              obtain ⟨pl, hpl⟩ := Option.isSome_iff_exists.mp (i3 rfl)
              rw [hpl] at i1
              have f1 : find sig k s = (some pl, (find sig k s).2) := by rw [← hpl]
              have f2 : find sig (some i) g = (some pl, (find sig (some i) g).2) := Prod.ext i1.symm rfl
              rw [find_some h1 f1, find_some h2 f2]
              refine ⟨by rw [hD.size], ⟨hS, ⟨by simp only [hD.size], by simp only [hD.size, hD.caps], ?_, ?_, ?_⟩, i2⟩, fun _ => rfl, fun x => (nomatch x)⟩
              · intro k' i' he'
                simp only [lk_put]
                by_cases e1 : k' = k
                · subst e1
                  have : i' = i := by rw [heo] at he'; cases he'; rfl
                  subst this; simp [hD.size]
                · have e2 : i' ≠ i := by
                    rintro rfl
                    cases es with
                    | nil => cases heo
                    | cons e0 es => exact e1 (hi e0 (.tail _ (.head _)) k' k i' he' heo)
                  rw [if_neg e1, if_neg (by simpa using e2)]
                  exact hD.at_ k' i' he'
              · intro k' he'
                have e1 : k' ≠ k := by rintro rfl; rw [heo] at he'; cases he'
                simp only [lk_put, if_neg e1]
                exact hD.no k' he'
              · simp only [lk_put]
                rw [if_neg (by simp)]
                exact hD.nn
-- the frame
noncomputable def bw (q : Sc κ) : List (List (κ × Nat)) × List (List (κ × Nat)) := (q.blocks, q.waits)
theorem find_bw (sig : Bool) (k : κ) : ∀ s : List (Sc κ), (find sig k s).2.map bw = s.map bw := by
  intro s
  induction s with
  | nil => rfl
  | cons q s ih =>
    cases hh : q.here k with
    | some i => rw [find_here hh]
    | none =>
      rcases hf : find sig k s with ⟨_ | pl, r'⟩
      · rw [find_none hh hf]; rw [hf] at ih; simp only [List.map_cons, ih]
      · rw [find_some hh hf]; rw [hf] at ih; simp only [List.map_cons, ih]; rfl
theorem leave_cong {s s' : List (Sc κ)} (h : s.map bw = s'.map bw) : (leaveS s).map bw = (leaveS s').map bw := by
  cases s <;> cases s' <;> first | rfl | cases h | skip
  rename_i q s q' s'
  simp only [List.map_cons, List.cons.injEq, bw, Prod.mk.injEq] at h
  simp only [leaveS, List.map_cons, bw, h.1.1, h.1.2, h.2]
theorem leave_enter (s : List (Sc κ)) : leaveS (enterS s) = s := by cases s <;> rfl
theorem leave_tell (k : κ) (s : List (Sc κ)) : (leaveS (tellS k s)).map bw = (leaveS s).map bw := by
  cases s with
  | nil => rfl
  | cons q s =>
    obtain ⟨caps, capB, blocks, waits, size⟩ := q
    cases waits <;> rfl
theorem leave_intro (s : List (Sc κ)) : (leaveS (introS s)).map bw = (leaveS s).map bw := by
  cases s with
  | nil => rfl
  | cons q s =>
    obtain ⟨caps, capB, blocks, waits, size⟩ := q
    cases blocks <;> cases waits <;> rfl
theorem rName_bw (K : Kf κ) (u : U) (s : List (Sc κ)) : (rName K u s).2.map bw = s.map bw := by
  have := find_bw u.sig (K.u u) s
  unfold rName
  rcases h : find u.sig (K.u u) s with ⟨_ | n, s'⟩ <;> rw [h] at this <;> exact this
theorem leave_name (K : Kf κ) (u : U) (s : List (Sc κ)) : (leaveS (rName K u s).2).map bw = (leaveS s).map bw := leave_cong (rName_bw K u s)
theorem map_tail_bw {s s' : List (Sc κ)} (h : s.map bw = s'.map bw) : s.tail.map bw = s'.tail.map bw := by
  rw [List.map_tail, List.map_tail, h]
theorem res_frame (K : Kf κ) : ∀ (b : B) (s : List (Sc κ)), (leaveS (res K b s).2).map bw = (leaveS s).map bw := by
  intro b
  induction b with
  | nil => intro s; rfl
  | asg t u r ih =>
    intro s
    simp only [res, rMy]
    rw [ih, leave_intro, leave_name, leave_tell]
  | two u v r ih =>
    intro s
    simp only [res]
    rw [ih, leave_intro, leave_name, leave_name]
  | bare b r ihb ih =>
    intro s
    simp only [res]
    rw [ih, leave_intro]
    exact leave_cong (by rw [ihb, leave_enter])
  | sub b r ihb ih =>
    intro s
    simp only [res]
    rw [ih, leave_intro]
    refine leave_cong ?_
    have := map_tail_bw (ihb (enterS (newSc :: s)))
    rw [leave_enter] at this
    exact this
  | each t u b r ihb ih =>
    intro s
    simp only [res, rMy]
    rw [ih, leave_intro]
    refine leave_cong ?_
    rw [leave_cong (ihb _), leave_enter, leave_intro, leave_name, leave_tell, leave_enter]
  | cond t u b r ihb ih =>
    intro s
    simp only [res, rMy]
    rw [ih, leave_intro]
    refine leave_cong ?_
    rw [leave_cong (ihb _), leave_enter, leave_intro, leave_name, leave_tell, leave_enter]
end
end
section
section
variable {κ : Type} [DecidableEq κ]
set_option linter.unusedSectionVars false
/-- the ghost's naming: by number -/
noncomputable def gK (g : U → Str) : Kf G := ⟨fun t => some t.id, fun u => u.id, g⟩
/-- the uses are seen as the builder saw them -/
noncomputable def TyE (K : Kf κ) (g : U → Str) : B → En κ → Prop
  | .nil, _ => True
  | .asg t u r, e => (e (K.u u) = u.id ∧ (u.id = none → K.g u = g u)) ∧ (∀ k, e k ≠ some t.id) ∧ TyE K g r (e.upd (K.t t) t.id)
  | .two u v r, e => (e (K.u u) = u.id ∧ (u.id = none → K.g u = g u)) ∧ (e (K.u v) = v.id ∧ (v.id = none → K.g v = g v)) ∧ TyE K g r e
  | .bare b r, e => TyE K g b e ∧ TyE K g r e
  | .sub b r, e => TyE K g b e ∧ TyE K g r e
  | .each t u b r, e => (e (K.u u) = u.id ∧ (u.id = none → K.g u = g u)) ∧ (∀ k, e k ≠ some t.id) ∧ TyE K g b (e.upd (K.t t) t.id) ∧ TyE K g r e
  | .cond t u b r, e => (e (K.u u) = u.id ∧ (u.id = none → K.g u = g u)) ∧ (∀ k, e k ≠ some t.id) ∧ TyE K g b (e.upd (K.t t) t.id) ∧ TyE K g r e
noncomputable def topW : List (Sc κ) → Option (List (κ × Nat))
  | q :: _ => q.waits.head?
  | [] => none
noncomputable def topB : List (Sc κ) → Option (List (κ × Nat))
  | q :: _ => q.blocks.head?
  | [] => none
theorem top_bw {s s' : List (Sc κ)} (h : s.map bw = s'.map bw) : topW s = topW s' ∧ topB s = topB s' := by
  cases s <;> cases s' <;> first | exact ⟨rfl, rfl⟩ | cases h | skip
  rename_i q s q' s'
  simp only [List.map_cons, List.cons.injEq, bw, Prod.mk.injEq] at h
  simp only [topW, topB, h.1.1, h.1.2, and_self]
/-- both are between two statements -/
structure At0 (es : List (En κ)) (s : List (Sc κ)) (g : List (Sc G)) : Prop where
  rel : Rel es s g
  w : topW s = some []
  w' : topW g = some []
  b : (topB s).isSome
  b' : (topB g).isSome
theorem sim_name {K : Kf κ} {gn : U → Str} {u : U} {es : List (En κ)} {s : List (Sc κ)} {g : List (Sc G)} (hi : ∀ e ∈ es, Inj e) (hR : Rel es s g) (h1 : En.hd es (K.u u) = u.id) (h2 : u.id = none → K.g u = gn u) :
    (rName K u s).1 = (rName (gK gn) u g).1 ∧ Rel es (rName K u s).2 (rName (gK gn) u g).2 := by
  obtain ⟨i1, i2, i3, i4⟩ := sim_find u.sig (K.u u) es s g hi hR
  rw [h1] at i1 i2 i3 i4
  unfold rName gK
  dsimp only
  rcases hf : find u.sig (K.u u) s with ⟨_ | n, s'⟩ <;> rcases hg : find u.sig u.id g with ⟨_ | n', g'⟩ <;> rw [hf, hg] at i1 i2 <;> rw [hf] at i3 i4
  · cases hu : u.id with
    | none => exact ⟨by rw [h2 hu], i2⟩
    | some i => rw [hu] at i3; exact absurd (i3 rfl) (by simp)
  · cases i1
  · cases i1
  · cases i1; exact ⟨rfl, i2⟩
theorem hereB_cons (k : κ) (b : List (κ × Nat)) (B : List (List (κ × Nat))) : hereB k (b :: B) = match lk b k with | some n => some n | none => hereB k B := by
  rw [hereB] <;> cases lk b k <;> rfl
theorem sim_intro {e : En κ} {es : List (En κ)} {s : List (Sc κ)} {g : List (Sc G)} {k : κ} {i n : Nat} (hR : Rel (e :: es) s g) (hw : topW s = some [(k, n)]) (hw' : topW g = some [(some i, n)]) (hb : (topB s).isSome) (hb' : (topB g).isSome) (hf : ∀ k', e k' ≠ some i) :
    At0 (e.upd k i :: es) (introS s) (introS g) := by
  cases s with
  | nil => cases g <;> exact hR.elim
  | cons q s =>
    cases g with
    | nil => exact hR.elim
    | cons q' g =>
      obtain ⟨caps, capB, blocks, waits, size⟩ := q
      obtain ⟨caps', capB', blocks', waits', size'⟩ := q'
      cases waits with
      | nil => cases hw
      | cons wt ws =>
      cases waits' with
      | nil => cases hw'
      | cons wt' ws' =>
      cases blocks with
      | nil => cases hb
      | cons bt bs =>
      cases blocks' with
      | nil => cases hb'
      | cons bt' bs' =>
      cases hw
      cases hw'
      obtain ⟨hS, hD, hR⟩ := hR
      refine ⟨⟨⟨?_, ?_, ?_, ?_⟩, ⟨hD.size, hD.caps, hD.at_, hD.no, hD.nn⟩, hR⟩, rfl, rfl, rfl, rfl⟩
      · intro k' i' he
        show hereB k' (put bt k n :: bs) = hereB (some i') (put bt' (some i) n :: bs')
        rw [hereB_cons, hereB_cons, lk_put, lk_put]
        unfold En.upd at he
        by_cases e1 : k' = k
        · rw [if_pos e1] at he; cases he
          simp [e1]
        · rw [if_neg e1] at he
          have e2 : i' ≠ i := by rintro rfl; exact hf k' he
          rw [if_neg e1, if_neg (by simpa using e2)]
          have := hS.at_ k' i' he
          dsimp only at this
          rw [hereB_cons, hereB_cons] at this
          exact this
      · intro k' he
        show hereB k' (put bt k n :: bs) = none
        rw [hereB_cons, lk_put]
        unfold En.upd at he
        by_cases e1 : k' = k
        · rw [if_pos e1] at he; cases he
        · rw [if_neg e1] at he
          rw [if_neg e1]
          have := hS.no k' he
          dsimp only at this
          rwa [hereB_cons] at this
      · intro k' he
        replace he : hereB k' (put bt k n :: bs) = none := he
        rw [hereB_cons, lk_put] at he
        unfold En.upd
        by_cases e1 : k' = k
        · rw [if_pos e1] at he; cases he
        · rw [if_neg e1] at he
          rw [if_neg e1]
          refine hS.out k' ?_
          dsimp only
          rwa [hereB_cons]
      · show hereB none (put bt' (some i) n :: bs') = none
        rw [hereB_cons, lk_put, if_neg (by simp)]
        have := hS.nn
        dsimp only at this
        rwa [hereB_cons] at this
theorem intro_none {es : List (En κ)} {s : List (Sc κ)} {g : List (Sc G)} (h : At0 es s g) : At0 es (introS s) (introS g) := by
  have idle : ∀ {κ' : Type} [DecidableEq κ'] (s : List (Sc κ')), topW s = some [] → introS s = s := by
    intro κ' _ s hw
    cases s with
    | nil => rfl
    | cons q s =>
      obtain ⟨caps, capB, blocks, waits, size⟩ := q
      cases waits with
      | nil => cases hw
      | cons w ws =>
        cases hw
        cases blocks <;> rfl
  rw [idle s h.w, idle g h.w']; exact h
theorem sim_enter {e : En κ} {es : List (En κ)} {s : List (Sc κ)} {g : List (Sc G)} (hR : Rel (e :: es) s g) : At0 (e :: es) (enterS s) (enterS g) := by
  cases s with
  | nil => cases g <;> exact hR.elim
  | cons q s =>
    cases g with
    | nil => exact hR.elim
    | cons q' g =>
      obtain ⟨hS, hD, hR⟩ := hR
      refine ⟨⟨⟨?_, ?_, ?_, ?_⟩, ⟨hD.size, hD.caps, hD.at_, hD.no, hD.nn⟩, hR⟩, rfl, rfl, rfl, rfl⟩
      · intro k i he; exact hS.at_ k i he
      · intro k he; exact hS.no k he
      · intro k he; exact hS.out k he
      · exact hS.nn
/-- a block is left: its own names are gone -/
theorem sim_leave {e e' : En κ} {es : List (En κ)} {s0 s : List (Sc κ)} {g0 g : List (Sc G)} (h0 : Rel (e :: es) s0 g0) (hR : Rel (e' :: es) s g) (hs : (leaveS s).map bw = s0.map bw) (hg : (leaveS g).map bw = g0.map bw) : Rel (e :: es) (leaveS s) (leaveS g) := by
  cases s with
  | nil => cases g <;> exact hR.elim
  | cons q s =>
  cases g with
  | nil => exact hR.elim
  | cons q' g =>
  cases s0 with
  | nil => cases g0 <;> exact h0.elim
  | cons p s0 =>
  cases g0 with
  | nil => exact h0.elim
  | cons p' g0 =>
    obtain ⟨hS, hD, hR⟩ := hR
    obtain ⟨hS0, hD0, hR0⟩ := h0
    simp only [leaveS, List.map_cons, List.cons.injEq, bw, Prod.mk.injEq] at hs hg
    refine ⟨?_, ⟨hD.size, hD.caps, hD.at_, hD.no, hD.nn⟩, hR⟩
    dsimp only
    rw [hs.1.1, hg.1.1]; exact hS0
theorem sim_tell {k : κ} {i : Nat} {es : List (En κ)} {s : List (Sc κ)} {g : List (Sc G)} (h : At0 es s g) :
    sizeS s = sizeS g ∧ Rel es (tellS k s) (tellS (some i) g) ∧ topW (tellS k s) = some [(k, sizeS s)] ∧ topW (tellS (some i) g) = some [(some i, sizeS s)] ∧ (topB (tellS k s)).isSome ∧ (topB (tellS (some i) g)).isSome := by
  obtain ⟨hR, hw, hw', hb, hb'⟩ := h
  cases s with
  | nil => cases hw
  | cons q s =>
  cases g with
  | nil => cases hw'
  | cons q' g =>
  cases es with
  | nil => exact hR.elim
  | cons e es =>
    obtain ⟨caps, capB, blocks, waits, size⟩ := q
    obtain ⟨caps', capB', blocks', waits', size'⟩ := q'
    cases waits with
    | nil => cases hw
    | cons wt ws =>
    cases waits' with
    | nil => cases hw'
    | cons wt' ws' =>
    cases hw
    cases hw'
    obtain ⟨hS, hD, hR⟩ := hR
    have hsz : size = size' := hD.size
    subst hsz
    exact ⟨rfl, ⟨hS, ⟨rfl, hD.caps, hD.at_, hD.no, hD.nn⟩, hR⟩, rfl, rfl, hb, hb'⟩
theorem At0.of_bw {es : List (En κ)} {s0 s : List (Sc κ)} {g0 g : List (Sc G)} (h : At0 es s0 g0) (hR : Rel es s g) (hs : s.map bw = s0.map bw) (hg : g.map bw = g0.map bw) : At0 es s g :=
  ⟨hR, (top_bw hs).1.trans h.w, (top_bw hg).1.trans h.w', by rw [(top_bw hs).2]; exact h.b, by rw [(top_bw hg).2]; exact h.b'⟩
/-- told, used: what both then give -/
theorem sim_tu {K : Kf κ} {gn : U → Str} {t : T} {u : U} {e : En κ} {es : List (En κ)} {s : List (Sc κ)} {g : List (Sc G)} (hi : ∀ e' ∈ e :: es, Inj e') (h : At0 (e :: es) s g) (h1 : e (K.u u) = u.id) (h2 : u.id = none → K.g u = gn u) (hf : ∀ k, e k ≠ some t.id) :
    (rMy K t s).1 = (rMy (gK gn) t g).1 ∧ (rName K u (rMy K t s).2).1 = (rName (gK gn) u (rMy (gK gn) t g).2).1 ∧
    At0 (e.upd (K.t t) t.id :: es) (introS (rName K u (rMy K t s).2).2) (introS (rName (gK gn) u (rMy (gK gn) t g).2).2) := by
  obtain ⟨a1, a2, a3, a4, a5, a6⟩ := sim_tell (k := K.t t) (i := t.id) h
  obtain ⟨b1, b2⟩ := sim_name (gn := gn) (u := u) hi a2 h1 h2
  have c1 := top_bw (rName_bw K u (tellS (K.t t) s))
  have c2 := top_bw (rName_bw (gK gn) u (tellS (some t.id) g))
  refine ⟨by show myR t.sig (sizeS s) = myR t.sig (sizeS g); rw [a1], b1, sim_intro b2 (c1.1.trans a3) (c2.1.trans a4) ((congrArg Option.isSome c1.2).trans a5) ((congrArg Option.isSome c2.2).trans a6) hf⟩
theorem sim {K : Kf κ} {gn : U → Str} : ∀ (b : B) (e : En κ) (es : List (En κ)) (s : List (Sc κ)) (g : List (Sc G)), TyE K gn b e → (∀ e' ∈ e :: es, Inj e') → At0 (e :: es) s g →
    (res K b s).1 = (res (gK gn) b g).1 ∧ ∃ e', At0 (e' :: es) (res K b s).2 (res (gK gn) b g).2 := by
  intro b
  induction b with
  | nil => intro e es s g _ _ h; exact ⟨rfl, e, h⟩
  | asg t u r ih =>
    intro e es s g ⟨⟨h1, h2⟩, hf, hr⟩ hi h
    obtain ⟨a1, a2, a3⟩ := sim_tu (gn := gn) (t := t) hi h h1 h2 hf
    obtain ⟨b1, b2⟩ := ih _ es _ _ hr (fun e' he => by
      rcases List.mem_cons.mp he with rfl | he
      · exact (hi e (.head _)).upd hf
      · exact hi e' (.tail _ he)) a3
    simp only [res]
    exact ⟨by rw [a1, a2, b1], b2⟩
  | two u v r ih =>
    intro e es s g ⟨⟨h1, h2⟩, ⟨h3, h4⟩, hr⟩ hi h
    obtain ⟨a1, a2⟩ := sim_name (gn := gn) (u := u) hi h.rel h1 h2
    obtain ⟨b1, b2⟩ := sim_name (gn := gn) (u := v) hi a2 h3 h4
    have h5 := h.of_bw b2 ((rName_bw K v _).trans (rName_bw K u s)) ((rName_bw (gK gn) v _).trans (rName_bw (gK gn) u g))
    obtain ⟨c1, c2⟩ := ih e es _ _ hr hi (intro_none h5)
    simp only [res]
    exact ⟨by rw [a1, b1, c1], c2⟩
  | bare b r ihb ih =>
    intro e es s g ⟨hb, hr⟩ hi h
    obtain ⟨a1, e', a2⟩ := ihb e es _ _ hb hi (sim_enter h.rel)
    have f1 := res_frame K b (enterS s)
    have f2 := res_frame (gK gn) b (enterS g)
    rw [leave_enter] at f1 f2
    have h5 := h.of_bw (sim_leave h.rel a2.rel f1 f2) f1 f2
    obtain ⟨c1, c2⟩ := ih e es _ _ hr hi (intro_none h5)
    simp only [res]
    exact ⟨by rw [a1, c1], c2⟩
  | sub b r ihb ih =>
    intro e es s g ⟨hb, hr⟩ hi h
    have hnew : Rel (e :: e :: es) (newSc :: s) (newSc :: g) := ⟨⟨fun _ _ _ => rfl, fun _ _ => rfl, fun _ _ => rfl, rfl⟩, ⟨rfl, rfl, fun _ _ _ => rfl, fun _ _ => rfl, rfl⟩, h.rel⟩
    obtain ⟨a1, e', a2⟩ := ihb e (e :: es) _ _ hb (fun e' he => by
      rcases List.mem_cons.mp he with rfl | he
      · exact hi _ (.head _)
      · exact hi e' he) (sim_enter hnew)
    have f1 := res_frame K b (enterS (newSc :: s))
    have f2 := res_frame (gK gn) b (enterS (newSc :: g))
    rw [leave_enter] at f1 f2
    have hl := sim_leave hnew a2.rel f1 f2
    simp only [res]
    generalize leaveS (res K b (enterS (newSc :: s))).2 = y at *
    generalize leaveS (res (gK gn) b (enterS (newSc :: g))).2 = y' at *
    cases y with
    | nil => cases y' <;> exact hl.elim
    | cons q y =>
    cases y' with
    | nil => exact hl.elim
    | cons q' y' =>
      obtain ⟨l1, l2, l3⟩ := hl
      have h5 := h.of_bw l3 (map_tail_bw f1) (map_tail_bw f2)
      obtain ⟨c1, c2⟩ := ih e es _ _ hr hi (intro_none h5)
      refine ⟨?_, c2⟩
      simp only [List.tail_cons, sizeS]
      rw [a1, l2.size, l2.caps, c1]
  | each t u b r ihb ih =>
    intro e es s g ⟨⟨h1, h2⟩, hf, hb, hr⟩ hi h
    obtain ⟨a1, a2, a3⟩ := sim_tu (gn := gn) (t := t) hi (sim_enter h.rel) h1 h2 hf
    have hi' : ∀ e' ∈ e.upd (K.t t) t.id :: es, Inj e' := fun e' he => by
      rcases List.mem_cons.mp he with rfl | he
      · exact (hi e (.head _)).upd hf
      · exact hi e' (.tail _ he)
    obtain ⟨b1, e', b2⟩ := ihb _ es _ _ hb hi' (sim_enter a3.rel)
    have f1 := res_frame K b (enterS (introS (rName K u (rMy K t (enterS s)).2).2))
    have f2 := res_frame (gK gn) b (enterS (introS (rName (gK gn) u (rMy (gK gn) t (enterS g)).2).2))
    rw [leave_enter] at f1 f2
    have k1 : (leaveS (introS (rName K u (rMy K t (enterS s)).2).2)).map bw = s.map bw := by rw [leave_intro, leave_name]; show (leaveS (tellS _ (enterS s))).map bw = _; rw [leave_tell, leave_enter]
    have k2 : (leaveS (introS (rName (gK gn) u (rMy (gK gn) t (enterS g)).2).2)).map bw = g.map bw := by rw [leave_intro, leave_name]; show (leaveS (tellS _ (enterS g))).map bw = _; rw [leave_tell, leave_enter]
    have d1 := sim_leave a3.rel b2.rel f1 f2
    have m1 := (leave_cong f1).trans k1
    have m2 := (leave_cong f2).trans k2
    have h5 := h.of_bw (sim_leave h.rel d1 m1 m2) m1 m2
    obtain ⟨c1, c2⟩ := ih e es _ _ hr hi (intro_none h5)
    simp only [res]
    exact ⟨by rw [a1, a2, b1, c1], c2⟩
  | cond t u b r ihb ih =>
    intro e es s g ⟨⟨h1, h2⟩, hf, hb, hr⟩ hi h
    obtain ⟨a1, a2, a3⟩ := sim_tu (gn := gn) (t := t) hi (sim_enter h.rel) h1 h2 hf
    have hi' : ∀ e' ∈ e.upd (K.t t) t.id :: es, Inj e' := fun e' he => by
      rcases List.mem_cons.mp he with rfl | he
      · exact (hi e (.head _)).upd hf
      · exact hi e' (.tail _ he)
    obtain ⟨b1, e', b2⟩ := ihb _ es _ _ hb hi' (sim_enter a3.rel)
    have f1 := res_frame K b (enterS (introS (rName K u (rMy K t (enterS s)).2).2))
    have f2 := res_frame (gK gn) b (enterS (introS (rName (gK gn) u (rMy (gK gn) t (enterS g)).2).2))
    rw [leave_enter] at f1 f2
    have k1 : (leaveS (introS (rName K u (rMy K t (enterS s)).2).2)).map bw = s.map bw := by rw [leave_intro, leave_name]; show (leaveS (tellS _ (enterS s))).map bw = _; rw [leave_tell, leave_enter]
    have k2 : (leaveS (introS (rName (gK gn) u (rMy (gK gn) t (enterS g)).2).2)).map bw = g.map bw := by rw [leave_intro, leave_name]; show (leaveS (tellS _ (enterS g))).map bw = _; rw [leave_tell, leave_enter]
    have d1 := sim_leave a3.rel b2.rel f1 f2
    have m1 := (leave_cong f1).trans k1
    have m2 := (leave_cong f2).trans k2
    have h5 := h.of_bw (sim_leave h.rel d1 m1 m2) m1 m2
    obtain ⟨c1, c2⟩ := ih e es _ _ hr hi (intro_none h5)
    simp only [res]
    exact ⟨by rw [a1, a2, b1, c1], c2⟩
end
end
section
/-- the seven counts -/
structure V where
  ms : Int
  ma : Int
  ps : Int
  pa : Int
  gs : Int
  ga : Int
  sd : Int
noncomputable def f7 (v : V) : FS := [("mys", v.ms), ("mya", v.ma), ("pads", v.ps), ("pada", v.pa), ("globs", v.gs), ("globa", v.ga), ("subdef", v.sd)]
noncomputable def nT : B → Nat
  | .nil => 0
  | .asg _ _ r => 1 + nT r
  | .two _ _ r => nT r
  | .bare b r => nT b + nT r
  | .sub b r => nT b + nT r
  | .each _ _ b r => 1 + nT b + nT r
  | .cond _ _ b r => 1 + nT b + nT r
noncomputable def isTo (u : U) : Nat := if u.id.isSome then 1 else 0
noncomputable def isO (u : U) : Nat := if u.id.isSome then 0 else 1
noncomputable def nU : B → Nat
  | .nil => 0
  | .asg _ u r => isTo u + nU r
  | .two u v r => isTo u + isTo v + nU r
  | .bare b r => nU b + nU r
  | .sub b r => nU b + nU r
  | .each _ u b r => isTo u + nU b + nU r
  | .cond _ u b r => isTo u + nU b + nU r
noncomputable def nO : B → Nat
  | .nil => 0
  | .asg _ u r => isO u + nO r
  | .two u v r => isO u + isO v + nO r
  | .bare b r => nO b + nO r
  | .sub b r => nO b + nO r
  | .each _ u b r => isO u + nO b + nO r
  | .cond _ u b r => isO u + nO b + nO r
section
variable {κ : Type} [DecidableEq κ]
set_option linter.unusedSectionVars false
noncomputable def Phi : List (Sc κ) → Int
  | [] => 0
  | q :: r => ((q.size : Int) - q.caps.length) + Phi r
theorem Phi_find (sig : Bool) (k : κ) : ∀ s : List (Sc κ), Phi (find sig k s).2 = Phi s := by
  intro s
  induction s with
  | nil => rfl
  | cons q s ih =>
    cases hh : q.here k with
    | some i => rw [find_here hh]
    | none =>
      rcases hf : find sig k s with ⟨_ | pl, r'⟩
      · rw [find_none hh hf]; rw [hf] at ih; simp only [Phi]; rw [← ih]
      · rw [find_some hh hf]; rw [hf] at ih; simp only [Phi]; rw [← ih]
        simp only [List.length_append, List.length_cons, List.length_nil]; (first | lia | omega)
theorem Phi_name (K : Kf κ) (u : U) (s : List (Sc κ)) : Phi (rName K u s).2 = Phi s := by
  have := Phi_find u.sig (K.u u) s
  unfold rName
  rcases h : find u.sig (K.u u) s with ⟨_ | n, s'⟩ <;> rw [h] at this <;> exact this
theorem Phi_enter (s : List (Sc κ)) : Phi (enterS s) = Phi s := by cases s <;> rfl
theorem Phi_leave (s : List (Sc κ)) : Phi (leaveS s) = Phi s := by cases s <;> rfl
theorem Phi_intro (s : List (Sc κ)) : Phi (introS s) = Phi s := by
  cases s with
  | nil => rfl
  | cons q s =>
    obtain ⟨caps, capB, blocks, waits, size⟩ := q
    cases blocks <;> cases waits <;> rfl
theorem Phi_tell (k : κ) {s : List (Sc κ)} (h : topW s = some []) : Phi (tellS k s) = Phi s + 1 := by
  cases s with
  | nil => cases h
  | cons q s => simp only [tellS, Phi]; (first | lia | omega)
end
/-- what the list of trees adds -/
noncomputable def Cn (nt nu no : Nat) (l : List D) (p p' : Int) : Prop := ∀ v, ∃ v', talL l (f7 v) = f7 v' ∧ v'.ms + v'.ma = v.ms + v.ma + nt ∧ v'.ps + v'.pa = v.ps + v.pa + nu ∧ v'.gs + v'.ga = v.gs + v.ga + no ∧ v'.sd + p' = v.sd + p + nt
theorem Cn.nil {p : Int} : Cn 0 0 0 [] p p := fun v => ⟨v, rfl, by simp, by simp, by simp, by simp⟩
theorem Cn.app {a1 a2 a3 b1 b2 b3 : Nat} {l r : List D} {p q s : Int} (h : Cn a1 a2 a3 l p q) (h' : Cn b1 b2 b3 r q s) : Cn (a1 + b1) (a2 + b2) (a3 + b3) (l ++ r) p s := fun v => by
  obtain ⟨v1, e1, c1, c2, c3, c4⟩ := h v
  obtain ⟨v2, e2, d1, d2, d3, d4⟩ := h' v1
  have app : ∀ (l r : List D) f, talL (l ++ r) f = talL r (talL l f) := by
    intro l
    induction l with
    | nil => intro r f; rfl
    | cons x l ih => intro r f; simp only [List.cons_append, talL, ih]
  refine ⟨v2, by rw [app, e1, e2], ?_, ?_, ?_, ?_⟩ <;> (push_cast; (first | lia | omega))
theorem Cn.cons {a1 a2 a3 b1 b2 b3 : Nat} {d : D} {r : List D} {p q s : Int} (h : Cn a1 a2 a3 [d] p q) (h' : Cn b1 b2 b3 r q s) : Cn (a1 + b1) (a2 + b2) (a3 + b3) (d :: r) p s := h.app h'
/-- a node around the parts, that is not counted -/
theorem tal_node {wd : Str} {l : List D} {v : V} (h : ∀ v, lk (f7 v) wd = none) (h' : ∃ v', talL l (f7 v) = f7 v') : tal (.tup (.str wd :: l)) (f7 v) = talL l (f7 v) := by
  obtain ⟨v', e⟩ := h'
  unfold tal
  rw [show talL (.str wd :: l) (f7 v) = talL l (f7 v) by rw [talL]; unfold tal; rfl, e]
  exact talT_none (h v')
theorem Cn.node {a1 a2 a3 : Nat} {wd : Str} {l : List D} {p q : Int} (h : Cn a1 a2 a3 l p q) (hw : ∀ v, lk (f7 v) wd = none) : Cn a1 a2 a3 [.tup (.str wd :: l)] p q := fun v => by
  obtain ⟨v1, e1, c⟩ := h v
  refine ⟨v1, ?_, c⟩
  rw [talL, tal_node hw ⟨v1, e1⟩, e1]; rfl
theorem Cn.lst {a1 a2 a3 : Nat} {l : List D} {p q : Int} (h : Cn a1 a2 a3 l p q) : Cn a1 a2 a3 [.lst l] p q := fun v => by
  obtain ⟨v1, e1, c⟩ := h v
  exact ⟨v1, by rw [talL]; unfold tal; rw [e1]; rfl, c⟩
theorem Cn.arm {a1 a2 a3 : Nat} {x : List D} {l : List D} {p q : Int} (h : Cn a1 a2 a3 (.tup x :: l) p q) : Cn a1 a2 a3 [.tup (.tup x :: l)] p q := fun v => by
  obtain ⟨v1, e1, c⟩ := h v
  exact ⟨v1, by rw [talL]; unfold tal; rw [e1]; rfl, c⟩
theorem Cn.int {i : Int} {p : Int} : Cn 0 0 0 [.int i] p p := fun v => ⟨v, by simp only [talL, tal], by simp, by simp, by simp, by simp⟩
theorem Cn.str {i : Str} {p : Int} : Cn 0 0 0 [.str i] p p := fun v => ⟨v, by simp only [talL, tal], by simp, by simp, by simp, by simp⟩
theorem Cn.none {p : Int} : Cn 0 0 0 [.none] p p := fun v => ⟨v, by simp only [talL, tal], by simp, by simp, by simp, by simp⟩
theorem Cn.my {sig : Bool} {n : Nat} {p : Int} : Cn 1 0 0 [myR sig n] p (p + 1) := fun v => by
  cases sig
  · exact ⟨{ v with ms := v.ms + 1 }, by rfl, by simp; (first | lia | omega), by simp, by simp, by simp; (first | lia | omega)⟩
  · exact ⟨{ v with ma := v.ma + 1 }, by rfl, by simp; (first | lia | omega), by simp, by simp, by simp; (first | lia | omega)⟩
theorem Cn.pad {sig : Bool} {n : Nat} {p : Int} : Cn 0 1 0 [padR sig n] p p := fun v => by
  cases sig
  · exact ⟨{ v with ps := v.ps + 1 }, by rfl, by simp, by simp; (first | lia | omega), by simp, by simp⟩
  · exact ⟨{ v with pa := v.pa + 1 }, by rfl, by simp, by simp; (first | lia | omega), by simp, by simp⟩
theorem Cn.glob {sig : Bool} {n : Str} {p : Int} : Cn 0 0 1 [globR sig n] p p := fun v => by
  cases sig
  · exact ⟨{ v with gs := v.gs + 1 }, by rfl, by simp, by simp, by simp; (first | lia | omega), by simp⟩
  · exact ⟨{ v with ga := v.ga + 1 }, by rfl, by simp, by simp, by simp; (first | lia | omega), by simp⟩
theorem tal_caps (c : List (Nat × Nat × Bool)) (f : FS) : talL (c.map capD) f = f := by
  induction c with
  | nil => rfl
  | cons x c ih =>
    rw [List.map_cons, talL]
    rw [show tal (capD x) f = f by unfold capD tal; simp only [talL, tal]; rfl]
    exact ih
theorem Cn.sub {a1 a2 a3 : Nat} {l : List D} {p q q' : Int} {size : Nat} {c : List (Nat × Nat × Bool)} (h : Cn a1 a2 a3 l p q) (hq : q = ((size : Int) - c.length) + q') : Cn a1 a2 a3 [.tup [.str "subdef", .str "", blockD l, .int size, .lst (c.map capD)]] p q' := fun v => by
  obtain ⟨v1, e1, c1, c2, c3, c4⟩ := (Cn.node (Cn.lst h) (wd := "block") (fun v => by rfl)) v
  refine ⟨{ v1 with sd := v1.sd + (size - c.length) }, ?_, c1, c2, c3, by simp; (first | lia | omega)⟩
  rw [talL, show talL [] = id from rfl]
  unfold tal
  rw [show talL [.str "subdef", .str "", blockD l, .int size, .lst (c.map capD)] (f7 v) = f7 v1 by
    simp only [talL, tal] at e1 ⊢
    rw [tal_caps]
    simpa only [blockD, tal, talL] using e1]
  show talT _ (f7 v1) = _
  rw [talT_some (n := v1.sd) (by rfl)]
  rw [show incT (Str.ofString "subdef") (.str (Str.ofString "subdef") :: [.str "", blockD l, .int size, .lst (c.map capD)]) = size - (c.map capD).length from if_pos rfl, List.length_map]
  rfl
end
section
section
variable {κ : Type} [DecidableEq κ]
set_option linter.unusedSectionVars false
theorem Cn.name {K : Kf κ} {u : U} {es : List (En κ)} {s : List (Sc κ)} {g : List (Sc G)} {p : Int} (hi : ∀ e ∈ es, Inj e) (hR : Rel es s g) (h1 : En.hd es (K.u u) = u.id) : Cn 0 (isTo u) (isO u) [(rName K u s).1] p p := by
  obtain ⟨i1, i2, i3, i4⟩ := sim_find u.sig (K.u u) es s g hi hR
  rw [h1] at i3 i4
  unfold rName
  rcases hf : find u.sig (K.u u) s with ⟨_ | n, s'⟩ <;> rw [hf] at i3 i4
  · cases hu : u.id with
    | none =>
      have e1 : isTo u = 0 := by unfold isTo; rw [hu]; rfl
      have e2 : isO u = 1 := by unfold isO; rw [hu]; rfl
      rw [e1, e2]; exact Cn.glob
    | some i => rw [hu] at i3; exact absurd (i3 rfl) (by simp)
  · cases hu : u.id with
    | none => exact absurd (i4 hu) (by simp)
    | some i =>
      have e1 : isTo u = 1 := by unfold isTo; rw [hu]; rfl
      have e2 : isO u = 0 := by unfold isO; rw [hu]; rfl
      rw [e1, e2]; exact Cn.pad
theorem Cn.eq {a1 a2 a3 b1 b2 b3 : Nat} {l : List D} {p q p' q' : Int} (h : Cn a1 a2 a3 l p q) (h1 : a1 = b1) (h2 : a2 = b2) (h3 : a3 = b3) (h4 : p = p') (h5 : q = q') : Cn b1 b2 b3 l p' q' := by subst h1 h2 h3 h4 h5; exact h
theorem simC {K : Kf κ} {gn : U → Str} : ∀ (b : B) (e : En κ) (es : List (En κ)) (s : List (Sc κ)) (g : List (Sc G)), TyE K gn b e → (∀ e' ∈ e :: es, Inj e') → At0 (e :: es) s g →
    Cn (nT b) (nU b) (nO b) (res K b s).1 (Phi s) (Phi (res K b s).2) := by
  intro b
  induction b with
  | nil => intro e es s g _ _ h; exact Cn.nil
  | asg t u r ih =>
    intro e es s g ⟨⟨h1, h2⟩, hf, hr⟩ hi h
    obtain ⟨a1, a2, a3⟩ := sim_tu (gn := gn) (t := t) hi h h1 h2 hf
    have b1 := ih _ es _ _ hr (fun e' he => by
      rcases List.mem_cons.mp he with rfl | he
      · exact (hi e (.head _)).upd hf
      · exact hi e' (.tail _ he)) a3
    have cn := Cn.name (K := K) (u := u) (p := Phi s + 1) hi (sim_tell (k := K.t t) (i := t.id) h).2.1 h1
    simp only [res]
    refine (Cn.cons (d := asgD _ _) (Cn.node (Cn.cons (Cn.int (i := 1)) (Cn.node (Cn.cons (Cn.my (sig := t.sig) (n := sizeS s) (p := Phi s)) cn) (wd := "assign") (fun v => by rfl))) (wd := "expr") (fun v => by rfl)) (b1.eq rfl rfl rfl ?_ rfl)).eq ?_ ?_ ?_ rfl rfl
    · rw [Phi_intro, Phi_name]; exact Phi_tell _ h.w
    · (simp only [nT]; first | done | (first | lia | omega))
    · (simp only [nU]; first | done | (first | lia | omega))
    · (simp only [nO]; first | done | (first | lia | omega))
  | two u v r ih =>
    intro e es s g ⟨⟨h1, h2⟩, ⟨h3, h4⟩, hr⟩ hi h
    obtain ⟨a1, a2⟩ := sim_name (gn := gn) (u := u) hi h.rel h1 h2
    obtain ⟨b1, b2⟩ := sim_name (gn := gn) (u := v) hi a2 h3 h4
    have h5 := h.of_bw b2 ((rName_bw K v _).trans (rName_bw K u s)) ((rName_bw (gK gn) v _).trans (rName_bw (gK gn) u g))
    have c1 := ih e es _ _ hr hi (intro_none h5)
    have cu := Cn.name (K := K) (u := u) (p := Phi s) hi h.rel h1
    have cv := Cn.name (K := K) (u := v) (p := Phi s) hi a2 h3
    simp only [res]
    refine (Cn.cons (d := twoD _ _) (Cn.node (Cn.cons (Cn.int (i := 1)) (Cn.node (Cn.lst (Cn.cons cu cv)) (wd := "list") (fun v => by rfl))) (wd := "expr") (fun v => by rfl)) (c1.eq rfl rfl rfl ?_ rfl)).eq ?_ ?_ ?_ rfl rfl
    · rw [Phi_intro, Phi_name, Phi_name]
    · (simp only [nT]; first | done | (first | lia | omega))
    · (simp only [nU]; first | done | (first | lia | omega))
    · (simp only [nO]; first | done | (first | lia | omega))
  | bare b r ihb ih =>
    intro e es s g ⟨hb, hr⟩ hi h
    obtain ⟨a1, e', a2⟩ := sim (gn := gn) b e es _ _ hb hi (sim_enter h.rel)
    have ca := ihb e es _ _ hb hi (sim_enter h.rel)
    have f1 := res_frame K b (enterS s)
    have f2 := res_frame (gK gn) b (enterS g)
    rw [leave_enter] at f1 f2
    have h5 := h.of_bw (sim_leave h.rel a2.rel f1 f2) f1 f2
    have c1 := ih e es _ _ hr hi (intro_none h5)
    simp only [res]
    refine (Cn.cons (d := bareD _) (Cn.node (Cn.cons (Cn.str (i := "")) (Cn.node (Cn.lst (ca.eq rfl rfl rfl (Phi_enter s) rfl)) (wd := "block") (fun v => by rfl))) (wd := "bare") (fun v => by rfl)) (c1.eq rfl rfl rfl ?_ rfl)).eq ?_ ?_ ?_ rfl rfl
    · rw [Phi_intro, Phi_leave]
    · (simp only [nT]; first | done | (first | lia | omega))
    · (simp only [nU]; first | done | (first | lia | omega))
    · (simp only [nO]; first | done | (first | lia | omega))
  | sub b r ihb ih =>
    intro e es s g ⟨hb, hr⟩ hi h
    have hnew : Rel (e :: e :: es) (newSc :: s) (newSc :: g) := ⟨⟨fun _ _ _ => rfl, fun _ _ => rfl, fun _ _ => rfl, rfl⟩, ⟨rfl, rfl, fun _ _ _ => rfl, fun _ _ => rfl, rfl⟩, h.rel⟩
    have hi2 : ∀ e' ∈ e :: e :: es, Inj e' := fun e' he => by
      rcases List.mem_cons.mp he with rfl | he
      · exact hi _ (.head _)
      · exact hi e' he
    obtain ⟨a1, e', a2⟩ := sim (gn := gn) b e (e :: es) _ _ hb hi2 (sim_enter hnew)
    have ca := ihb e (e :: es) _ _ hb hi2 (sim_enter hnew)
    have f1 := res_frame K b (enterS (newSc :: s))
    have f2 := res_frame (gK gn) b (enterS (newSc :: g))
    rw [leave_enter] at f1 f2
    have hl := sim_leave hnew a2.rel f1 f2
    have ep : Phi (enterS (newSc :: s)) = Phi s := by rw [Phi_enter]; simp [Phi, newSc]
    have eq : Phi (res K b (enterS (newSc :: s))).2 = Phi (leaveS (res K b (enterS (newSc :: s))).2) := (Phi_leave _).symm
    rw [ep, eq] at ca
    simp only [res]
    generalize leaveS (res K b (enterS (newSc :: s))).2 = y at *
    generalize leaveS (res (gK gn) b (enterS (newSc :: g))).2 = y' at *
    cases y with
    | nil => cases y' <;> exact hl.elim
    | cons q y =>
    cases y' with
    | nil => exact hl.elim
    | cons q' y' =>
      obtain ⟨l1, l2, l3⟩ := hl
      have h5 := h.of_bw l3 (map_tail_bw f1) (map_tail_bw f2)
      have c1 := ih e es _ _ hr hi (intro_none h5)
      have cs := Cn.sub (size := q.size) (c := q.caps) (q' := Phi y) ca rfl
      simp only [List.tail_cons, sizeS]
      refine (Cn.cons (d := subD _ _ _) (Cn.node (Cn.cons (Cn.int (i := 1)) (Cn.node cs (wd := "anonsub") (fun v => by rfl))) (wd := "expr") (fun v => by rfl)) (c1.eq rfl rfl rfl ?_ rfl)).eq ?_ ?_ ?_ rfl rfl
      · rw [Phi_intro]
      · (simp only [nT]; first | done | (first | lia | omega))
      · (simp only [nU]; first | done | (first | lia | omega))
      · (simp only [nO]; first | done | (first | lia | omega))
  | each t u b r ihb ih =>
    intro e es s g ⟨⟨h1, h2⟩, hf, hb, hr⟩ hi h
    have hen := sim_enter h.rel
    obtain ⟨a1, a2, a3⟩ := sim_tu (gn := gn) (t := t) hi hen h1 h2 hf
    have cn := Cn.name (K := K) (u := u) (p := Phi s + 1) hi (sim_tell (k := K.t t) (i := t.id) hen).2.1 h1
    have hi' : ∀ e' ∈ e.upd (K.t t) t.id :: es, Inj e' := fun e' he => by
      rcases List.mem_cons.mp he with rfl | he
      · exact (hi e (.head _)).upd hf
      · exact hi e' (.tail _ he)
    obtain ⟨b1, e', b2⟩ := sim (gn := gn) b _ es _ _ hb hi' (sim_enter a3.rel)
    have ca := ihb _ es _ _ hb hi' (sim_enter a3.rel)
    have f1 := res_frame K b (enterS (introS (rName K u (rMy K t (enterS s)).2).2))
    have f2 := res_frame (gK gn) b (enterS (introS (rName (gK gn) u (rMy (gK gn) t (enterS g)).2).2))
    rw [leave_enter] at f1 f2
    have k1 : (leaveS (introS (rName K u (rMy K t (enterS s)).2).2)).map bw = s.map bw := by rw [leave_intro, leave_name]; show (leaveS (tellS _ (enterS s))).map bw = _; rw [leave_tell, leave_enter]
    have k2 : (leaveS (introS (rName (gK gn) u (rMy (gK gn) t (enterS g)).2).2)).map bw = g.map bw := by rw [leave_intro, leave_name]; show (leaveS (tellS _ (enterS g))).map bw = _; rw [leave_tell, leave_enter]
    have d1 := sim_leave a3.rel b2.rel f1 f2
    have m1 := (leave_cong f1).trans k1
    have m2 := (leave_cong f2).trans k2
    have h5 := h.of_bw (sim_leave h.rel d1 m1 m2) m1 m2
    have c1 := ih e es _ _ hr hi (intro_none h5)
    have ep : Phi (enterS (introS (rName K u (rMy K t (enterS s)).2).2)) = Phi s + 1 := by
      rw [Phi_enter, Phi_intro, Phi_name]
      show Phi (tellS _ (enterS s)) = _
      rw [Phi_tell _ hen.w, Phi_enter]
    rw [ep] at ca
    simp only [res]
    have cm := Cn.my (sig := t.sig) (n := sizeS (enterS s)) (p := Phi s)
    refine (Cn.cons (d := eachD _ _ _) (Cn.node (Cn.cons (Cn.str (i := "")) (Cn.cons cm (Cn.cons cn (Cn.node (Cn.lst ca) (wd := "block") (fun v => by rfl))))) (wd := "foreach") (fun v => by rfl)) (c1.eq rfl rfl rfl ?_ rfl)).eq ?_ ?_ ?_ rfl rfl
    · rw [Phi_intro, Phi_leave, Phi_leave]
    · (simp only [nT]; first | done | (first | lia | omega))
    · (simp only [nU]; first | done | (first | lia | omega))
    · (simp only [nO]; first | done | (first | lia | omega))
  | cond t u b r ihb ih =>
    intro e es s g ⟨⟨h1, h2⟩, hf, hb, hr⟩ hi h
    have hen := sim_enter h.rel
    obtain ⟨a1, a2, a3⟩ := sim_tu (gn := gn) (t := t) hi hen h1 h2 hf
    have cn := Cn.name (K := K) (u := u) (p := Phi s + 1) hi (sim_tell (k := K.t t) (i := t.id) hen).2.1 h1
    have hi' : ∀ e' ∈ e.upd (K.t t) t.id :: es, Inj e' := fun e' he => by
      rcases List.mem_cons.mp he with rfl | he
      · exact (hi e (.head _)).upd hf
      · exact hi e' (.tail _ he)
    obtain ⟨b1, e', b2⟩ := sim (gn := gn) b _ es _ _ hb hi' (sim_enter a3.rel)
    have ca := ihb _ es _ _ hb hi' (sim_enter a3.rel)
    have f1 := res_frame K b (enterS (introS (rName K u (rMy K t (enterS s)).2).2))
    have f2 := res_frame (gK gn) b (enterS (introS (rName (gK gn) u (rMy (gK gn) t (enterS g)).2).2))
    rw [leave_enter] at f1 f2
    have k1 : (leaveS (introS (rName K u (rMy K t (enterS s)).2).2)).map bw = s.map bw := by rw [leave_intro, leave_name]; show (leaveS (tellS _ (enterS s))).map bw = _; rw [leave_tell, leave_enter]
    have k2 : (leaveS (introS (rName (gK gn) u (rMy (gK gn) t (enterS g)).2).2)).map bw = g.map bw := by rw [leave_intro, leave_name]; show (leaveS (tellS _ (enterS g))).map bw = _; rw [leave_tell, leave_enter]
    have d1 := sim_leave a3.rel b2.rel f1 f2
    have m1 := (leave_cong f1).trans k1
    have m2 := (leave_cong f2).trans k2
    have h5 := h.of_bw (sim_leave h.rel d1 m1 m2) m1 m2
    have c1 := ih e es _ _ hr hi (intro_none h5)
    have ep : Phi (enterS (introS (rName K u (rMy K t (enterS s)).2).2)) = Phi s + 1 := by
      rw [Phi_enter, Phi_intro, Phi_name]
      show Phi (tellS _ (enterS s)) = _
      rw [Phi_tell _ hen.w, Phi_enter]
    rw [ep] at ca
    simp only [res]
    have cm := Cn.my (sig := t.sig) (n := sizeS (enterS s)) (p := Phi s)
    refine (Cn.cons (d := condD _ _ _) (Cn.node (Cn.cons (Cn.lst (Cn.arm (Cn.cons (Cn.node (Cn.cons cm cn) (wd := "assign") (fun v => by rfl)) (Cn.node (Cn.lst ca) (wd := "block") (fun v => by rfl))))) Cn.none) (wd := "if") (fun v => by rfl)) (c1.eq rfl rfl rfl ?_ rfl)).eq ?_ ?_ ?_ rfl rfl
    · rw [Phi_intro, Phi_leave, Phi_leave]
    · (simp only [nT]; first | done | (first | lia | omega))
    · (simp only [nU]; first | done | (first | lia | omega))
    · (simp only [nO]; first | done | (first | lia | omega))
end
end
/-- the builder's rows: numbers, what the uses see, depth and lengths -/
noncomputable def UOk (u : U) (s : Seen) : Prop := u.id = lk s (keyOf u.sig u.nm) ∧ u.nm < 3
noncomputable def TOk0 (t : T) (n : Nat) : Prop := t.id = n + 1 ∧ t.nm < 3 ∧ t.id ≤ 16
noncomputable def len : B → Nat
  | .nil => 0
  | .asg _ _ r => len r + 1
  | .two _ _ r => len r + 1
  | .bare _ r => len r + 1
  | .sub _ r => len r + 1
  | .each _ _ _ r => len r + 1
  | .cond _ _ _ r => len r + 1
noncomputable def Ty0 : B → Seen → Nat → Nat → Prop
  | .nil, _, _, _ => True
  | .asg t u r, s, n, d => UOk u s ∧ TOk0 t n ∧ Ty0 r (put s (tkey t) t.id) (n + 1) d
  | .two u v r, s, n, d => UOk u s ∧ UOk v s ∧ Ty0 r s n d
  | .bare b r, s, n, d => ∃ k, d = k + 1 ∧ len b ≤ 5 ∧ Ty0 b s n k ∧ Ty0 r s (n + nT b) d
  | .sub b r, s, n, d => ∃ k, d = k + 1 ∧ len b ≤ 5 ∧ Ty0 b s n k ∧ Ty0 r s (n + nT b) d
  | .each t u b r, s, n, d => ∃ k, d = k + 1 ∧ UOk u s ∧ TOk0 t n ∧ len b ≤ 5 ∧ Ty0 b (put s (tkey t) t.id) (n + 1) k ∧ Ty0 r s (n + 1 + nT b) d
  | .cond t u b r, s, n, d => ∃ k, d = k + 1 ∧ UOk u s ∧ TOk0 t n ∧ len b ≤ 5 ∧ Ty0 b (put s (tkey t) t.id) (n + 1) k ∧ Ty0 r s (n + 1 + nT b) d
/-- what holds of a piece that the builder gives -/
structure Post (x : B × BS) (s : Seen) (b : BS) (d : Nat) : Prop where
  ty : Ty0 x.1 s b.fresh d
  fr : x.2.fresh = b.fresh + nT x.1
  to : x.2.told = b.told + nU x.1
  op : x.2.opn = b.opn + nO x.1
  le : x.2.fresh + x.2.left ≤ b.fresh + b.left
theorem use_post (is : List Int) (s : Seen) (b : BS) : UOk (bUse is s b).1 s ∧ (bUse is s b).2.fresh = b.fresh ∧ (bUse is s b).2.left = b.left ∧ (bUse is s b).2.told = b.told + isTo (bUse is s b).1 ∧ (bUse is s b).2.opn = b.opn + isO (bUse is s b).1 := by
  have hr := draw_range is (b.at_ + 1) (n := 3) (by decide)
  refine ⟨⟨rfl, ?_⟩, rfl, rfl, ?_, ?_⟩
  · show (draw is (b.at_ + 1) 3).toNat < 3; (first | lia | omega)
  · unfold bUse isTo; dsimp only; split <;> simp
  · unfold bUse isO; dsimp only; split <;> simp
theorem tell_post (is : List Int) (b : BS) (h : b.fresh + b.left ≤ 16) (h0 : 1 ≤ b.left + 1) (h1 : b.fresh + 1 ≤ 16) : TOk0 (bTell is b).1 b.fresh := by
  have hr := draw_range is (b.at_ + 1) (n := 3) (by decide)
  exact ⟨rfl, by show (draw is (b.at_ + 1) 3).toNat < 3; (first | lia | omega), h1⟩
theorem turn_post {is : List Int} {deep : Bool} {inner : Seen → BS → B × BS} {d : Nat} (hd : deep = true → ∃ k, d = k + 1 ∧ ∀ s b, b.fresh + b.left ≤ 16 → Post (inner s b) s b k ∧ len (inner s b).1 ≤ 5) {s : Seen} {b : BS} (h0 : b.left ≠ 0) (h : b.fresh + b.left ≤ 16) :
    (bTurn is deep inner s b).2.1.fresh + (bTurn is deep inner s b).2.1.left ≤ b.fresh + b.left ∧ ∀ r : B × BS, Post r (bTurn is deep inner s b).2.2 (bTurn is deep inner s b).2.1 d → Post ((bTurn is deep inner s b).1 r.1, r.2) s b d ∧ len ((bTurn is deep inner s b).1 r.1) = len r.1 + 1 := by
  unfold bTurn
  dsimp only
  have hway : deep = false → draw is b.at_ (if deep = true then 6 else 2) = 0 ∨ draw is b.at_ (if deep = true then 6 else 2) = 1 := fun e => by
    subst e
    have := draw_range is b.at_ (n := 2) (by decide)
    show draw is b.at_ 2 = 0 ∨ draw is b.at_ 2 = 1; (first | lia | omega)
  generalize draw is b.at_ (if deep = true then 6 else 2) = way at *
  have hb1 : ({ b with left := b.left - 1, at_ := b.at_ + 1 } : BS).fresh + ({ b with left := b.left - 1, at_ := b.at_ + 1 } : BS).left ≤ 16 := by dsimp only; (first | lia | omega)
  have hb1l : ({ b with left := b.left - 1, at_ := b.at_ + 1 } : BS).left = b.left - 1 := rfl
  have hb1f : ({ b with left := b.left - 1, at_ := b.at_ + 1 } : BS).fresh = b.fresh := rfl
  have hb1t : ({ b with left := b.left - 1, at_ := b.at_ + 1 } : BS).told = b.told := rfl
  have hb1o : ({ b with left := b.left - 1, at_ := b.at_ + 1 } : BS).opn = b.opn := rfl
  generalize ({ b with left := b.left - 1, at_ := b.at_ + 1 } : BS) = b1 at *
  split
  · -- assign
    have ht := tell_post is b1 hb1 (by (first | lia | omega)) (by (first | lia | omega))
    obtain ⟨u1, u2, u3, u4, u5⟩ := use_post is s (bTell is b1).2
    have e1 : (bTell is b1).2.fresh = b1.fresh + 1 := rfl
    have e2 : (bTell is b1).2.left = b1.left := rfl
    have e3 : (bTell is b1).2.told = b1.told := rfl
    have e4 : (bTell is b1).2.opn = b1.opn := rfl
    refine ⟨by dsimp only; (first | lia | omega), fun r p => ⟨⟨?_, ?_, ?_, ?_, ?_⟩, rfl⟩⟩
    · refine ⟨u1, ?_, ?_⟩
      · rw [← hb1f]; exact ht
      · have := p.ty; dsimp only at this; rw [u2, e1, hb1f] at this; exact this
    · have := p.fr; simp only [nT] at *; (first | lia | omega)
    · have := p.to; simp only [nU] at *; (first | lia | omega)
    · have := p.op; simp only [nO] at *; (first | lia | omega)
    · have := p.le; dsimp only at *; (first | lia | omega)
  · rename_i w0
    split
    · obtain ⟨u1, u2, u3, u4, u5⟩ := use_post is s b1
      obtain ⟨v1, v2, v3, v4, v5⟩ := use_post is s (bUse is s b1).2
      refine ⟨by dsimp only; (first | lia | omega), fun r p => ⟨⟨?_, ?_, ?_, ?_, ?_⟩, rfl⟩⟩
      · refine ⟨u1, v1, ?_⟩
        have := p.ty; dsimp only at this; rw [v2, u2, hb1f] at this; exact this
      · have := p.fr; simp only [nT] at *; (first | lia | omega)
      · have := p.to; simp only [nU] at *; (first | lia | omega)
      · have := p.op; simp only [nO] at *; (first | lia | omega)
      · have := p.le; dsimp only at *; (first | lia | omega)
    · rename_i w1
      obtain ⟨k, rfl, hin⟩ := hd (by cases deep with | true => rfl | false => exact ((hway rfl).elim w0 w1).elim)
      split
      · obtain ⟨q, ql⟩ := hin s b1 hb1
        have q1 := q.fr; have q2 := q.to; have q3 := q.op; have q4 := q.le
        refine ⟨by dsimp only; (first | lia | omega), fun r p => ⟨⟨?_, ?_, ?_, ?_, ?_⟩, rfl⟩⟩
        · refine ⟨k, rfl, ql, ?_, ?_⟩
          · rw [← hb1f]; exact q.ty
          · have := p.ty; dsimp only at this; rw [q1, hb1f] at this; exact this
        · have := p.fr; simp only [nT] at *; (first | lia | omega)
        · have := p.to; simp only [nU] at *; (first | lia | omega)
        · have := p.op; simp only [nO] at *; (first | lia | omega)
        · have := p.le; dsimp only at *; (first | lia | omega)
      · split
        · obtain ⟨q, ql⟩ := hin s b1 hb1
          have q1 := q.fr; have q2 := q.to; have q3 := q.op; have q4 := q.le
          refine ⟨by dsimp only; (first | lia | omega), fun r p => ⟨⟨?_, ?_, ?_, ?_, ?_⟩, rfl⟩⟩
          · refine ⟨k, rfl, ql, ?_, ?_⟩
            · rw [← hb1f]; exact q.ty
            · have := p.ty; dsimp only at this; rw [q1, hb1f] at this; exact this
          · have := p.fr; simp only [nT] at *; (first | lia | omega)
          · have := p.to; simp only [nU] at *; (first | lia | omega)
          · have := p.op; simp only [nO] at *; (first | lia | omega)
          · have := p.le; dsimp only at *; (first | lia | omega)
        · have ht := tell_post is b1 hb1 (by (first | lia | omega)) (by (first | lia | omega))
          obtain ⟨u1, u2, u3, u4, u5⟩ := use_post is s (bTell is b1).2
          have e1 : (bTell is b1).2.fresh = b1.fresh + 1 := rfl
          have e2 : (bTell is b1).2.left = b1.left := rfl
          have e3 : (bTell is b1).2.told = b1.told := rfl
          have e4 : (bTell is b1).2.opn = b1.opn := rfl
          obtain ⟨q, ql⟩ := hin (put s (tkey (bTell is b1).1) (bTell is b1).1.id) (bUse is s (bTell is b1).2).2 (by (first | lia | omega))
          have q1 := q.fr; have q2 := q.to; have q3 := q.op; have q4 := q.le
          have q0 := q.ty
          rw [u2, e1, hb1f] at q0
          refine ⟨by dsimp only; (first | lia | omega), fun r p => ?_⟩
          have p0 := p.ty
          dsimp only at p0
          rw [q1, u2, e1, hb1f] at p0
          split
          · refine ⟨⟨⟨k, rfl, u1, by rw [← hb1f]; exact ht, ql, q0, p0⟩, ?_, ?_, ?_, ?_⟩, rfl⟩
            · have := p.fr; simp only [nT] at *; (first | lia | omega)
            · have := p.to; simp only [nU] at *; (first | lia | omega)
            · have := p.op; simp only [nO] at *; (first | lia | omega)
            · have := p.le; dsimp only at *; (first | lia | omega)
          · refine ⟨⟨⟨k, rfl, u1, by rw [← hb1f]; exact ht, ql, q0, p0⟩, ?_, ?_, ?_, ?_⟩, rfl⟩
            · have := p.fr; simp only [nT] at *; (first | lia | omega)
            · have := p.to; simp only [nU] at *; (first | lia | omega)
            · have := p.op; simp only [nO] at *; (first | lia | omega)
            · have := p.le; dsimp only at *; (first | lia | omega)
theorem nil_post (s : Seen) (b : BS) (d : Nat) : Post (.nil, b) s b d := ⟨trivial, by simp [nT], by simp [nU], by simp [nO], Nat.le_refl _⟩
theorem loop_post {is : List Int} {deep : Bool} {inner : Seen → BS → B × BS} {d : Nat} (hd : deep = true → ∃ k, d = k + 1 ∧ ∀ s b, b.fresh + b.left ≤ 16 → Post (inner s b) s b k ∧ len (inner s b).1 ≤ 5) : ∀ (n : Nat) (s : Seen) (b : BS), b.fresh + b.left ≤ 16 →
    Post (bLoop is deep inner n s b) s b d ∧ len (bLoop is deep inner n s b).1 ≤ n := by
  intro n
  induction n with
  | zero => intro s b _; exact ⟨nil_post s b d, Nat.le_refl _⟩
  | succ n ih =>
    intro s b h
    rw [bLoop]
    split
    · exact ⟨nil_post s b d, Nat.zero_le _⟩
    · rename_i h0
      obtain ⟨h1, h2⟩ := turn_post (is := is) hd (s := s) h0 h
      obtain ⟨p1, p2⟩ := ih (bTurn is deep inner s b).2.2 (bTurn is deep inner s b).2.1 (by (first | lia | omega))
      obtain ⟨q1, q2⟩ := h2 _ p1
      exact ⟨q1, by rw [q2]; (first | lia | omega)⟩
theorem blk_post (is : List Int) : ∀ (d : Nat) (s : Seen) (b : BS), b.fresh + b.left ≤ 16 → Post (blk is d s b) s b d ∧ len (blk is d s b).1 ≤ 5 := by
  intro d
  induction d with
  | zero =>
    intro s b h
    have hr := draw_range is b.at_ (n := 5) (by decide)
    have p := loop_post (is := is) (deep := false) (inner := fun _ b => (.nil, b)) (d := 0) (fun e => by cases e) (1 + draw is b.at_ 5).toNat s { b with at_ := b.at_ + 1 } h
    exact ⟨⟨p.1.ty, p.1.fr, p.1.to, p.1.op, p.1.le⟩, Nat.le_trans p.2 (by (first | lia | omega))⟩
  | succ d ih =>
    intro s b h
    have hr := draw_range is b.at_ (n := 5) (by decide)
    have p := loop_post (is := is) (deep := true) (inner := blk is d) (d := d + 1) (fun _ => ⟨d, rfl, ih⟩) (1 + draw is b.at_ 5).toNat s { b with at_ := b.at_ + 1 } h
    exact ⟨⟨p.1.ty, p.1.fr, p.1.to, p.1.op, p.1.le⟩, Nat.le_trans p.2 (by (first | lia | omega))⟩
theorem gns_len (M : Nm) (b : B) : (gns M b).length = len b := by
  induction b with
  | nil => rfl
  | _ => simp only [gns, len, List.length_cons]; simp [*]
section
section
variable {κ : Type} [DecidableEq κ]
set_option linter.unusedSectionVars false
/-- the outermost scope captures nothing -/
noncomputable def lastC : List (Sc κ) → Prop
  | [] => True
  | [q] => q.caps = []
  | _ :: p :: r => lastC (p :: r)
theorem lastC_tail {q : Sc κ} {s : List (Sc κ)} (h : lastC (q :: s)) : lastC s := by cases s with
  | nil => trivial
  | cons p r => exact h
theorem lastC_cong {q q' : Sc κ} {s : List (Sc κ)} (h : lastC (q :: s)) (e : q'.caps = q.caps) : lastC (q' :: s) := by cases s with
  | nil => exact e.trans h
  | cons p r => exact h
theorem lastC_new {s : List (Sc κ)} (h : lastC s) : lastC (newSc :: s) := by cases s with
  | nil => rfl
  | cons p r => exact h
theorem lastC_find (sig : Bool) (k : κ) : ∀ s : List (Sc κ), lastC s → lastC (find sig k s).2 := by
  intro s
  induction s with
  | nil => intro h; exact h
  | cons q s ih =>
    intro h
    cases hh : q.here k with
    | some i => rw [find_here hh]; exact h
    | none =>
      have ih' := ih (lastC_tail h)
      rcases hf : find sig k s with ⟨_ | pl, r'⟩
      · rw [find_none hh hf]; rw [hf] at ih'
        cases s with
        | nil => cases hf; exact h
        | cons p r =>
          have := find_bw sig k (p :: r)
          rw [hf] at this
          cases r' with
          | nil => cases this
          | cons p' r' => exact ih'
      · rw [find_some hh hf]; rw [hf] at ih'
        cases s with
        | nil => cases hf
        | cons p r =>
          have := find_bw sig k (p :: r)
          rw [hf] at this
          cases r' with
          | nil => cases this
          | cons p' r' => exact ih'
theorem lastC_name (K : Kf κ) (u : U) {s : List (Sc κ)} (h : lastC s) : lastC (rName K u s).2 := by
  have := lastC_find u.sig (K.u u) s h
  unfold rName
  rcases hf : find u.sig (K.u u) s with ⟨_ | n, s'⟩ <;> rw [hf] at this <;> exact this
theorem lastC_enter {s : List (Sc κ)} (h : lastC s) : lastC (enterS s) := by cases s with
  | nil => exact h
  | cons q s => exact lastC_cong h rfl
theorem lastC_leave {s : List (Sc κ)} (h : lastC s) : lastC (leaveS s) := by cases s with
  | nil => exact h
  | cons q s => exact lastC_cong h rfl
theorem lastC_tell (k : κ) {s : List (Sc κ)} (h : lastC s) : lastC (tellS k s) := by cases s with
  | nil => exact h
  | cons q s => exact lastC_cong h rfl
theorem lastC_intro {s : List (Sc κ)} (h : lastC s) : lastC (introS s) := by
  cases s with
  | nil => exact h
  | cons q s =>
    obtain ⟨caps, capB, blocks, waits, size⟩ := q
    cases blocks <;> cases waits <;> exact lastC_cong h rfl
theorem lastC_res (K : Kf κ) : ∀ (b : B) (s : List (Sc κ)), lastC s → lastC (res K b s).2 := by
  intro b
  induction b with
  | nil => intro s h; exact h
  | asg t u r ih => intro s h; exact ih _ (lastC_intro (lastC_name K u (lastC_tell _ h)))
  | two u v r ih => intro s h; exact ih _ (lastC_intro (lastC_name K v (lastC_name K u h)))
  | bare b r ihb ih => intro s h; exact ih _ (lastC_intro (lastC_leave (ihb _ (lastC_enter h))))
  | sub b r ihb ih =>
    intro s h
    refine ih _ (lastC_intro ?_)
    have := lastC_leave (ihb _ (lastC_enter (lastC_new h)))
    show lastC (leaveS (res K b (enterS (newSc :: s))).2).tail
    cases hy : leaveS (res K b (enterS (newSc :: s))).2 with
    | nil => trivial
    | cons q y => rw [hy] at this; exact lastC_tail this
  | each t u b r ihb ih => intro s h; exact ih _ (lastC_intro (lastC_leave (lastC_leave (ihb _ (lastC_enter (lastC_intro (lastC_name K u (lastC_tell _ (lastC_enter h)))))))))
  | cond t u b r ihb ih => intro s h; exact ih _ (lastC_intro (lastC_leave (lastC_leave (ihb _ (lastC_enter (lastC_intro (lastC_name K u (lastC_tell _ (lastC_enter h)))))))))
end
-- the namings
noncomputable def nmLong : Nm := ⟨fun t => lg (nmOf t.nm), fun u => lg (nmOf u.nm)⟩
noncomputable def gOne (u : U) : Str := nmOf u.nm
noncomputable def gLong (u : U) : Str := lg (nmOf u.nm)
/-- the env that knows what the builder saw, with keys by φ -/
noncomputable def EnR (φ : Bool → Nat → Str) (s : Seen) (e : En Str) (n : Nat) : Prop := (∀ sig nm, nm < 3 → e (φ sig nm) = lk s (keyOf sig nm)) ∧ ∀ k i, e k = some i → i ≤ n
theorem EnR.up {φ : Bool → Nat → Str} {s : Seen} {e : En Str} {n m : Nat} (h : EnR φ s e n) (le : n ≤ m) : EnR φ s e m := ⟨h.1, fun k i he => Nat.le_trans (h.2 k i he) le⟩
noncomputable def InjF (φ : Bool → Nat → Str) : Prop := ∀ a b c d, b < 3 → d < 3 → φ a b = φ c d → a = c ∧ b = d
theorem keyOf_inj : InjF keyOf := by
  have : ∀ (a c : Bool) (b d : Fin 3), keyOf a b = keyOf c d → a = c ∧ b = d := by decide +kernel
  intro a b c d hb hd h
  have := this a c ⟨b, hb⟩ ⟨d, hd⟩ h
  exact ⟨this.1, by simpa using this.2⟩
noncomputable def longKey (a : Bool) (b : Nat) : Str := sigS a ++ lg (nmOf b)
theorem longKey_inj : InjF longKey := by
  have : ∀ (a c : Bool) (b d : Fin 3), longKey a b = longKey c d → a = c ∧ b = d := by decide +kernel
  intro a b c d hb hd h
  have := this a c ⟨b, hb⟩ ⟨d, hd⟩ h
  exact ⟨this.1, by simpa using this.2⟩
theorem EnR.upd {φ : Bool → Nat → Str} (hφ : InjF φ) {s : Seen} {e : En Str} {n : Nat} (h : EnR φ s e n) {t : T} (ht : TOk0 t n) : EnR φ (put s (tkey t) t.id) (e.upd (φ t.sig t.nm) t.id) (n + 1) := by
  refine ⟨fun sig nm hnm => ?_, fun k i he => ?_⟩
  · unfold En.upd
    rw [lk_put]
    by_cases e1 : φ sig nm = φ t.sig t.nm
    · obtain ⟨rfl, rfl⟩ := hφ _ _ _ _ hnm ht.2.1 e1
      rw [if_pos rfl, if_pos (show keyOf t.sig t.nm = tkey t from rfl)]
    · rw [if_neg e1, if_neg (fun e2 => e1 ?_)]
      · exact h.1 sig nm hnm
      · obtain ⟨rfl, rfl⟩ := keyOf_inj _ _ _ _ hnm ht.2.1 e2; rfl
  · unfold En.upd at he
    split at he
    · cases he; exact Nat.le_of_eq ht.1
    · exact Nat.le_succ_of_le (h.2 k i he)
theorem EnR.fresh {φ : Bool → Nat → Str} {s : Seen} {e : En Str} {n : Nat} (h : EnR φ s e n) {t : T} (ht : TOk0 t n) : ∀ k, e k ≠ some t.id := fun k he => by
  have := h.2 k _ he; have := ht.1; (first | lia | omega)
theorem tyE_phi {K : Kf Str} {gn : U → Str} {φ : Bool → Nat → Str} (hφ : InjF φ) (hT : ∀ t, K.t t = φ t.sig t.nm) (hU : ∀ u, K.u u = φ u.sig u.nm) (hg : ∀ u, K.g u = gn u) : ∀ (b : B) (s : Seen) (n d : Nat) (e : En Str), Ty0 b s n d → EnR φ s e n → TyE K gn b e := by
  intro b
  have use : ∀ {u : U} {s : Seen} {e : En Str} {n : Nat}, UOk u s → EnR φ s e n → e (K.u u) = u.id ∧ (u.id = none → K.g u = gn u) := fun {u s e n} hu he => ⟨by rw [hU, he.1 _ _ hu.2, hu.1], fun _ => hg u⟩
  induction b with
  | nil => intro s n d e _ _; trivial
  | asg t u r ih => intro s n d e ⟨h1, h2, h3⟩ he; exact ⟨use h1 he, he.fresh h2, by rw [hT]; exact ih _ _ _ _ h3 (he.upd hφ h2)⟩
  | two u v r ih => intro s n d e ⟨h1, h2, h3⟩ he; exact ⟨use h1 he, use h2 he, ih _ _ _ _ h3 he⟩
  | bare b r ihb ih => intro s n d e ⟨k, _, _, h1, h2⟩ he; exact ⟨ihb _ _ _ _ h1 he, ih _ _ _ _ h2 (he.up (by (first | lia | omega)))⟩
  | sub b r ihb ih => intro s n d e ⟨k, _, _, h1, h2⟩ he; exact ⟨ihb _ _ _ _ h1 he, ih _ _ _ _ h2 (he.up (by (first | lia | omega)))⟩
  | each t u b r ihb ih => intro s n d e ⟨k, _, h1, h2, _, h3, h4⟩ he; exact ⟨use h1 he, he.fresh h2, by rw [hT]; exact ihb _ _ _ _ h3 (he.upd hφ h2), ih _ _ _ _ h4 (he.up (by (first | lia | omega)))⟩
  | cond t u b r ihb ih => intro s n d e ⟨k, _, h1, h2, _, h3, h4⟩ he; exact ⟨use h1 he, he.fresh h2, by rw [hT]; exact ihb _ _ _ _ h3 (he.upd hφ h2), ih _ _ _ _ h4 (he.up (by (first | lia | omega)))⟩
-- fresh names
noncomputable def vkey (a : Bool) (i : Nat) : Str := sigS a ++ vname i
theorem vkey_inj {a c : Bool} {i j : Nat} (hi : i ≤ 16) (hj : j ≤ 16) (h : vkey a i = vkey c j) : i = j := by
  have : ∀ (a c : Bool) (i j : Fin 17), vkey a i = vkey c j → i = j := by decide +kernel
  have := this a c ⟨i, by (first | lia | omega)⟩ ⟨j, by (first | lia | omega)⟩ h
  simpa using this
theorem vkey_ne {a c : Bool} {i m : Nat} (hi : i ≤ 16) (hm : m < 3) : sigS a ++ nmOf m ≠ vkey c i := by
  have : ∀ (a c : Bool) (i : Fin 17) (m : Fin 3), sigS a ++ nmOf m ≠ vkey c i := by decide +kernel
  exact this a c ⟨i, by (first | lia | omega)⟩ ⟨m, hm⟩
noncomputable def EnV (s : Seen) (e : En Str) (n : Nat) : Prop := (∀ sig nm i, nm < 3 → lk s (keyOf sig nm) = some i → e (vkey sig i) = some i) ∧ ∀ k i, e k = some i → i ≤ n ∧ i ≤ 16 ∧ ∃ a, k = vkey a i
theorem EnV.up {s : Seen} {e : En Str} {n m : Nat} (h : EnV s e n) (le : n ≤ m) : EnV s e m := ⟨h.1, fun k i he => ⟨Nat.le_trans (h.2 k i he).1 le, (h.2 k i he).2⟩⟩
theorem EnV.upd {s : Seen} {e : En Str} {n : Nat} (h : EnV s e n) {t : T} (ht : TOk0 t n) : EnV (put s (tkey t) t.id) (e.upd (vkey t.sig t.id) t.id) (n + 1) := by
  refine ⟨fun sig nm i hnm he => ?_, fun k i he => ?_⟩
  · unfold En.upd
    rw [lk_put] at he
    by_cases e1 : keyOf sig nm = tkey t
    · obtain ⟨rfl, rfl⟩ := keyOf_inj _ _ _ _ hnm ht.2.1 e1
      rw [if_pos e1] at he
      cases he
      rw [if_pos rfl]
    · rw [if_neg e1] at he
      have h1 := h.1 sig nm i hnm he
      have h2 := h.2 _ _ h1
      rw [if_neg, h1]
      intro e2
      have := vkey_inj h2.2.1 ht.2.2 e2
      have := ht.1
      (first | lia | omega)
  · unfold En.upd at he
    split at he
    · rename_i hk
      cases he; exact ⟨Nat.le_of_eq ht.1, ht.2.2, t.sig, hk⟩
    · have := h.2 k i he
      exact ⟨Nat.le_succ_of_le this.1, this.2⟩
theorem EnV.fresh {s : Seen} {e : En Str} {n : Nat} (h : EnV s e n) {t : T} (ht : TOk0 t n) : ∀ k, e k ≠ some t.id := fun k he => by
  have := (h.2 k _ he).1; have := ht.1; (first | lia | omega)
theorem other_u (u : U) : nmOther.u u = match u.id with | some i => vname i | none => nmOf u.nm := rfl
theorem tyE_other : ∀ (b : B) (s : Seen) (n d : Nat) (e : En Str), Ty0 b s n d → EnV s e n → TyE (kf nmOther) gOne b e := by
  intro b
  have use : ∀ {u : U} {s : Seen} {e : En Str} {n : Nat}, UOk u s → EnV s e n → e ((kf nmOther).u u) = u.id ∧ (u.id = none → (kf nmOther).g u = gOne u) := fun {u s e n} hu he => by
    show e (sigS u.sig ++ nmOther.u u) = u.id ∧ (u.id = none → nmOther.u u = nmOf u.nm)
    rw [other_u]
    cases hid : u.id with
    | some i => exact ⟨he.1 u.sig u.nm i hu.2 (hu.1.symm.trans hid), fun h => by cases h⟩
    | none =>
      refine ⟨?_, fun _ => rfl⟩
      cases hk : e (sigS u.sig ++ nmOf u.nm) with
      | none => rfl
      | some i =>
        obtain ⟨-, h2, a, h3⟩ := he.2 _ _ hk
        exact absurd h3 (vkey_ne h2 hu.2)
  induction b with
  | nil => intro s n d e _ _; trivial
  | asg t u r ih => intro s n d e ⟨h1, h2, h3⟩ he; exact ⟨use h1 he, he.fresh h2, ih _ _ _ _ h3 (he.upd h2)⟩
  | two u v r ih => intro s n d e ⟨h1, h2, h3⟩ he; exact ⟨use h1 he, use h2 he, ih _ _ _ _ h3 he⟩
  | bare b r ihb ih => intro s n d e ⟨k, _, _, h1, h2⟩ he; exact ⟨ihb _ _ _ _ h1 he, ih _ _ _ _ h2 (he.up (by (first | lia | omega)))⟩
  | sub b r ihb ih => intro s n d e ⟨k, _, _, h1, h2⟩ he; exact ⟨ihb _ _ _ _ h1 he, ih _ _ _ _ h2 (he.up (by (first | lia | omega)))⟩
  | each t u b r ihb ih => intro s n d e ⟨k, _, h1, h2, _, h3, h4⟩ he; exact ⟨use h1 he, he.fresh h2, ihb _ _ _ _ h3 (he.upd h2), ih _ _ _ _ h4 (he.up (by (first | lia | omega)))⟩
  | cond t u b r ihb ih => intro s n d e ⟨k, _, h1, h2, _, h3, h4⟩ he; exact ⟨use h1 he, he.fresh h2, ihb _ _ _ _ h3 (he.upd h2), ih _ _ _ _ h4 (he.up (by (first | lia | omega)))⟩
-- the names are good
noncomputable def goodB (nm : Str) : Bool := (Builtin.Str.occurrences nm "::" 0 nm.length 1).isEmpty && !(forcedL.any (· == nm)) && !(nm == "") && !(Builtin.Str.occurrences signsS (Txt.item nm 0) 0 signsS.length 1).isEmpty && !((["", "_"] : List Str).any (· == nm)) && decide (0 < nm.length) && decide (nm.length ≤ 1000)
theorem Good.of {nm : Str} (h : goodB nm = true) : Good nm := by
  simp only [goodB, Bool.and_eq_true, Bool.not_eq_true', decide_eq_true_eq] at h
  obtain ⟨⟨⟨⟨⟨⟨h1, h2⟩, h3⟩, h4⟩, h5⟩, h6⟩, h7⟩ := h
  exact ⟨h1, h2, h3, h4, h5, h6, h7⟩
theorem good_one {m : Nat} (h : m < 3) : Good (nmOf m) := by
  have : ∀ m : Fin 3, goodB (nmOf m) = true := by decide +kernel
  exact .of (this ⟨m, h⟩)
theorem good_long {m : Nat} (h : m < 3) : Good (lg (nmOf m)) := by
  have : ∀ m : Fin 3, goodB (lg (nmOf m)) = true := by decide +kernel
  exact .of (this ⟨m, h⟩)
theorem good_v {i : Nat} (h : i ≤ 16) : Good (vname i) := by
  have : ∀ i : Fin 17, goodB (vname i) = true := by decide +kernel
  exact .of (this ⟨i, by (first | lia | omega)⟩)
end
theorem okB_of {M : Nm} (hu : ∀ u s, UOk u s → (∀ k i, lk s k = some i → i ≤ 16) → Good (M.u u)) (ht : ∀ t n, TOk0 t n → Good (M.t t)) : ∀ (b : B) (s : Seen) (n d : Nat), Ty0 b s n d → (∀ k i, lk s k = some i → i ≤ 16) → OkB M b d := by
  intro b
  have up : ∀ {s : Seen} {t : T} {n : Nat}, TOk0 t n → (∀ k i, lk s k = some i → i ≤ 16) → ∀ k i, lk (put s (tkey t) t.id) k = some i → i ≤ 16 := fun {s t n} h hs k i he => by
    rw [lk_put] at he
    split at he
    · cases he; exact h.2.2
    · exact hs k i he
  induction b with
  | nil => intro s n d _ _; trivial
  | asg t u r ih => intro s n d ⟨h1, h2, h3⟩ hs; exact ⟨ht _ _ h2, hu _ _ h1 hs, ih _ _ _ h3 (up h2 hs)⟩
  | two u v r ih => intro s n d ⟨h1, h2, h3⟩ hs; exact ⟨hu _ _ h1 hs, hu _ _ h2 hs, ih _ _ _ h3 hs⟩
  | bare b r ihb ih => intro s n d ⟨k, e, hl, h1, h2⟩ hs; exact ⟨k, e, by rw [gns_len]; exact hl, ihb _ _ _ h1 hs, ih _ _ _ h2 hs⟩
  | sub b r ihb ih => intro s n d ⟨k, e, hl, h1, h2⟩ hs; exact ⟨k, e, by rw [gns_len]; exact hl, ihb _ _ _ h1 hs, ih _ _ _ h2 hs⟩
  | each t u b r ihb ih => intro s n d ⟨k, e, h1, h2, hl, h3, h4⟩ hs; exact ⟨k, e, ht _ _ h2, hu _ _ h1 hs, by rw [gns_len]; exact hl, ihb _ _ _ h3 (up h2 hs), ih _ _ _ h4 hs⟩
  | cond t u b r ihb ih => intro s n d ⟨k, e, h1, h2, hl, h3, h4⟩ hs; exact ⟨k, e, ht _ _ h2, hu _ _ h1 hs, by rw [gns_len]; exact hl, ihb _ _ _ h3 (up h2 hs), ih _ _ _ h4 hs⟩
theorem ok_one {b : B} {d : Nat} (h : Ty0 b [] 0 d) : OkB nmOne b d := okB_of (M := nmOne) (fun u s hu _ => good_one hu.2) (fun t n ht => good_one ht.2.1) b [] 0 d h (fun k i he => by cases he)
theorem ok_long {b : B} {d : Nat} (h : Ty0 b [] 0 d) : OkB nmLong b d := okB_of (M := nmLong) (fun u s hu _ => good_long hu.2) (fun t n ht => good_long ht.2.1) b [] 0 d h (fun k i he => by cases he)
theorem ok_other {b : B} {d : Nat} (h : Ty0 b [] 0 d) : OkB nmOther b d := okB_of (M := nmOther) (fun u s hu hs => by
  rw [other_u]
  cases hid : u.id with
  | some i => exact good_v (hs _ _ (hu.1.symm.trans hid))
  | none => exact good_one hu.2) (fun t n ht => good_v ht.2.2) b [] 0 d h (fun k i he => by cases he)
-- the start
theorem start {κ : Type} [DecidableEq κ] : At0 ([fun _ => none] : List (En κ)) (enterS [newSc]) (enterS [newSc]) :=
  sim_enter ⟨⟨fun _ _ _ => rfl, fun _ _ => rfl, fun _ _ => rfl, rfl⟩, ⟨rfl, rfl, fun _ _ _ => rfl, fun _ _ => rfl, rfl⟩, trivial⟩
theorem inj0 {κ : Type} [DecidableEq κ] : ∀ e' ∈ ([fun _ => none] : List (En κ)), Inj e' := fun e' he => by
  rw [List.mem_singleton.mp he]; intro k k' i h; cases h
theorem sim0 {K : Kf Str} {gn : U → Str} {b : B} (h : TyE K gn b (fun _ => none)) : (res K b (enterS [newSc])).1 = (res (gK gn) b (enterS [newSc])).1 ∧ sizeS (leaveS (res K b (enterS [newSc])).2) = sizeS (leaveS (res (gK gn) b (enterS [newSc])).2) := by
  obtain ⟨h1, e', h2⟩ := sim b _ [] _ _ h inj0 start
  refine ⟨h1, ?_⟩
  have hR := h2.rel
  cases hy : (res K b (enterS [newSc])).2 with
  | nil => rw [hy] at hR; cases hz : (res (gK gn) b (enterS [newSc])).2 <;> rw [hz] at hR <;> exact hR.elim
  | cons q y =>
    rw [hy] at hR
    cases hz : (res (gK gn) b (enterS [newSc])).2 with
    | nil => rw [hz] at hR; exact hR.elim
    | cons q' y' => rw [hz] at hR; exact hR.2.1.size
noncomputable def progG (gn : U → Str) (b : B) : D := .tup [.str "program", blockD (res (gK gn) b (enterS [newSc])).1, .int (sizeS (leaveS (res (gK gn) b (enterS [newSc])).2))]
theorem prog_ghost {K : Kf Str} {gn : U → Str} {b : B} (h : TyE K gn b (fun _ => none)) : progD K b = progG gn b := by
  obtain ⟨h1, h2⟩ := sim0 h
  unfold progD progG; rw [h1, h2]
theorem enR0 (φ : Bool → Nat → Str) : EnR φ [] (fun _ => none) 0 := ⟨fun _ _ _ => rfl, fun k i h => by cases h⟩
theorem prog_one {b : B} {d : Nat} (h : Ty0 b [] 0 d) : progD (kf nmOne) b = progG gOne b :=
  prog_ghost (tyE_phi (φ := keyOf) keyOf_inj (fun _ => rfl) (fun _ => rfl) (fun _ => rfl) b [] 0 d _ h (enR0 _))
theorem prog_long {b : B} {d : Nat} (h : Ty0 b [] 0 d) : progD (kf nmLong) b = progG gLong b :=
  prog_ghost (tyE_phi (φ := longKey) longKey_inj (fun _ => rfl) (fun _ => rfl) (fun _ => rfl) b [] 0 d _ h (enR0 _))
theorem prog_other {b : B} {d : Nat} (h : Ty0 b [] 0 d) : progD (kf nmOther) b = progG gOne b :=
  prog_ghost (tyE_other b [] 0 d _ h ⟨fun _ _ _ _ h => (by cases h), fun k i h => (by cases h)⟩)
-- longer names
theorem long_my (sig : Bool) (n : Nat) : longD (myR sig n) = myR sig n := by
  have : ∀ sig : Bool, lgS ("my" ++ endS sig) = "my" ++ endS sig := by decide +kernel
  simp only [myR, longD, longL, this]
theorem long_pad (sig : Bool) (n : Nat) : longD (padR sig n) = padR sig n := by
  have : ∀ sig : Bool, lgS ("pad" ++ endS sig) = "pad" ++ endS sig := by decide +kernel
  simp only [padR, longD, longL, this]
theorem nmOf_small (m : Nat) : ∃ k, k < 3 ∧ nmOf m = nmOf k := by
  match m with
  | 0 => exact ⟨0, by decide, rfl⟩
  | 1 => exact ⟨1, by decide, rfl⟩
  | _ + 2 => exact ⟨2, by decide, rfl⟩
theorem long_glob (sig : Bool) (u : U) : longD (globR sig (gOne u)) = globR sig (gLong u) := by
  have h1 : ∀ sig : Bool, lgS ("glob" ++ endS sig) = "glob" ++ endS sig := by decide +kernel
  have h2 : ∀ m : Fin 3, lgS ("main::" ++ nmOf m) = "main::" ++ lg (nmOf m) := by decide +kernel
  obtain ⟨k, hk, e⟩ := nmOf_small u.nm
  simp only [globR, longD, longL, h1, gOne, gLong, e]
  rw [h2 ⟨k, hk⟩]
theorem long_caps (c : List (Nat × Nat × Bool)) : longL (c.map capD) = c.map capD := by
  have h1 : ∀ sig : Bool, lgS (sigS sig) = sigS sig := by decide +kernel
  induction c with
  | nil => rfl
  | cons x c ih => simp only [List.map_cons, longL, ih, capD, longD, h1]
theorem w_expr : lgS "expr" = "expr" := by decide +kernel
theorem w_assign : lgS "assign" = "assign" := by decide +kernel
theorem w_list : lgS "list" = "list" := by decide +kernel
theorem w_bare : lgS "bare" = "bare" := by decide +kernel
theorem w_empty : lgS "" = "" := by decide +kernel
theorem w_block : lgS "block" = "block" := by decide +kernel
theorem w_anonsub : lgS "anonsub" = "anonsub" := by decide +kernel
theorem w_subdef : lgS "subdef" = "subdef" := by decide +kernel
theorem w_foreach : lgS "foreach" = "foreach" := by decide +kernel
theorem w_if : lgS "if" = "if" := by decide +kernel
theorem w_program : lgS "program" = "program" := by decide +kernel
theorem w_my : lgS "my" = "my" := by decide +kernel
theorem w_name : lgS "name" = "name" := by decide +kernel
theorem w_sig : ∀ sig : Bool, lgS (sigS sig) = sigS sig := by decide +kernel
theorem w_nm (m : Nat) : lgS (nmOf m) = lg (nmOf m) := by
  have h : ∀ m : Fin 3, lgS (nmOf m) = lg (nmOf m) := by decide +kernel
  obtain ⟨k, hk, e⟩ := nmOf_small m
  rw [e]; exact h ⟨k, hk⟩
theorem long_asg (x y : D) : longD (asgD x y) = asgD (longD x) (longD y) := by simp only [asgD, longD, longL, w_expr, w_assign]
theorem long_two (x y : D) : longD (twoD x y) = twoD (longD x) (longD y) := by simp only [twoD, longD, longL, w_expr, w_list]
theorem long_block (l : List D) : longD (blockD l) = blockD (longL l) := by simp only [blockD, longD, longL, w_block]
theorem long_bare (l : List D) : longD (bareD l) = bareD (longL l) := by simp only [bareD, longD, longL, w_bare, w_empty, long_block]
theorem long_sub (l : List D) (n : Int) (c : List D) : longD (subD l n c) = subD (longL l) n (longL c) := by simp only [subD, longD, longL, w_expr, w_anonsub, w_subdef, w_empty, long_block]
theorem long_each (x y : D) (l : List D) : longD (eachD x y l) = eachD (longD x) (longD y) (longL l) := by simp only [eachD, longD, longL, w_foreach, w_empty, long_block]
theorem long_cond (x y : D) (l : List D) : longD (condD x y l) = condD (longD x) (longD y) (longL l) := by simp only [condD, longD, longL, w_if, w_assign, long_block]
theorem long_name (u : U) (s : List (Sc G)) : longD (rName (gK gOne) u s).1 = (rName (gK gLong) u s).1 ∧ (rName (gK gOne) u s).2 = (rName (gK gLong) u s).2 := by
  unfold rName gK
  dsimp only
  rcases find u.sig u.id s with ⟨_ | n, s'⟩
  · exact ⟨long_glob _ _, rfl⟩
  · exact ⟨long_pad _ _, rfl⟩
theorem long_tell (t : T) (s : List (Sc G)) : longD (rMy (gK gOne) t s).1 = (rMy (gK gLong) t s).1 ∧ (rMy (gK gOne) t s).2 = (rMy (gK gLong) t s).2 := ⟨long_my _ _, rfl⟩
theorem long_res : ∀ (b : B) (s : List (Sc G)), longL (res (gK gOne) b s).1 = (res (gK gLong) b s).1 ∧ (res (gK gOne) b s).2 = (res (gK gLong) b s).2 := by
  intro b
  induction b with
  | nil => intro s; exact ⟨rfl, rfl⟩
  | asg t u r ih => intro s; simp only [res, longL, long_asg, (long_tell _ _).1, (long_tell _ _).2, (long_name _ _).1, (long_name _ _).2, (ih _).1, (ih _).2, and_self]
  | two u v r ih => intro s; simp only [res, longL, long_two, (long_name _ _).1, (long_name _ _).2, (ih _).1, (ih _).2, and_self]
  | bare b r ihb ih => intro s; simp only [res, longL, long_bare, (ihb _).1, (ihb _).2, (ih _).1, (ih _).2, and_self]
  | sub b r ihb ih => intro s; simp only [res, longL, long_sub, long_caps, (ihb _).1, (ihb _).2, (ih _).1, (ih _).2, and_self]
  | each t u b r ihb ih => intro s; simp only [res, longL, long_each, (long_tell _ _).1, (long_tell _ _).2, (long_name _ _).1, (long_name _ _).2, (ihb _).1, (ihb _).2, (ih _).1, (ih _).2, and_self]
  | cond t u b r ihb ih => intro s; simp only [res, longL, long_cond, (long_tell _ _).1, (long_tell _ _).2, (long_name _ _).1, (long_name _ _).2, (ihb _).1, (ihb _).2, (ih _).1, (ih _).2, and_self]
theorem long_prog (b : B) : longD (progG gOne b) = progG gLong b := by
  simp only [progG, longD, longL, w_program, long_block, (long_res _ _).1, (long_res _ _).2]
theorem long_stms (b : B) : longL (stms nmOne b) = stms nmLong b := by
  have hm : ∀ t, longD (myD nmOne t) = myD nmLong t := fun t => by simp only [myD, longD, longL, w_my, w_sig, nmOne, nmLong, w_nm]
  have hn : ∀ u, longD (nameD nmOne u) = nameD nmLong u := fun u => by simp only [nameD, longD, longL, w_name, w_sig, nmOne, nmLong, w_nm]
  induction b with
  | nil => rfl
  | asg t u r ih => simp only [stms, longL, long_asg, hm, hn, ih]
  | two u v r ih => simp only [stms, longL, long_two, hn, ih]
  | bare b r ihb ih => simp only [stms, longL, long_bare, ihb, ih]
  | sub b r ihb ih => simp only [stms, longL, long_sub, ihb, ih]
  | each t u b r ihb ih => simp only [stms, longL, long_each, hm, hn, ihb, ih]
  | cond t u b r ihb ih => simp only [stms, longL, long_cond, hm, hn, ihb, ih]
/-- the tallies of the resolved program -/
theorem tally_one {b : B} {d : Nat} (h : Ty0 b [] 0 d) : ∃ v, tal (progD (kf nmOne) b) (f7 ⟨0, 0, 0, 0, 0, 0, 0⟩) = f7 v ∧ v.ms + v.ma = nT b ∧ v.ps + v.pa = nU b ∧ v.gs + v.ga = nO b ∧ (sizeS (leaveS (res (kf nmOne) b (enterS [newSc])).2) : Int) + v.sd = nT b := by
  have hty := tyE_phi (K := kf nmOne) (gn := gOne) (φ := keyOf) keyOf_inj (fun _ => rfl) (fun _ => rfl) (fun _ => rfl) b [] 0 d _ h (enR0 _)
  have hc := simC b _ [] _ _ hty inj0 start
  obtain ⟨h1, e', h2⟩ := sim b _ [] _ _ hty inj0 start
  have hp : Phi (enterS ([newSc] : List (Sc Str))) = 0 := by rw [Phi_enter]; rfl
  have hlast := lastC_leave (lastC_res (kf nmOne) b (enterS [newSc]) (lastC_enter (lastC_new trivial)))
  have hsz : (sizeS (leaveS (res (kf nmOne) b (enterS [newSc])).2) : Int) = Phi (res (kf nmOne) b (enterS [newSc])).2 := by
    rw [← Phi_leave]
    have hR := h2.rel
    have f1 := res_frame (kf nmOne) b (enterS [newSc])
    rw [leave_enter] at f1
    cases hy : leaveS (res (kf nmOne) b (enterS [newSc])).2 with
    | nil => rw [hy] at f1; cases f1
    | cons q y =>
      rw [hy] at f1 hlast
      cases y with
      | nil =>
        have : q.caps = [] := hlast
        simp [sizeS, Phi, this]
      | cons q' y => simp at f1
  rw [hp] at hc
  obtain ⟨v, e1, c1, c2, c3, c4⟩ := (Cn.node (Cn.cons (Cn.node (Cn.lst hc) (wd := "block") (fun v => by rfl)) (Cn.int (i := (sizeS (leaveS (res (kf nmOne) b (enterS [newSc])).2) : Int)))) (wd := "program") (fun v => by rfl)) ⟨0, 0, 0, 0, 0, 0, 0⟩
  refine ⟨v, by simpa only [talL, progD, blockD] using e1, ?_, ?_, ?_, ?_⟩
  · simp at c1 ⊢; (first | lia | omega)
  · simp at c2 ⊢; (first | lia | omega)
  · simp at c3 ⊢; (first | lia | omega)
  · simp at c4 ⊢; (first | lia | omega)
section
/-- at most n deep, nothing long, every tuple as the tallier wants it -/
noncomputable def Wk : Nat → D → Prop
  | _, .none => True
  | _, .int _ => True
  | _, .str s => s.length ≤ 1000 ∧ PyData.strOk s = true
  | 0, .tup _ => False
  | 0, .lst _ => False
  | n + 1, .tup l => (l.length ≤ 1000 ∧ Hd l) ∧ ∀ x ∈ l, Wk n x
  | n + 1, .lst l => l.length ≤ 1000 ∧ ∀ x ∈ l, Wk n x
theorem Wk.mono : ∀ {n m : Nat} {d : D}, Wk n d → n ≤ m → Wk m d := by
  intro n
  induction n with
  | zero => intro m d h _; cases d <;> first | exact (show False from h).elim | (cases m <;> exact h)
  | succ n ih =>
    intro m d h le
    obtain ⟨m, rfl⟩ : ∃ k, m = k + 1 := ⟨m - 1, by (first | lia | omega)⟩
    cases d with
    | tup l => exact ⟨h.1, fun x hx => ih (h.2 x hx) (by (first | lia | omega))⟩
    | lst l => exact ⟨h.1, fun x hx => ih (h.2 x hx) (by (first | lia | omega))⟩
    | none => trivial
    | int => trivial
    | str => exact h
theorem Wk.sm : ∀ {n : Nat} {d : D}, Wk n d → Sm n d ∧ TOk n d := by
  intro n
  induction n with
  | zero => intro d h; cases d <;> first | exact (show False from h).elim | exact ⟨trivial, trivial⟩ | exact ⟨h.1, trivial⟩
  | succ n ih =>
    intro d h
    cases d with
    | tup l => exact ⟨⟨h.1.1, fun x hx => (ih (h.2 x hx)).1⟩, ⟨h.1, fun x hx => (ih (h.2 x hx)).2⟩⟩
    | lst l => exact ⟨⟨h.1, fun x hx => (ih (h.2 x hx)).1⟩, ⟨h.1, fun x hx => (ih (h.2 x hx)).2⟩⟩
    | none => exact ⟨trivial, trivial⟩
    | int => exact ⟨trivial, trivial⟩
    | str => exact ⟨h.1, trivial⟩
theorem Wk.shaped : ∀ {n : Nat} {d : D}, Wk n d → (pD d).canLay0 = true ∧ (pD d).depth ≤ n := by
  intro n
  induction n with
  | zero =>
    intro d h
    cases d <;> first | exact (show False from h).elim | skip
    · exact ⟨by simp [pD, PyData.canLay0], by simp [pD, PyData.depth]⟩
    · exact ⟨by simp [pD, PyData.canLay0], by simp [pD, PyData.depth]⟩
    · exact ⟨by simp only [pD, PyData.canLay0]; exact h.2, by simp [pD, PyData.depth]⟩
  | succ n ih =>
    intro d h
    have all : ∀ l : List D, (∀ x ∈ l, Wk n x) → PyData.canLayAll0 (pL l) = true ∧ PyData.depthAll (pL l) ≤ n := by
      intro l
      induction l with
      | nil => intro _; exact ⟨by simp [pL, PyData.canLayAll0], by simp [pL, PyData.depthAll]⟩
      | cons x r ihl =>
        intro hl
        have h1 := ih (hl x (.head _))
        have h2 := ihl fun y hy => hl y (.tail _ hy)
        simp only [pL, PyData.canLayAll0, PyData.depthAll, h1.1, h2.1, Bool.and_self, true_and]
        (first | lia | omega)
    cases d with
    | tup l =>
      have := all l h.2
      exact ⟨by simp only [pD, PyData.canLay0]; exact this.1, by simp only [pD, PyData.depth]; (first | lia | omega)⟩
    | lst l =>
      have := all l h.2
      exact ⟨by simp only [pD, PyData.canLay0]; exact this.1, by simp only [pD, PyData.depth]; (first | lia | omega)⟩
    | none => exact ⟨by simp [pD, PyData.canLay0], by simp [pD, PyData.depth]⟩
    | int => exact ⟨by simp [pD, PyData.canLay0], by simp [pD, PyData.depth]⟩
    | str => exact ⟨by simp only [pD, PyData.canLay0]; exact h.2, by simp [pD, PyData.depth]⟩
-- building blocks
theorem wk_str {n : Nat} {s : Str} (h : (decide (s.length ≤ 1000) && PyData.strOk s) = true) : Wk n (.str s) := by
  have : s.length ≤ 1000 ∧ PyData.strOk s = true := by simpa using h
  cases n <;> exact this
theorem wk_int {n : Nat} {i : Int} : Wk n (.int i) := by cases n <;> trivial
theorem wk_none {n : Nat} : Wk n .none := by cases n <;> trivial
theorem wk_lst {n : Nat} {l : List D} (hl : l.length ≤ 1000) (h : ∀ x ∈ l, Wk n x) : Wk (n + 1) (.lst l) := ⟨hl, h⟩
theorem all_nil {n : Nat} : ∀ x ∈ ([] : List D), Wk n x := fun _ h => nomatch h
theorem all_cons {n : Nat} {d : D} {l : List D} (h : Wk n d) (r : ∀ x ∈ l, Wk n x) : ∀ x ∈ d :: l, Wk n x := fun x hx => by
  rcases List.mem_cons.mp hx with rfl | hx
  · exact h
  · exact r x hx
theorem wk_node {n : Nat} {wd : Str} {l : List D} (hw : (decide (wd.length ≤ 1000) && PyData.strOk wd) = true) (hn : wd ≠ "subdef") (hl : l.length ≤ 999) (h : ∀ x ∈ l, Wk n x) : Wk (n + 1) (.tup (.str wd :: l)) :=
  ⟨⟨by simp; (first | lia | omega), fun e => absurd e hn⟩, all_cons (wk_str hw) h⟩
theorem wk_asg {x y : D} (hx : Wk 1 x) (hy : Wk 1 y) : Wk 4 (asgD x y) :=
  wk_node (by decide +kernel) (by decide +kernel) (by simp) (all_cons wk_int (all_cons (wk_node (by decide +kernel) (by decide +kernel) (by simp) (all_cons (hx.mono (by (first | lia | omega))) (all_cons (hy.mono (by (first | lia | omega))) all_nil))) all_nil))
theorem wk_two {x y : D} (hx : Wk 1 x) (hy : Wk 1 y) : Wk 4 (twoD x y) :=
  wk_node (by decide +kernel) (by decide +kernel) (by simp) (all_cons wk_int (all_cons (wk_node (by decide +kernel) (by decide +kernel) (by simp) (all_cons (wk_lst (by simp) (all_cons hx (all_cons hy all_nil))) all_nil)) all_nil))
theorem wk_block {n : Nat} {l : List D} (hl : l.length ≤ 1000) (h : ∀ x ∈ l, Wk n x) : Wk (n + 2) (blockD l) :=
  wk_node (by decide +kernel) (by decide +kernel) (by simp) (all_cons (wk_lst hl h) all_nil)
theorem wk_bare {n : Nat} {l : List D} (hl : l.length ≤ 1000) (h : ∀ x ∈ l, Wk n x) : Wk (n + 5) (bareD l) :=
  wk_node (by decide +kernel) (by decide +kernel) (by simp) (all_cons (wk_str (by decide +kernel)) (all_cons ((wk_block hl h).mono (by (first | lia | omega))) all_nil))
theorem wk_sub {n : Nat} {l c : List D} {i : Int} (hl : l.length ≤ 1000) (h : ∀ x ∈ l, Wk n x) (hc : c.length ≤ 1000) (h' : ∀ x ∈ c, Wk 1 x) (hn : 1 ≤ n) : Wk (n + 5) (subD l i c) := by
  refine wk_node (by decide +kernel) (by decide +kernel) (by simp) (all_cons wk_int (all_cons (wk_node (by decide +kernel) (by decide +kernel) (by simp) (all_cons (?_ : Wk (n + 3) _) all_nil)) all_nil))
  refine ⟨⟨by simp, fun _ => ⟨_, _, _, _, rfl, hc⟩⟩, all_cons (wk_str (by decide +kernel)) (all_cons (wk_str (by decide +kernel)) (all_cons (wk_block hl h) (all_cons wk_int (all_cons ?_ all_nil))))⟩
  exact wk_lst (n := n + 1) hc fun x hx => (h' x hx).mono (by (first | lia | omega))
theorem wk_each {n : Nat} {x y : D} {l : List D} (hx : Wk 1 x) (hy : Wk 1 y) (hl : l.length ≤ 1000) (h : ∀ x ∈ l, Wk n x) : Wk (n + 5) (eachD x y l) :=
  wk_node (by decide +kernel) (by decide +kernel) (by simp) (all_cons (wk_str (by decide +kernel)) (all_cons (hx.mono (by (first | lia | omega))) (all_cons (hy.mono (by (first | lia | omega))) (all_cons ((wk_block hl h).mono (by (first | lia | omega))) all_nil))))
theorem wk_cond {n : Nat} {x y : D} {l : List D} (hx : Wk 1 x) (hy : Wk 1 y) (kx : Hk 7 x) (ky : Hk 7 y) (hl : l.length ≤ 1000) (h : ∀ x ∈ l, Wk n x) : Wk (n + 5) (condD x y l) := by
  refine wk_node (by decide +kernel) (by decide +kernel) (by simp) (all_cons (wk_lst (by simp) (all_cons (?_ : Wk (n + 3) _) all_nil)) (all_cons wk_none all_nil))
  refine ⟨⟨by simp, ?_⟩, all_cons ((wk_node (n := 1) (by decide +kernel) (by decide +kernel) (by simp) (all_cons hx (all_cons hy all_nil))).mono (by (first | lia | omega))) (all_cons (wk_block hl h) all_nil)⟩
  intro z hz
  rcases List.mem_cons.mp hz with rfl | hz
  · trivial
  · rcases List.mem_cons.mp hz with rfl | hz
    · exact kx
    · rw [List.mem_singleton.mp hz]; exact ky
theorem hk_flat {l : List D} (h : ∀ x ∈ l, Hk 6 x) : Hk 7 (.tup l) := h
-- the leaves
theorem wk_sig (n : Nat) (sig : Bool) : Wk n (.str (sigS sig)) := by
  have : ∀ sig : Bool, (decide ((sigS sig).length ≤ 1000) && PyData.strOk (sigS sig)) = true := by decide +kernel
  exact wk_str (this sig)
theorem wk_nm (n : Nat) (m : Nat) : Wk n (.str (nmOf m)) := by
  have : ∀ m : Fin 3, (decide ((nmOf m).length ≤ 1000) && PyData.strOk (nmOf m)) = true := by decide +kernel
  obtain ⟨k, hk, e⟩ := nmOf_small m
  rw [e]; exact wk_str (this ⟨k, hk⟩)
theorem wk_my0 (t : T) : Wk 1 (myD nmOne t) ∧ Hk 7 (myD nmOne t) :=
  ⟨wk_node (by decide +kernel) (by decide +kernel) (by simp) (all_cons (wk_sig _ _) (all_cons (wk_nm _ _) all_nil)), hk_flat fun x hx => by
    simp only [List.mem_cons, List.not_mem_nil, or_false] at hx
    rcases hx with rfl | rfl | rfl <;> trivial⟩
theorem wk_name0 (u : U) : Wk 1 (nameD nmOne u) ∧ Hk 7 (nameD nmOne u) :=
  ⟨wk_node (by decide +kernel) (by decide +kernel) (by simp) (all_cons (wk_sig _ _) (all_cons (wk_nm _ _) all_nil)), hk_flat fun x hx => by
    simp only [List.mem_cons, List.not_mem_nil, or_false] at hx
    rcases hx with rfl | rfl | rfl <;> trivial⟩
theorem wk_myR (sig : Bool) (n : Nat) : Wk 1 (myR sig n) ∧ Hk 7 (myR sig n) := by
  have h1 : ∀ sig : Bool, (decide (("my" ++ endS sig).length ≤ 1000) && PyData.strOk ("my" ++ endS sig)) = true := by decide +kernel
  have h2 : ∀ sig : Bool, "my" ++ endS sig ≠ "subdef" := by decide +kernel
  exact ⟨wk_node (h1 sig) (h2 sig) (by simp) (all_cons wk_int all_nil), hk_flat fun x hx => by
    simp only [List.mem_cons, List.not_mem_nil, or_false] at hx
    rcases hx with rfl | rfl <;> trivial⟩
theorem wk_padR (sig : Bool) (n : Nat) : Wk 1 (padR sig n) ∧ Hk 7 (padR sig n) := by
  have h1 : ∀ sig : Bool, (decide (("pad" ++ endS sig).length ≤ 1000) && PyData.strOk ("pad" ++ endS sig)) = true := by decide +kernel
  have h2 : ∀ sig : Bool, "pad" ++ endS sig ≠ "subdef" := by decide +kernel
  exact ⟨wk_node (h1 sig) (h2 sig) (by simp) (all_cons wk_int all_nil), hk_flat fun x hx => by
    simp only [List.mem_cons, List.not_mem_nil, or_false] at hx
    rcases hx with rfl | rfl <;> trivial⟩
noncomputable def okName (s : Str) : Prop := (decide (("main::" ++ s).length ≤ 1000) && PyData.strOk ("main::" ++ s)) = true
theorem wk_globR (sig : Bool) {s : Str} (hs : okName s) : Wk 1 (globR sig s) ∧ Hk 7 (globR sig s) := by
  have h1 : ∀ sig : Bool, (decide (("glob" ++ endS sig).length ≤ 1000) && PyData.strOk ("glob" ++ endS sig)) = true := by decide +kernel
  have h2 : ∀ sig : Bool, "glob" ++ endS sig ≠ "subdef" := by decide +kernel
  exact ⟨wk_node (h1 sig) (h2 sig) (by simp) (all_cons (wk_str hs) all_nil), hk_flat fun x hx => by
    simp only [List.mem_cons, List.not_mem_nil, or_false] at hx
    rcases hx with rfl | rfl <;> trivial⟩
theorem okName_one (u : U) : okName (gOne u) := by
  have : ∀ m : Fin 3, (decide (("main::" ++ nmOf m).length ≤ 1000) && PyData.strOk ("main::" ++ nmOf m)) = true := by decide +kernel
  obtain ⟨k, hk, e⟩ := nmOf_small u.nm
  unfold okName gOne
  rw [e]; exact this ⟨k, hk⟩
theorem okName_long (u : U) : okName (gLong u) := by
  have : ∀ m : Fin 3, (decide (("main::" ++ lg (nmOf m)).length ≤ 1000) && PyData.strOk ("main::" ++ lg (nmOf m))) = true := by decide +kernel
  obtain ⟨k, hk, e⟩ := nmOf_small u.nm
  unfold okName gLong
  rw [e]; exact this ⟨k, hk⟩
theorem wk_cap (c : Nat × Nat × Bool) : Wk 1 (capD c) := ⟨⟨by simp, trivial⟩, all_cons wk_int (all_cons wk_int (all_cons (wk_sig _ _) all_nil))⟩
section
variable {κ : Type} [DecidableEq κ]
set_option linter.unusedSectionVars false
noncomputable def CapB (C : Nat) (s : List (Sc κ)) : Prop := ∀ q ∈ s, q.caps.length ≤ C
theorem CapB.up {C C' : Nat} {s : List (Sc κ)} (h : CapB C s) (le : C ≤ C') : CapB C' s := fun q hq => Nat.le_trans (h q hq) le
theorem capB_cons {C : Nat} {q : Sc κ} {s : List (Sc κ)} (h : q.caps.length ≤ C) (r : CapB C s) : CapB C (q :: s) := fun x hx => by
  rcases List.mem_cons.mp hx with rfl | hx
  · exact h
  · exact r x hx
theorem capB_head {C : Nat} {q q' : Sc κ} {s : List (Sc κ)} (h : CapB C (q :: s)) (e : q'.caps = q.caps) : CapB C (q' :: s) := capB_cons (by rw [e]; exact h q (.head _)) fun x hx => h x (.tail _ hx)
theorem capB_find (sig : Bool) (k : κ) {C : Nat} : ∀ s : List (Sc κ), CapB C s → CapB (C + 1) (find sig k s).2 := by
  intro s
  induction s with
  | nil => intro h q hq; cases hq
  | cons q s ih =>
    intro h
    have ih' := ih fun x hx => h x (.tail _ hx)
    cases hh : q.here k with
    | some i => rw [find_here hh]; exact h.up (by (first | lia | omega))
    | none =>
      rcases hf : find sig k s with ⟨_ | pl, r'⟩
      · rw [find_none hh hf]; rw [hf] at ih'; exact capB_cons (Nat.le_succ_of_le (h q (.head _))) ih'
      · rw [find_some hh hf]; rw [hf] at ih'
        refine capB_cons ?_ ih'
        have := h q (.head _)
        simp only [List.length_append, List.length_cons, List.length_nil]; (first | lia | omega)
theorem capB_name (K : Kf κ) (u : U) {C : Nat} {s : List (Sc κ)} (h : CapB C s) : CapB (C + 1) (rName K u s).2 := by
  have := capB_find u.sig (K.u u) s h
  unfold rName
  rcases hf : find u.sig (K.u u) s with ⟨_ | n, s'⟩ <;> rw [hf] at this <;> exact this
theorem capB_enter {C : Nat} {s : List (Sc κ)} (h : CapB C s) : CapB C (enterS s) := by cases s with
  | nil => exact h
  | cons q s => exact capB_head h rfl
theorem capB_leave {C : Nat} {s : List (Sc κ)} (h : CapB C s) : CapB C (leaveS s) := by cases s with
  | nil => exact h
  | cons q s => exact capB_head h rfl
theorem capB_tell (k : κ) {C : Nat} {s : List (Sc κ)} (h : CapB C s) : CapB C (tellS k s) := by cases s with
  | nil => exact h
  | cons q s => exact capB_head h rfl
theorem capB_intro {C : Nat} {s : List (Sc κ)} (h : CapB C s) : CapB C (introS s) := by
  cases s with
  | nil => exact h
  | cons q s =>
    obtain ⟨caps, capB, blocks, waits, size⟩ := q
    cases blocks <;> cases waits <;> exact capB_head h rfl
theorem capB_new {C : Nat} {s : List (Sc κ)} (h : CapB C s) : CapB C (newSc :: s) := capB_cons (Nat.zero_le _) h
noncomputable def nF : B → Nat
  | .nil => 0
  | .asg _ _ r => 1 + nF r
  | .two _ _ r => 2 + nF r
  | .bare b r => nF b + nF r
  | .sub b r => nF b + nF r
  | .each _ _ b r => 1 + nF b + nF r
  | .cond _ _ b r => 1 + nF b + nF r
theorem nF_eq (b : B) : nF b = nU b + nO b := by
  have h : ∀ u : U, isTo u + isO u = 1 := fun u => by unfold isTo isO; split <;> rfl
  induction b with
  | nil => rfl
  | asg t u r ih => have := h u; simp only [nF, nU, nO]; (first | lia | omega)
  | two u v r ih => have := h u; have := h v; simp only [nF, nU, nO]; (first | lia | omega)
  | bare b r ihb ih => simp only [nF, nU, nO]; (first | lia | omega)
  | sub b r ihb ih => simp only [nF, nU, nO]; (first | lia | omega)
  | each t u b r ihb ih => have := h u; simp only [nF, nU, nO]; (first | lia | omega)
  | cond t u b r ihb ih => have := h u; simp only [nF, nU, nO]; (first | lia | omega)
theorem capB_res (K : Kf κ) : ∀ (b : B) (s : List (Sc κ)) (C : Nat), CapB C s → CapB (C + nF b) (res K b s).2 := by
  intro b
  induction b with
  | nil => intro s C h; exact h
  | asg t u r ih => intro s C h; exact (ih _ _ (capB_intro (capB_name K u (capB_tell _ h)))).up (by simp only [nF]; (first | lia | omega))
  | two u v r ih => intro s C h; exact (ih _ _ (capB_intro (capB_name K v (capB_name K u h)))).up (by simp only [nF]; (first | lia | omega))
  | bare b r ihb ih => intro s C h; exact (ih _ _ (capB_intro (capB_leave (ihb _ _ (capB_enter h))))).up (by simp only [nF]; (first | lia | omega))
  | sub b r ihb ih =>
    intro s C h
    have h1 := capB_leave (ihb _ _ (capB_enter (capB_new h)))
    exact (ih _ _ (capB_intro fun q hq => h1 q (List.mem_of_mem_tail hq))).up (by simp only [nF]; (first | lia | omega))
  | each t u b r ihb ih => intro s C h; exact (ih _ _ (capB_intro (capB_leave (capB_leave (ihb _ _ (capB_enter (capB_intro (capB_name K u (capB_tell _ (capB_enter h)))))))))).up (by simp only [nF]; (first | lia | omega))
  | cond t u b r ihb ih => intro s C h; exact (ih _ _ (capB_intro (capB_leave (capB_leave (ihb _ _ (capB_enter (capB_intro (capB_name K u (capB_tell _ (capB_enter h)))))))))).up (by simp only [nF]; (first | lia | omega))
theorem res_len (K : Kf κ) : ∀ (b : B) (s : List (Sc κ)), (res K b s).1.length = len b := by
  intro b
  induction b with
  | nil => intro s; rfl
  | _ => intro s; simp only [res, len, List.length_cons]; simp [*]
theorem wk_name (K : Kf κ) (hg : ∀ u, okName (K.g u)) (u : U) (s : List (Sc κ)) : Wk 1 (rName K u s).1 ∧ Hk 7 (rName K u s).1 := by
  unfold rName
  rcases find u.sig (K.u u) s with ⟨_ | n, s'⟩
  · exact wk_globR _ (hg u)
  · exact wk_padR _ _
noncomputable def dW : Nat → Nat
  | 0 => 4
  | d + 1 => dW d + 5
theorem dW_ge (d : Nat) : 4 ≤ dW d := by cases d <;> simp only [dW] <;> (first | lia | omega)
theorem wk_res (K : Kf κ) (hg : ∀ u, okName (K.g u)) : ∀ (b : B) (s : List (Sc κ)) (C : Nat) (sn : Seen) (n d : Nat), CapB C s → C + nF b ≤ 1000 → Ty0 b sn n d → ∀ x ∈ (res K b s).1, Wk (dW d) x := by
  intro b
  induction b with
  | nil => intro s C sn n d _ _ _ x hx; cases hx
  | asg t u r ih =>
    intro s C sn n d h hc ⟨_, _, h3⟩
    simp only [nF] at hc
    have := dW_ge d
    exact all_cons ((wk_asg (wk_myR _ _).1 (wk_name K hg u _).1).mono this) (ih _ (C + 1) _ _ _ (capB_intro (capB_name K u (capB_tell _ h))) (by (first | lia | omega)) h3)
  | two u v r ih =>
    intro s C sn n d h hc ⟨_, _, h3⟩
    simp only [nF] at hc
    have := dW_ge d
    exact all_cons ((wk_two (wk_name K hg u _).1 (wk_name K hg v _).1).mono this) (ih _ (C + 1 + 1) _ _ _ (capB_intro (capB_name K v (capB_name K u h))) (by (first | lia | omega)) h3)
  | bare b r ihb ih =>
    intro s C sn n d h hc ⟨k, e, hl, h1, h2⟩
    subst e
    simp only [nF] at hc
    have q := capB_res K b _ _ (capB_enter h)
    exact all_cons (wk_bare (by rw [res_len]; (first | lia | omega)) (ihb _ C _ _ _ (capB_enter h) (by (first | lia | omega)) h1)) (ih _ _ _ _ _ (capB_intro (capB_leave q)) (by (first | lia | omega)) h2)
  | sub b r ihb ih =>
    intro s C sn n d h hc ⟨k, e, hl, h1, h2⟩
    subst e
    simp only [nF] at hc
    have q := capB_leave (capB_res K b _ _ (capB_enter (capB_new h)))
    have := dW_ge k
    refine all_cons (wk_sub (by rw [res_len]; (first | lia | omega)) (ihb _ C _ _ _ (capB_enter (capB_new h)) (by (first | lia | omega)) h1) ?_ ?_ (by (first | lia | omega))) (ih _ _ _ _ _ (capB_intro fun y hy => q y (List.mem_of_mem_tail hy)) (by (first | lia | omega)) h2)
    · rw [List.length_map]
      cases hy : leaveS (res K b (enterS (newSc :: s))).2 with
      | nil => simp
      | cons p y => rw [hy] at q; have := q p (.head _); dsimp only; (first | lia | omega)
    · intro x hx
      obtain ⟨c, -, rfl⟩ := List.mem_map.mp hx
      exact wk_cap c
  | each t u b r ihb ih =>
    intro s C sn n d h hc ⟨k, e, _, _, hl, h1, h2⟩
    subst e
    simp only [nF] at hc
    have p := capB_enter (capB_intro (capB_name K u (capB_tell (K.t t) (capB_enter h))))
    have q := capB_res K b _ _ p
    exact all_cons (wk_each (wk_myR _ _).1 (wk_name K hg u _).1 (by rw [res_len]; (first | lia | omega)) (ihb _ _ _ _ _ p (by (first | lia | omega)) h1)) (ih _ _ _ _ _ (capB_intro (capB_leave (capB_leave q))) (by (first | lia | omega)) h2)
  | cond t u b r ihb ih =>
    intro s C sn n d h hc ⟨k, e, _, _, hl, h1, h2⟩
    subst e
    simp only [nF] at hc
    have p := capB_enter (capB_intro (capB_name K u (capB_tell (K.t t) (capB_enter h))))
    have q := capB_res K b _ _ p
    exact all_cons (wk_cond (wk_myR _ _).1 (wk_name K hg u _).1 (wk_myR _ _).2 (wk_name K hg u _).2 (by rw [res_len]; (first | lia | omega)) (ihb _ _ _ _ _ p (by (first | lia | omega)) h1)) (ih _ _ _ _ _ (capB_intro (capB_leave (capB_leave q))) (by (first | lia | omega)) h2)
end
theorem stms_len (M : Nm) (b : B) : (stms M b).length = len b := by rw [← gns_stms, List.length_map, gns_len]
theorem wk_stms : ∀ (b : B) (sn : Seen) (n d : Nat), Ty0 b sn n d → ∀ x ∈ stms nmOne b, Wk (dW d) x := by
  intro b
  induction b with
  | nil => intro sn n d _ x hx; cases hx
  | asg t u r ih => intro sn n d ⟨_, _, h3⟩; exact all_cons ((wk_asg (wk_my0 _).1 (wk_name0 _).1).mono (dW_ge d)) (ih _ _ _ h3)
  | two u v r ih => intro sn n d ⟨_, _, h3⟩; exact all_cons ((wk_two (wk_name0 _).1 (wk_name0 _).1).mono (dW_ge d)) (ih _ _ _ h3)
  | bare b r ihb ih =>
    intro sn n d ⟨k, e, hl, h1, h2⟩; subst e
    exact all_cons (wk_bare (by rw [stms_len]; (first | lia | omega)) (ihb _ _ _ h1)) (ih _ _ _ h2)
  | sub b r ihb ih =>
    intro sn n d ⟨k, e, hl, h1, h2⟩; subst e
    have := dW_ge k
    exact all_cons (wk_sub (by rw [stms_len]; (first | lia | omega)) (ihb _ _ _ h1) (by simp) all_nil (by (first | lia | omega))) (ih _ _ _ h2)
  | each t u b r ihb ih =>
    intro sn n d ⟨k, e, _, _, hl, h1, h2⟩; subst e
    exact all_cons (wk_each (wk_my0 _).1 (wk_name0 _).1 (by rw [stms_len]; (first | lia | omega)) (ihb _ _ _ h1)) (ih _ _ _ h2)
  | cond t u b r ihb ih =>
    intro sn n d ⟨k, e, _, _, hl, h1, h2⟩; subst e
    exact all_cons (wk_cond (wk_my0 _).1 (wk_name0 _).1 (wk_my0 _).2 (wk_name0 _).2 (by rw [stms_len]; (first | lia | omega)) (ihb _ _ _ h1)) (ih _ _ _ h2)
theorem wk_prog {gn : U → Str} (hg : ∀ u, okName (gn u)) {b : B} (hl : len b ≤ 5) (hc : nF b ≤ 1000) (h : Ty0 b [] 0 3) : Wk 22 (progG gn b) :=
  wk_node (n := 21) (by decide +kernel) (by decide +kernel) (by simp) (all_cons (wk_block (n := 19) (by rw [res_len]; (first | lia | omega)) (wk_res (gK gn) hg b _ 0 _ _ 3 (capB_enter (capB_new fun q hq => nomatch hq)) (by (first | lia | omega)) h)) (all_cons wk_int all_nil))
end
section
/-- how many statements in all -/
noncomputable def nS : B → Nat
  | .nil => 0
  | .asg _ _ r => 1 + nS r
  | .two _ _ r => 1 + nS r
  | .bare b r => 1 + nS b + nS r
  | .sub b r => 1 + nS b + nS r
  | .each _ _ b r => 1 + nS b + nS r
  | .cond _ _ b r => 1 + nS b + nS r
theorem nF_le (b : B) : nF b ≤ 2 * nS b := by
  induction b with
  | nil => exact Nat.le_refl _
  | _ => simp only [nF, nS]; (first | lia | omega)
theorem turn_left {is : List Int} {deep : Bool} {inner : Seen → BS → B × BS} (hin : ∀ s b, (inner s b).2.left + nS (inner s b).1 ≤ b.left) {s : Seen} {b : BS} (h0 : b.left ≠ 0) :
    ∀ r : B × BS, r.2.left + nS r.1 ≤ (bTurn is deep inner s b).2.1.left → r.2.left + nS ((bTurn is deep inner s b).1 r.1) ≤ b.left := by
  unfold bTurn
  dsimp only
  generalize draw is b.at_ (if deep = true then 6 else 2) = way
  have hb1l : ({ b with left := b.left - 1, at_ := b.at_ + 1 } : BS).left = b.left - 1 := rfl
  generalize ({ b with left := b.left - 1, at_ := b.at_ + 1 } : BS) = b1 at *
  split
  · intro r hr
    have e1 : (bUse is s (bTell is b1).2).2.left = b1.left := rfl
    simp only [nS]; dsimp only at hr; (first | lia | omega)
  · split
    · intro r hr
      have e1 : (bUse is s (bUse is s b1).2).2.left = b1.left := rfl
      simp only [nS]; dsimp only at hr; (first | lia | omega)
    · split
      · intro r hr
        have := hin s b1
        simp only [nS]; dsimp only at hr; (first | lia | omega)
      · split
        · intro r hr
          have := hin s b1
          simp only [nS]; dsimp only at hr; (first | lia | omega)
        · intro r hr
          have := hin (put s (tkey (bTell is b1).1) (bTell is b1).1.id) (bUse is s (bTell is b1).2).2
          have e1 : (bUse is s (bTell is b1).2).2.left = b1.left := rfl
          dsimp only at hr
          split <;> (simp only [nS]; (first | lia | omega))
theorem loop_left {is : List Int} {deep : Bool} {inner : Seen → BS → B × BS} (hin : ∀ s b, (inner s b).2.left + nS (inner s b).1 ≤ b.left) : ∀ (n : Nat) (s : Seen) (b : BS), (bLoop is deep inner n s b).2.left + nS (bLoop is deep inner n s b).1 ≤ b.left := by
  intro n
  induction n with
  | zero => intro s b; exact Nat.le_refl _
  | succ n ih =>
    intro s b
    rw [bLoop]
    split
    · exact Nat.le_refl _
    · rename_i h0
      exact turn_left hin h0 (_, _) (ih _ _)
theorem blk_left (is : List Int) : ∀ (d : Nat) (s : Seen) (b : BS), (blk is d s b).2.left + nS (blk is d s b).1 ≤ b.left := by
  intro d
  induction d with
  | zero => intro s b; exact loop_left (is := is) (deep := false) (inner := fun _ b => (.nil, b)) (fun s b => Nat.le_refl _) _ s { b with at_ := b.at_ + 1 }
  | succ d ih => intro s b; exact loop_left (is := is) (deep := true) (inner := blk is d) ih _ s { b with at_ := b.at_ + 1 }
section
variable {prog : Program} {w : World} {A : Around} {E : Value → Shared → Prop} {h : Heap} {gn : Array GenState} {dr : Drawn} {tk : Nat} {os : OsState} {hB : Heap} {g : PM} {L : Addr} {m : Str → Option Value} {I Mu : PM} {Q : Value → Shared → Prop}
theorem wk_shaped {n : Nat} {d : D} (hw : Wk n d) (hn : n ≤ 64) : SeqAt.shaped (pD d) = true := by
  have := hw.shaped
  simp only [SeqAt.shaped, this.1, Bool.true_and, decide_eq_true_eq]; (first | lia | omega)
theorem r_neD {v1 v2 : Value} {d : D} {n : Nat} (S : St hB g L m I Mu h) (h1 : Is I v1 d) (h2 : Is I v2 d) (hw : Wk n d) (hn : n ≤ 64) (hu : A.units + 64 < cLine) (q : Q (.bool false) ⟨h, gn, dr, tk, os⟩) :
    wpAny (model prog w) A (compareOp .NotEq v1 v2) Q E ⟨h, gn, dr, tk, os⟩ := by
  obtain ⟨as, r1⟩ := Is.reads (h := h) (fun a o e => (S.imm a o e).1) h1
  obtain ⟨bs, r2⟩ := Is.reads (h := h) (fun a o e => (S.imm a o e).1) h2
  refine ne_dataH (s := ⟨h, gn, dr, tk, os⟩) r1 r2 (wk_shaped hw hn) (wk_shaped hw hn) hu ?_
  rw [SeqAt.eqv_refl _ hw.shaped.1]; exact q
theorem r_eqD {v1 v2 : Value} {d : D} {n : Nat} (S : St hB g L m I Mu h) (h1 : Is I v1 d) (h2 : Is I v2 d) (hw : Wk n d) (hn : n ≤ 64) (hu : A.units + 64 < cLine) (q : Q (.bool true) ⟨h, gn, dr, tk, os⟩) :
    wpAny (model prog w) A (compareOp .Eq v1 v2) Q E ⟨h, gn, dr, tk, os⟩ := by
  obtain ⟨as, r1⟩ := Is.reads (h := h) (fun a o e => (S.imm a o e).1) h1
  obtain ⟨bs, r2⟩ := Is.reads (h := h) (fun a o e => (S.imm a o e).1) h2
  refine eq_dataH (s := ⟨h, gn, dr, tk, os⟩) r1 r2 (wk_shaped hw hn) (wk_shaped hw hn) hu ?_
  rw [SeqAt.eqv_refl _ hw.shaped.1]; exact q
end
theorem wk_ints (a b c : Int) : Wk 1 (.tup [.int a, .int b, .int c]) := ⟨⟨by simp, trivial⟩, all_cons wk_int (all_cons wk_int (all_cons wk_int all_nil))⟩
theorem rk1 {kvs : List (Str × Value)} {k : Str} {n : Int} {r : List (Str × Int)} (h : RKvs IntI kvs ((k, n) :: r)) : ∃ t kvs', kvs = (k, .int n t) :: kvs' ∧ RKvs IntI kvs' r := by
  cases h with
  | cons a r =>
    obtain ⟨t, rfl⟩ := a
    exact ⟨t, _, rfl, r⟩
theorem rk0 {kvs : List (Str × Value)} (h : RKvs IntI kvs []) : kvs = [] := by
  cases h; rfl
theorem talAt7 {prog : Program} {w : World} {Mu : PM} {d : Addr} {v : V} (h : TalAt prog w Mu d (f7 v)) : ∃ o t1 t2 t3 t4 t5 t6 t7, Mu d = some o ∧ o.IsDictOf (strKind prog w) [("mys", .int v.ms t1), ("mya", .int v.ma t2), ("pads", .int v.ps t3), ("pada", .int v.pa t4), ("globs", .int v.gs t5), ("globa", .int v.ga t6), ("subdef", .int v.sd t7)] := by
  obtain ⟨o, kvs, h1, h2, h3⟩ := h
  obtain ⟨t1, k1, e1, r1⟩ := rk1 h3
  obtain ⟨t2, k2, e2, r2⟩ := rk1 r1
  obtain ⟨t3, k3, e3, r3⟩ := rk1 r2
  obtain ⟨t4, k4, e4, r4⟩ := rk1 r3
  obtain ⟨t5, k5, e5, r5⟩ := rk1 r4
  obtain ⟨t6, k6, e6, r6⟩ := rk1 r5
  obtain ⟨t7, k7, e7, r7⟩ := rk1 r6
  refine ⟨o, t1, t2, t3, t4, t5, t6, t7, h1, ?_⟩
  rw [e1, e2, e3, e4, e5, e6, e7, rk0 r7] at h2
  exact h2
end
section
local macro_rules | `(tactic| walk_at "s2") => `(tactic| with_reducible refine PyProof.Rows.ne_int ?_)
section
variable {prog : Program} {w : World} {A : Around} {E : Value → Shared → Prop} {h : Heap} {gn : Array GenState} {dr : Drawn} {tk : Nat} {os : OsState} {env : Env} {hB : Heap} {g : PM} {L : Addr} {m : Str → Option Value} {I Mu : PM} {value slice : PySem.Expr}
theorem r_lsliceT {l : Addr} {vs : List Value} {is : List Int} {j : Int} {u : Tok} {Q : Value → Shared → Prop} (S : St hB g L m I Mu h) (hl : h.IsList l vs.toArray) (hi : IntsAre vs is) (hj : 0 ≤ j) (hz : vs.length ≤ 1000000)
    (q : ∀ D h' I' vs', I.le I' → I' D = some (lstO vs' 0) → IntsAre vs' (is.take j.toNat) → St hB g L m I' Mu h' → Q (.ref D) ⟨h', gn, dr, tk, os⟩)
    (hs : subscripted slice false (.ref l) (.ref h.objs.size) = operate [.ref h.objs.size, .ref l] (getItem (.ref l) (.ref h.objs.size)) := by with_unfolding_all rfl)
    (ht : ∀ r, letTemporaryGo value (.ref l) r = pure () := by intro _; with_unfolding_all rfl) :
    wpAny (model prog w) A (subscriptTail value slice (.ref l) (.ref h.objs.size)) Q E ⟨h.push { cls := .type "slice", data := .fields #[.none, .int j u, .none] }, gn, dr, tk, os⟩ := by
  refine slice_listK (s := ⟨h, gn, dr, tk, os⟩) hl .none (.int j u) ?_ hs ht (by rw [List.size_toArray, sizeLine_eq]; (first | lia | omega))
  have S1 := S.push { cls := .type "slice", data := .fields #[.none, .int j u, .none] }
  have e : h.objs.size + 1 = (h.push { cls := .type "slice", data := .fields #[.none, .int j u, .none] }).objs.size := by rw [Heap.size_push]
  show Q (.ref (h.objs.size + 1)) _
  rw [e]
  exact q _ _ _ (slicePick vs.toArray none (some j) none).toList (PM.le_upd S1.fresh.1) (by rw [PM.upd_self]) (slice_ints_uptoW hi hj) (S1.pushI _)
end
theorem fin.tw10070804522480449196 : True := trivial
theorem fin.tw10098057777631523497 : True := trivial
theorem fin.tw1012361349325877821 : True := trivial
theorem fin.tw1014637456484912126 : True := trivial
theorem fin.tw10147658903529517814 : True := trivial
theorem fin.tw10196768644732416780 : True := trivial
theorem fin.tw10329872625359487480 : True := trivial
theorem fin.tw10391319463526535247 : True := trivial
theorem fin.tw10511823565363050587 : True := trivial
theorem fin.tw10580198807604790814 : True := trivial
theorem fin.tw10599938827571368224 : True := trivial
theorem fin.tw10671828304227620169 : True := trivial
theorem fin.tw10807920368746810246 : True := trivial
theorem fin.tw10829458402184033698 : True := trivial
theorem fin.tw10852849658779182186 : True := trivial
theorem fin.tw10875463905939285979 : True := trivial
theorem fin.tw10891054232620793217 : True := trivial
theorem fin.tw10895054467252067526 : True := trivial
theorem fin.tw11039862389202566683 : True := trivial
theorem fin.tw11079828417688620724 : True := trivial
theorem fin.tw11102211075282905558 : True := trivial
theorem fin.tw11112386831996348380 : True := trivial
theorem fin.tw111200028466390044 : True := trivial
theorem fin.tw11151619158091525091 : True := trivial
theorem fin.tw11154830654865731599 : True := trivial
theorem fin.tw11192643925408225281 : True := trivial
theorem fin.tw11273041486466551846 : True := trivial
theorem fin.tw11293339424137598113 : True := trivial
theorem fin.tw11298980531735778240 : True := trivial
theorem fin.tw11466478281803324712 : True := trivial
theorem fin.tw11575174756993882273 : True := trivial
theorem fin.tw11897717083992391400 : True := trivial
theorem fin.tw11953781441336167498 : True := trivial
theorem fin.tw12105171945263650130 : True := trivial
theorem fin.tw12118000046449163591 : True := trivial
theorem fin.tw12135189313929291683 : True := trivial
theorem fin.tw12141802397888321627 : True := trivial
theorem fin.tw12180539936304867106 : True := trivial
theorem fin.tw12237877928780879103 : True := trivial
theorem fin.tw12284014389350100970 : True := trivial
theorem fin.tw12291753297600562012 : True := trivial
theorem fin.tw12355744275394475900 : True := trivial
theorem fin.tw12409915417874342407 : True := trivial
theorem fin.tw12448240930570709186 : True := trivial
theorem fin.tw12464766053444552404 : True := trivial
theorem fin.tw1249118550022496774 : True := trivial
theorem fin.tw12494888245299231016 : True := trivial
theorem fin.tw1252854909445205041 : True := trivial
theorem fin.tw12550770813317053977 : True := trivial
theorem fin.tw12567809125941998234 : True := trivial
theorem fin.tw12629903358213643309 : True := trivial
theorem fin.tw12696600883282566439 : True := trivial
theorem fin.tw12829507556594621215 : True := trivial
theorem fin.tw12869217540446652890 : True := trivial
theorem fin.tw12876064707754696378 : True := trivial
theorem fin.tw12876116671307685997 : True := trivial
theorem fin.tw12962497063298326498 : True := trivial
theorem fin.tw12977279227502587607 : True := trivial
theorem fin.tw12996517811204074000 : True := trivial
theorem fin.tw13066358836101814915 : True := trivial
theorem fin.tw13162651487661262736 : True := trivial
theorem fin.tw13177410634674063896 : True := trivial
theorem fin.tw13195495257031163578 : True := trivial
theorem fin.tw13294311002278339166 : True := trivial
theorem fin.tw13360279666012451719 : True := trivial
theorem fin.tw13383306551100868464 : True := trivial
theorem fin.tw13467322939085005891 : True := trivial
theorem fin.tw13516622038369049944 : True := trivial
theorem fin.tw13724452099449386491 : True := trivial
theorem fin.tw13790858721211988464 : True := trivial
theorem fin.tw13870153662132920491 : True := trivial
theorem fin.tw13925877587632400325 : True := trivial
theorem fin.tw13929302177132474383 : True := trivial
theorem fin.tw13948639791554836966 : True := trivial
theorem fin.tw14109310954907245088 : True := trivial
theorem fin.tw14210890002308233579 : True := trivial
theorem fin.tw14245171486683049214 : True := trivial
theorem fin.tw14347400895652799225 : True := trivial
theorem fin.tw14365839007642131201 : True := trivial
theorem fin.tw14431720936831517352 : True := trivial
theorem fin.tw14497727239971306367 : True := trivial
theorem fin.tw14517287926952318261 : True := trivial
theorem fin.tw14560573928864763818 : True := trivial
theorem fin.tw14568449535678555946 : True := trivial
theorem fin.tw14578271805448956485 : True := trivial
theorem fin.tw14679806638718605512 : True := trivial
theorem fin.tw14785452698993717334 : True := trivial
theorem fin.tw14814673180317915700 : True := trivial
theorem fin.tw14856888987745899463 : True := trivial
theorem fin.tw15149952090015108872 : True := trivial
theorem fin.tw15205425988870721313 : True := trivial
theorem fin.tw15309079848183770524 : True := trivial
theorem fin.tw15344004072050561172 : True := trivial
theorem fin.tw15352680317512419463 : True := trivial
theorem fin.tw1535588207084551279 : True := trivial
theorem fin.tw15373703851562958014 : True := trivial
theorem fin.tw15399907426655090358 : True := trivial
theorem fin.tw1544503264643628384 : True := trivial
theorem fin.tw15512424828744832100 : True := trivial
theorem fin.tw15533503492667675913 : True := trivial
theorem fin.tw15564276425815640635 : True := trivial
theorem fin.tw15566928917628492161 : True := trivial
theorem fin.tw15815952407149668801 : True := trivial
theorem fin.tw15832999045522443761 : True := trivial
theorem fin.tw15852077949545257360 : True := trivial
theorem fin.tw16103849850496634939 : True := trivial
theorem fin.tw16115155874713506467 : True := trivial
theorem fin.tw1613116972386908190 : True := trivial
theorem fin.tw16175276709679454751 : True := trivial
theorem fin.tw16196181902256332553 : True := trivial
theorem fin.tw16205109500356779066 : True := trivial
theorem fin.tw16229209127682248589 : True := trivial
theorem fin.tw16237762584071213788 : True := trivial
theorem fin.tw1625080806587739848 : True := trivial
theorem fin.tw16252508478716706905 : True := trivial
theorem fin.tw16256441300576474876 : True := trivial
theorem fin.tw16275787546110486726 : True := trivial
theorem fin.tw16285329926789087883 : True := trivial
theorem fin.tw16307707646766795581 : True := trivial
theorem fin.tw16401934584784274106 : True := trivial
theorem fin.tw16407147864228438881 : True := trivial
theorem fin.tw16496857829328116044 : True := trivial
theorem fin.tw16510490156224867327 : True := trivial
theorem fin.tw16530489862217454893 : True := trivial
theorem fin.tw16540275574145912595 : True := trivial
theorem fin.tw16570786720924097770 : True := trivial
theorem fin.tw16656299143469825513 : True := trivial
theorem fin.tw16889484823980962733 : True := trivial
theorem fin.tw16934629359412608497 : True := trivial
theorem fin.tw16958243865122950064 : True := trivial
theorem fin.tw16980078003425100165 : True := trivial
theorem fin.tw17041991840579044601 : True := trivial
theorem fin.tw17130245016438642246 : True := trivial
theorem fin.tw17197158672614542318 : True := trivial
theorem fin.tw17204297501091165112 : True := trivial
theorem fin.tw17347454772498655404 : True := trivial
theorem fin.tw17362494058136835672 : True := trivial
theorem fin.tw17416127249078093707 : True := trivial
theorem fin.tw17449020081951674710 : True := trivial
theorem fin.tw17570709534508481193 : True := trivial
theorem fin.tw17628183408451194143 : True := trivial
theorem fin.tw17656766251404061198 : True := trivial
theorem fin.tw17662344363894024548 : True := trivial
theorem fin.tw17698704350827878285 : True := trivial
theorem fin.tw17719728818120068181 : True := trivial
theorem fin.tw17784850919643140607 : True := trivial
theorem fin.tw17801579834951734752 : True := trivial
theorem fin.tw17821466097196317003 : True := trivial
theorem fin.tw17861066769153400444 : True := trivial
theorem fin.tw17896612028031085017 : True := trivial
theorem fin.tw17963964198891936676 : True := trivial
theorem fin.tw17974384156558142227 : True := trivial
theorem fin.tw18082680734076937219 : True := trivial
theorem fin.tw18105285910621931680 : True := trivial
theorem fin.tw18105942590061964161 : True := trivial
theorem fin.tw18195182924450695511 : True := trivial
theorem fin.tw18230178534529381785 : True := trivial
theorem fin.tw18387650150990424433 : True := trivial
theorem fin.tw1887099378405440850 : True := trivial
theorem fin.tw1921391257341544841 : True := trivial
theorem fin.tw1963134401048803436 : True := trivial
theorem fin.tw1976505206021243879 : True := trivial
theorem fin.tw1982079694162106894 : True := trivial
theorem fin.tw2086631506510373192 : True := trivial
theorem fin.tw216489041496292469 : True := trivial
theorem fin.tw2226738975062844091 : True := trivial
theorem fin.tw2242104933262866289 : True := trivial
theorem fin.tw2304379251839397102 : True := trivial
theorem fin.tw2305881189932309285 : True := trivial
theorem fin.tw2321816554428607280 : True := trivial
theorem fin.tw2367325634123391141 : True := trivial
theorem fin.tw2415902012162501839 : True := trivial
theorem fin.tw2462912638960843985 : True := trivial
theorem fin.tw2512408688544751470 : True := trivial
theorem fin.tw251868834278440796 : True := trivial
theorem fin.tw2537931557510868981 : True := trivial
theorem fin.tw2608567993692976607 : True := trivial
theorem fin.tw2656788454239962097 : True := trivial
theorem fin.tw2866121171748074186 : True := trivial
theorem fin.tw2910385600587045654 : True := trivial
theorem fin.tw2976117146107443816 : True := trivial
theorem fin.tw3004984022683251337 : True := trivial
theorem fin.tw3105451386036433885 : True := trivial
theorem fin.tw3125960719983571848 : True := trivial
theorem fin.tw3173534031939492945 : True := trivial
theorem fin.tw3199103547748192838 : True := trivial
theorem fin.tw3222278782482380304 : True := trivial
theorem fin.tw3263211703599914710 : True := trivial
theorem fin.tw3268265519342814607 : True := trivial
theorem fin.tw3343445320678177929 : True := trivial
theorem fin.tw3404873503106905745 : True := trivial
theorem fin.tw3456623496861543869 : True := trivial
theorem fin.tw3459265974087741279 : True := trivial
theorem fin.tw3477168479485107808 : True := trivial
theorem fin.tw3599858809825778643 : True := trivial
theorem fin.tw370055999562510780 : True := trivial
theorem fin.tw3762306804915933987 : True := trivial
theorem fin.tw3810338749695602999 : True := trivial
theorem fin.tw3812028171767442716 : True := trivial
theorem fin.tw3837020019201816242 : True := trivial
theorem fin.tw3974152918291533672 : True := trivial
theorem fin.tw3975253019698251321 : True := trivial
theorem fin.tw3998398428148030388 : True := trivial
theorem fin.tw4040260094072895976 : True := trivial
theorem fin.tw4162185377826839926 : True := trivial
theorem fin.tw4170516301191304579 : True := trivial
theorem fin.tw4209717502836232480 : True := trivial
theorem fin.tw428092273266315144 : True := trivial
theorem fin.tw4312942655851389009 : True := trivial
theorem fin.tw4326780796455107134 : True := trivial
theorem fin.tw4421188736382965993 : True := trivial
theorem fin.tw452842511749404161 : True := trivial
theorem fin.tw4598667867955821814 : True := trivial
theorem fin.tw4640724917100965312 : True := trivial
theorem fin.tw4684940682943077961 : True := trivial
theorem fin.tw4719063310657182621 : True := trivial
theorem fin.tw4754365596532378047 : True := trivial
theorem fin.tw4759752924163587094 : True := trivial
theorem fin.tw4768634762848416435 : True := trivial
theorem fin.tw4788878847521262168 : True := trivial
theorem fin.tw480829909506669009 : True := trivial
theorem fin.tw4816591812421909578 : True := trivial
theorem fin.tw4868334931027891882 : True := trivial
theorem fin.tw4879674094562380441 : True := trivial
theorem fin.tw4898026214463823928 : True := trivial
theorem fin.tw4924110625330727750 : True := trivial
theorem fin.tw4928979718650693569 : True := trivial
theorem fin.tw4950403968356008110 : True := trivial
theorem fin.tw5073790198343104882 : True := trivial
theorem fin.tw5098551885099359569 : True := trivial
theorem fin.tw5102460946473063141 : True := trivial
theorem fin.tw5293390819737331289 : True := trivial
theorem fin.tw5402249366112354979 : True := trivial
theorem fin.tw544173102793226557 : True := trivial
theorem fin.tw5486226609284752418 : True := trivial
theorem fin.tw5609857593399385479 : True := trivial
theorem fin.tw5678346346211369953 : True := trivial
theorem fin.tw5734618986648460908 : True := trivial
theorem fin.tw5776136370200156792 : True := trivial
theorem fin.tw5796354222422608987 : True := trivial
theorem fin.tw5805905742469029177 : True := trivial
theorem fin.tw5897612983314593646 : True := trivial
theorem fin.tw6068950659093879613 : True := trivial
theorem fin.tw6081921254191324426 : True := trivial
theorem fin.tw612862322836996645 : True := trivial
theorem fin.tw6207176494656529804 : True := trivial
theorem fin.tw6232080684201472732 : True := trivial
theorem fin.tw6323506392446703087 : True := trivial
theorem fin.tw6381419901266130222 : True := trivial
theorem fin.tw6454446336052903152 : True := trivial
theorem fin.tw6455845175183424153 : True := trivial
theorem fin.tw6515953530934532768 : True := trivial
theorem fin.tw6531376189190222733 : True := trivial
theorem fin.tw6548487228075310757 : True := trivial
theorem fin.tw6566618420281934 : True := trivial
theorem fin.tw6567050819087999508 : True := trivial
theorem fin.tw6650461044873433052 : True := trivial
theorem fin.tw6667815254911646788 : True := trivial
theorem fin.tw670465573061467203 : True := trivial
theorem fin.tw6707113841082798463 : True := trivial
theorem fin.tw6712194924023145494 : True := trivial
theorem fin.tw6766580051018981234 : True := trivial
theorem fin.tw6956187926921108005 : True := trivial
theorem fin.tw6968583824967984638 : True := trivial
theorem fin.tw7000300075881102575 : True := trivial
theorem fin.tw7055459427971326715 : True := trivial
theorem fin.tw7249652514872940865 : True := trivial
theorem fin.tw7282745182861764756 : True := trivial
theorem fin.tw7321584467024264148 : True := trivial
theorem fin.tw7380833856163905736 : True := trivial
theorem fin.tw7470013935711676318 : True := trivial
theorem fin.tw7515607724385617133 : True := trivial
theorem fin.tw7522001649326652513 : True := trivial
theorem fin.tw7613857476909055813 : True := trivial
theorem fin.tw7613945582906998725 : True := trivial
theorem fin.tw7675655780812522254 : True := trivial
theorem fin.tw7684487725183542926 : True := trivial
theorem fin.tw7803649310394182010 : True := trivial
theorem fin.tw7845872953664198349 : True := trivial
theorem fin.tw7890596953891613788 : True := trivial
theorem fin.tw7976502392129159676 : True := trivial
theorem fin.tw799341379326975648 : True := trivial
theorem fin.tw7995362448368537469 : True := trivial
theorem fin.tw8018989035897545986 : True := trivial
theorem fin.tw8025084765662995669 : True := trivial
theorem fin.tw807531904560671035 : True := trivial
theorem fin.tw8119881530291889089 : True := trivial
theorem fin.tw8269367382603917829 : True := trivial
theorem fin.tw8272817396058243321 : True := trivial
theorem fin.tw8289400949097046189 : True := trivial
theorem fin.tw8330952907988395303 : True := trivial
theorem fin.tw8352470293576582857 : True := trivial
theorem fin.tw8383268338085895543 : True := trivial
theorem fin.tw8399098705505230059 : True := trivial
theorem fin.tw846297522682114974 : True := trivial
theorem fin.tw8559517257967667466 : True := trivial
theorem fin.tw8577089030196625639 : True := trivial
theorem fin.tw8589540210433840191 : True := trivial
theorem fin.tw8590288500278120515 : True := trivial
theorem fin.tw8643116662766533202 : True := trivial
theorem fin.tw8656503046869711584 : True := trivial
theorem fin.tw8668149382578428375 : True := trivial
theorem fin.tw876206183137641144 : True := trivial
theorem fin.tw891787732878383699 : True := trivial
theorem fin.tw8919302590299486024 : True := trivial
theorem fin.tw8947099994592609211 : True := trivial
theorem fin.tw895571856199123645 : True := trivial
theorem fin.tw9001875181463519149 : True := trivial
theorem fin.tw9113340658982188547 : True := trivial
theorem fin.tw9218923581257491847 : True := trivial
theorem fin.tw9357874355931990178 : True := trivial
theorem fin.tw9363291351745731410 : True := trivial
theorem fin.tw9387745189664136937 : True := trivial
theorem fin.tw9722632081671974098 : True := trivial
theorem fin.tw9725021084223525626 : True := trivial
theorem fin.tw9735714214384596553 : True := trivial
theorem fin.tw9746901515087519452 : True := trivial
theorem fin.tw9806666330580929782 : True := trivial
theorem fin.tw9913140749668108558 : True := trivial
theorem fin.tw999798209818781672 : True := trivial
set_option Elab.async true
set_option maxRecDepth 100000 in
set_option maxHeartbeats 8000000 in
theorem fin : PySem.Challenge.rw_sm0085_01.Holds := by
    w_on
    o_law
    o_head (kHook KK [61, 75, 105, 119, 126, 133, 140, 147, 154, 166, 173, 180, 222, 229, 236, 243, 250, 271, 284, 289, 296, 305, 312, 319, 324, 329, 336, 343, 60, 74, 104, 118, 125, 132, 139, 146, 153, 165, 172, 179, 221, 228, 235, 242, 249, 270, 283, 288, 295, 304, 311, 318, 323, 328, 335, 342, 3, 54, 90, 106, 107, 108, 109, 110, 279, 297, 298] (fun _ => by kernel_rfl))
    case hw => w_witness2
    intro w s₀ s₁ mg mb G Y fa o pm cd doc dV kV ho hd hcd hD hmg hg args vals as hpre hlay hrd hwl hlo
    have KX := kIn_of Y
    k_behind G ho hd hcd hD hmg hpre hlay hrd hwl hlo cd
    all_goals try k_fold
    rename (Frag.In _ _) => KX
    rename (Top _ _ _ _ _ _) => T
    rename (Fr _ _ _ _) => F
    rename (IntsAre _ _) => hI
    rename (Heap.IsList _ _ _) => hL
    rename (Shared) => s1
    rename (World) => w
    rename (List Int) => is
    rename (¬ _ < _) => hlen
    rename (s1.gens = #[]) => hg
    try dsimp only
    refine wpAny_mono (Q := fun fl s' => ∃ h' tk' m', fl = .ret (.bool true) ∧ s' = ⟨h', s1.gens, s1.drawn, tk', s1.os⟩ ∧ Fr s1.heap s1.heap.objs.size h' m') (E := fun _ _ => False) ?walk ?fin (fun _ _ x => x.elim)
    case fin =>
      rintro fl s' ⟨h', tk', m', rfl, rfl, F'⟩
      try dsimp only
      wrow_close
    case walk =>
      have Bs : Base (KK w.params) _ _ _ _ _ s1.heap := ⟨KX, T⟩
      have hno : s1.heap.get? s1.heap.objs.size = none := by
        cases e : s1.heap.get? s1.heap.objs.size with
        | none => rfl
        | some o => exact absurd (Heap.lt_size e) (Nat.lt_irrefl _)
      have S : St s1.heap (fun a => s1.heap.get? a) s1.heap.objs.size _ (fun _ => none) (fun _ => none) _ := ⟨F.ns, F.keep, F.above, fun _ _ e => e, hno, fun a o e => (nomatch e), fun a o e => (nomatch e), fun a o e => (nomatch e), fun a o e => (by rcases e with e | e <;> cases e)⟩
      have hL1 : Heap.IsList _ _ _ := (let ⟨o, ho, r⟩ := hL; ⟨o, F.keep _ _ ho, r⟩ : Heap.IsList (by assumption) _ _)
      generalize hA : callerA.deeper _ = A
      have hh : A.handled = none := by subst hA; rfl
      have hd1 : A.depth + 400 < recursionLimit := by subst hA; rw [depth_deeper]; decide
      have hu1 : A.units + 2000 < cLine := by
        subst hA
        show callerA.units + 3 + 2000 < cLine
        decide
      clear hA
      generalize henv : envOf _ _ _ _ _ = env
      have hE := EnvOk.of (show envX _ _ _ _ _ _ = env from henv)
      dsimp only at hE
      repeat walk_at "s2"
      refine r_dict S rfl rfl (by decide) (by decide) ?_
      intro c h1 hIc hMc S1
      refine r_pairC ?_
      repeat walk_at "s2"
      refine r_lsliceT S1 ?_ hI (by decide) ?_ ?_
      · exact (let ⟨o, ho, r⟩ := hL; ⟨o, S1.keep _ _ ho, r⟩)
      · rw [hI.length]; (first | lia | omega)
      intro r h2 I2 vs2 hle2 hr2 hi2 S2
      repeat walk_at "s2"
      refine r_pairC ?_
      repeat walk_at "s2"
      refine r_pairC ?_
      repeat walk_at "s2"
      refine r_pairC ?_
      repeat walk_at "s2"
      refine r_pairC ?_
      repeat walk_at "s2"
      refine r_pairC ?_
      repeat walk_at "s2"
      refine r_pairN ?_
      refine PairsOk.fin S2 (PM.upd_self _ _ _) (kvs := [("row", .ref r), ("at", .int 0 _), ("left", .int 16 _), ("fresh", .int 0 _), ("told", .int 0 _), ("open", .int 0 _)]) ⟨strKind_is _ w _ _, rfl, strKind_is _ w _ _, rfl, strKind_is _ w _ _, rfl, strKind_is _ w _ _, rfl, strKind_is _ w _ _, rfl, strKind_is _ w _ _, rfl, trivial⟩ ?_
      intro h3 o3 tk3 S3 ho3
      walk_at "st"; intro h4 S4
      refine hideP ?_; intro _ hG_; obtain ⟨m4, Mu4, hcm, hCan, S4'⟩ : ∃ m4 Mu4, m4 "can" = some (.ref c) ∧ CanAt Challenge.rw_sm0085_01.row.prog w Mu4 c r ⟨0, 16, 0, 0, 0⟩ ∧ St s1.heap (fun a => s1.heap.get? a) s1.heap.objs.size m4 I2 Mu4 h4 := ⟨_, _, rfl, ⟨o3, _, _, _, _, _, PM.upd_self _ _ _, ho3⟩, S4⟩; refine hG_ ?_; clear hG_
      clear S S1 S2 S3 S4 hL1
      try dsimp only
      walk_at "hid"; refine r_cons ?_; intro _ _; refine (Assign_Tuple ?_ rfl (by rewrite [← henv]; rfl))
      repeat walk_at "s2"
      refine r_dictE S4' ?_
      intro d h5 hId hMd S5
      repeat walk_at "s2"
      have hdc : d ≠ c := fun e => by
        refine hideP ?_; intro _ hG_; obtain ⟨o, _, _, _, _, _, e1, _⟩ := hCan; refine hG_ ?_; clear hG_
        rw [e, e1] at hMd; cases hMd
      have hCan5 : CanAt Challenge.rw_sm0085_01.row.prog w (Mu4.upd d emptyD) c r ⟨0, 16, 0, 0, 0⟩ := by
        refine hideP ?_; intro _ hG_; obtain ⟨o, t1, t2, t3, t4, t5, e1, e2⟩ := hCan; refine hG_ ?_; clear hG_
        exact ⟨o, t1, t2, t3, t4, t5, (PM.upd_ne _ _ hdc.symm).trans e1, e2⟩
      refine r_hide ?_; intro _ _; refine (block_ok Bs c r d 3 _ I2 _ ⟨0, 16, 0, 0, 0⟩ [] vs2 0 (is.take (60 : Int).toNat) hCan5 hr2 hi2 (by rw [List.length_take]; exact Nat.min_le_left _ _) ⟨emptyD, [], .inMu (PM.upd_self _ _ _), emptyD_is, .nil⟩ hdc (by decide) (by decide) (by decide)).go hh S5 (by (first | lia | omega)) (by (first | lia | omega)) ?_
      rintro v6 I6 Mu6 h6 tk6 S6 hle6 ⟨a6, v1, v2, rfl, ha6, i1, i2, hc6, -⟩
      obtain ⟨post, hlen5⟩ := blk_post (is.take (60 : Int).toNat) 3 [] ⟨0, 16, 0, 0, 0⟩ (by decide)
      have hleft := blk_left (is.take (60 : Int).toNat) 3 [] ⟨0, 16, 0, 0, 0⟩
      generalize blk (is.take (60 : Int).toNat) 3 [] ⟨0, 16, 0, 0, 0⟩ = x at *
      obtain ⟨b, B6⟩ := x
      dsimp only at i1 i2 hc6 post hlen5 hleft
      have hty := post.ty
      have hfr := post.fr
      have hto := post.to
      have hop := post.op
      dsimp only at hty hfr hto hop
      have hF : nF b ≤ 1000 := by have := nF_le b; (first | lia | omega)
      have wk1 : Wk 22 (progD (kf nmOne) b) := by rw [prog_one hty]; exact wk_prog okName_one hlen5 hF hty
      have wk2 : Wk 22 (longD (progD (kf nmOne) b)) := by rw [prog_one hty, long_prog]; exact wk_prog okName_long hlen5 hF hty
      have wk3 : Wk 21 (blockD (stms nmOne b)) := wk_block (n := 19) (by rw [stms_len]; (first | lia | omega)) (wk_stms b [] 0 3 hty)
      refine hideP ?_; intro _ hG_; obtain ⟨v, hv1, hv2, hv3, hv4, hv5⟩ := tally_one hty; refine hG_ ?_; clear hG_
      refine hideP ?_; intro _ hG_; obtain ⟨oc, c1, c2, c3, c4, c5, hcm6, hco⟩ := hc6; refine hG_ ?_; clear hG_
      obtain ⟨S6f, lf6⟩ := S6.freeze hcm6
      have hcI : (I6.upd c oc) c = some oc := PM.upd_self _ _ _
      replace ha6 := lf6 _ _ ha6
      replace i1 := i1.mono lf6
      replace i2 := i2.mono lf6
      generalize I6.upd c oc = I7 at *
      generalize Mu6.del c = Mu7 at *
      walk_at "hid"
      refine r_asgTup S6f hh (isT S6f (.inI ha6)) rfl rfl ?_
      intro h8 S8
      refine r_inOrdN ?_ rfl
      walk_at "st"; intro h9 S9
      refine r_inOrdN ?_ rfl
      walk_at "st"; intro h10 S10
      refine r_inOrdE ?_
      refine hideP ?_; intro _ hG_; obtain ⟨m10, hcm10, ho10, hx10, S10'⟩ : ∃ m10, m10 "can" = some (.ref c) ∧ m10 "one" = some v1 ∧ m10 "other" = some v2 ∧ St s1.heap (fun a => s1.heap.get? a) s1.heap.objs.size m10 I7 Mu7 h10 := ⟨_, hcm, rfl, rfl, S10⟩; refine hG_ ?_; clear hG_
      clear S4' S5 S6 S6f S8 S9 S10 hMd hId
      try dsimp only
      repeat walk_at "s2"
      refine r_newTup S10' (Nat.le_of_ble_eq_true rfl) ?_
      intro a11 h11 I11 hle11 ha11 S11
      repeat walk_at "s2"
      refine r_hide ?_; intro _ _; refine (program_ok Bs (ok_one hty) (by rw [gns_len]; exact hlen5) (.tup2 ha11 (.str _ _) (i1.mono hle11))).go hh S11 (by (first | lia | omega)) (by (first | lia | omega)) ?_
      rintro v12 I12 Mu12 h12 tk12 S12 hle12 hp12
      walk_at "st"; intro h13 S13
      refine hideP ?_; intro _ hG_; obtain ⟨m13, hcm13, ho13, hx13, hh13, S13'⟩ : ∃ m13, m13 "can" = some (.ref c) ∧ m13 "one" = some v1 ∧ m13 "other" = some v2 ∧ m13 "heard" = some v12 ∧ St s1.heap (fun a => s1.heap.get? a) s1.heap.objs.size m13 I12 Mu12 h13 := ⟨_, hcm10, ho10, hx10, rfl, S13⟩; refine hG_ ?_; clear hG_
      have hcI12 := hle12 _ _ (hle11 _ _ hcI)
      have i1' := (i1.mono hle11).mono hle12
      have i2' := (i2.mono hle11).mono hle12
      clear S10' S11 S12 S13
      try dsimp only
      repeat walk_at "s2"
      with_reducible refine' r_dict ?zS ?za ?zb ?zc ?zd ?_
      case zS => exact S13'
      case za => rfl
      case zb => rfl
      case zc => decide
      case zd => decide
      intro fd h14 hIf hMf S14
      refine r_pairC ?_
      repeat walk_at "s2"
      refine r_pairC ?_
      repeat walk_at "s2"
      refine r_pairC ?_
      repeat walk_at "s2"
      refine r_pairC ?_
      repeat walk_at "s2"
      refine r_pairC ?_
      repeat walk_at "s2"
      refine r_pairC ?_
      repeat walk_at "s2"
      refine r_pairC ?_
      repeat walk_at "s2"
      refine r_pairN ?_
      refine PairsOk.fin S14 (PM.upd_self _ _ _) (kvs := [("mys", .int 0 _), ("mya", .int 0 _), ("pads", .int 0 _), ("pada", .int 0 _), ("globs", .int 0 _), ("globa", .int 0 _), ("subdef", .int 0 _)]) ⟨strKind_is _ w _ _, rfl, strKind_is _ w _ _, rfl, strKind_is _ w _ _, rfl, strKind_is _ w _ _, rfl, strKind_is _ w _ _, rfl, strKind_is _ w _ _, rfl, strKind_is _ w _ _, rfl, trivial⟩ ?_
      intro h15 o15 tk15 S15 ho15
      repeat walk_at "s2"
      try dsimp only
      replace ho15 : o15.IsDictOf (strKind _ w) [("mys", .int 0 _), ("mya", .int 0 _), ("pads", .int 0 _), ("pada", .int 0 _), ("globs", .int 0 _), ("globa", .int 0 _), ("subdef", .int 0 _)] := ho15
      refine r_hide ?_; intro _ _; refine (tallied_ok Bs 22 _ wk1.sm.2 (f := f7 ⟨0, 0, 0, 0, 0, 0, 0⟩) (by simp [f7]) hp12 ⟨o15, _, PM.upd_self _ _ _, ho15, .cons ⟨_, rfl⟩ (.cons ⟨_, rfl⟩ (.cons ⟨_, rfl⟩ (.cons ⟨_, rfl⟩ (.cons ⟨_, rfl⟩ (.cons ⟨_, rfl⟩ (.cons ⟨_, rfl⟩ .nil))))))⟩).go hh S15 (by (first | lia | omega)) (by (first | lia | omega)) ?_
      rintro v16 I16 Mu16 h16 tk16 S16 hle16 ⟨rfl, hT16⟩
      rw [hv1] at hT16
      refine hideP ?_; intro _ hG_; obtain ⟨of, t1, t2, t3, t4, t5, t6, t7, hmf, hof⟩ := talAt7 hT16; refine hG_ ?_; clear hG_
      obtain ⟨S16f, lf16⟩ := S16.freeze hmf
      have hfI : (I16.upd fd of) fd = some of := PM.upd_self _ _ _
      have hcI16 := lf16 _ _ (hle16 _ _ hcI12)
      replace i1' := (i1'.mono hle16).mono lf16
      replace i2' := (i2'.mono hle16).mono lf16
      have hp16 := (hp12.mono hle16).mono lf16
      generalize I16.upd fd of = I17 at *
      generalize Mu16.del fd = Mu17 at *
      walk_at "st"; intro h17 S17
      refine hideP ?_; intro _ hG_; obtain ⟨m17, hcm17, ho17, hx17, hh17, hf17, S17'⟩ : ∃ m17, m17 "can" = some (.ref c) ∧ m17 "one" = some v1 ∧ m17 "other" = some v2 ∧ m17 "heard" = some v12 ∧ m17 "found" = some (.ref fd) ∧ St s1.heap (fun a => s1.heap.get? a) s1.heap.objs.size m17 I17 Mu17 h17 := ⟨_, hcm13, ho13, hx13, hh13, rfl, S17⟩; refine hG_ ?_; clear hG_
      clear S13' S14 S15 S16 S16f S17 hT16 hMf hIf
      try dsimp only
      repeat walk_at "s2"
      refine r_ditem S17' (.inI hfI) hof (by rfl) ?_
      repeat walk_at "s2"
      refine r_ditem S17' (.inI hfI) hof (by rfl) ?_
      repeat walk_at "s2"
      refine r_ditem S17' (.inI hfI) hof (by rfl) ?_
      repeat walk_at "s2"
      refine r_ditem S17' (.inI hfI) hof (by rfl) ?_
      repeat walk_at "s2"
      refine r_ditem S17' (.inI hfI) hof (by rfl) ?_
      repeat walk_at "s2"
      refine r_ditem S17' (.inI hfI) hof (by rfl) ?_
      repeat walk_at "s2"
      refine r_newTup S17' (Nat.le_of_ble_eq_true rfl) ?_
      intro a18 h18 I18 hle18 ha18 S18
      have hc18 := hle18 _ _ hcI16
      repeat walk_at "s2"
      refine r_ditem S18 (.inI hc18) hco (by rfl) ?_
      repeat walk_at "s2"
      refine r_ditem S18 (.inI hc18) hco (by rfl) ?_
      repeat walk_at "s2"
      refine r_ditem S18 (.inI hc18) hco (by rfl) ?_
      repeat walk_at "s2"
      refine r_newTup S18 (Nat.le_of_ble_eq_true rfl) ?_
      intro a19 h19 I19 hle19 ha19 S19
      have e1 : v.ms + v.ma = ((B6.fresh : Nat) : Int) := by (first | lia | omega)
      have e2 : v.ps + v.pa = ((B6.told : Nat) : Int) := by (first | lia | omega)
      have e3 : v.gs + v.ga = ((B6.opn : Nat) : Int) := by (first | lia | omega)
      repeat walk_at "s2"
      refine r_neD S19 (d := .tup [.int B6.fresh, .int B6.told, .int B6.opn]) (n := 1) (.tup3 (hle19 _ _ ha18) (by rw [e1]; exact .int _ _) (by rw [e2]; exact .int _ _) (by rw [e3]; exact .int _ _)) (.tup3 ha19 (.int _ _) (.int _ _) (.int _ _)) (wk_ints _ _ _) (by decide) (by (first | lia | omega)) ?_
      repeat walk_at "s2"
      refine hideP ?_; intro _ hG_; obtain ⟨ah, p1, p2, p3, eh, hah, ip1, ip2, ip3⟩ := (show Is I17 v12 (.tup [_, _, _]) from hp16).three; refine hG_ ?_; clear hG_
      subst eh
      cases ip3 with
      | int _ tsz =>
      have hle19' := PM.le_trans hle18 hle19
      have hah19 := hle19' _ _ hah
      have hf19 := hle19' _ _ hfI
      have hc19 := hle19' _ _ hcI16
      replace hp16 := hp16.mono hle19'
      replace i1' := i1'.mono hle19'
      replace i2' := i2'.mono hle19'
      have hz : (((sizeS (leaveS (res (kf nmOne) b (enterS [newSc])).2) : Nat) : Int) + v.sd != ((B6.fresh : Nat) : Int)) = false := by
        simp only [bne_eq_false_iff_eq]; (first | lia | omega)
      repeat walk_at "s2"
      refine r_titem S19 (.inI hah19) (by decide) (by decide) (by rfl) ?_
      repeat walk_at "s2"
      refine r_ditem S19 (.inI hf19) hof (by rfl) ?_
      repeat walk_at "s2"
      refine r_ditem S19 (.inI hc19) hco (by rfl) ?_
      repeat walk_at "s2"
      refine (if_neg (show ¬ (((sizeS (leaveS (res (kf nmOne) b (enterS [newSc])).2) : Nat) : Int) + v.sd != ((B6.fresh : Nat) : Int)) = true from by rw [hz]; exact Bool.false_ne_true)).mpr ?_
      repeat walk_at "s2"
      refine r_newTup S19 (Nat.le_of_ble_eq_true rfl) ?_
      intro a20 h20 I20 hle20 ha20 S20
      repeat walk_at "s2"
      refine r_hide ?_; intro _ _; refine (program_ok Bs (ok_other hty) (by rw [gns_len]; exact hlen5) (.tup2 ha20 (.str _ _) (i2'.mono hle20))).go hh S20 (by (first | lia | omega)) (by (first | lia | omega)) ?_
      rintro v21 I21 Mu21 h21 tk21 S21 hle21 hp21
      rw [prog_other hty, ← prog_one hty] at hp21
      replace hp16 := (hp16.mono hle20).mono hle21
      replace i1' := (i1'.mono hle20).mono hle21
      repeat walk_at "s2"
      refine r_neD S21 hp21 hp16 wk1 (by decide) (by (first | lia | omega)) ?_
      repeat walk_at "s2"
      refine r_hide ?_; intro _ _; refine (longer_ok Bs 21 _ wk3.sm.1 i1').go hh S21 (by (first | lia | omega)) (by (first | lia | omega)) ?_
      rintro v22 I22 Mu22 h22 tk22 S22 hle22 hp22
      rw [long_block, long_stms] at hp22
      repeat walk_at "s2"
      refine r_newTup S22 (Nat.le_of_ble_eq_true rfl) ?_
      intro a23 h23 I23 hle23 ha23 S23
      repeat walk_at "s2"
      refine r_hide ?_; intro _ _; refine (program_ok Bs (ok_long hty) (by rw [gns_len]; exact hlen5) (.tup2 ha23 (.str _ _) (hp22.mono hle23))).go hh S23 (by (first | lia | omega)) (by (first | lia | omega)) ?_
      rintro v24 I24 Mu24 h24 tk24 S24 hle24 hp24
      rw [prog_long hty, ← long_prog, ← prog_one hty] at hp24
      replace hp16 := ((hp16.mono hle22).mono hle23).mono hle24
      repeat walk_at "s2"
      refine r_hide ?_; intro _ _; refine (longer_ok Bs 22 _ wk1.sm.1 hp16).go hh S24 (by (first | lia | omega)) (by (first | lia | omega)) ?_
      rintro v25 I25 Mu25 h25 tk25 S25 hle25 hp25
      repeat walk_at "s2"
      refine r_eqD S25 (hp24.mono hle25) hp25 wk2 (by decide) (by (first | lia | omega)) ?_
      walk_at "hid"; exact ⟨_, _, _, rfl, rfl, S25.fr⟩
end
end Mine
set_option maxRecDepth 100000 in
theorem PySem.Challenge.cw_sm0085_01_holds : PySem.Challenge.rw_sm0085_01.Holds := by
  exact Mine.fin
