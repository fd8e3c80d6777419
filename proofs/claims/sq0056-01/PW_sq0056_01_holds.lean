import PyProof.Rows.All
import Wide.All
import OpenK.AllK
import Wide.FinOn
import PySem.Challenge.RW_sq0056_01
open PySem PySem.W PyProof.Rows PySem.Calls
set_option Elab.async false
set_option maxRecDepth 100000
set_option rowWalk.seconds 0
set_option linter.all false
set_option compiler.extract_closed false
noncomputable section
namespace Mine
section
abbrev pw : Program := PySem.Challenge.pw_sq0056_01
def nth : List Stmt → Nat → Stmt
  | [], _ => .Pass ⟨0, 0, 0, 0⟩
  | a :: _, 0 => a
  | _ :: r, n + 1 => nth r n
def st (i : Nat) : Stmt := nth pw.main.body i
def dB : Stmt → List Stmt
  | .FunctionDef _ _ b _ _ _ _ _ _ _ => b
  | .ClassDef _ _ _ b _ _ _ _ _ _ _ => b
  | _ => []
def mt (i j : Nat) : Stmt := nth (dB (st i)) j
def dP : Stmt → Arguments
  | .FunctionDef _ a _ _ _ _ _ _ _ _ => a
  | _ => { posonlyargs := [], args := [], vararg := none, kwonlyargs := [], kw_defaults := [], kwarg := none, defaults := [] }
def dS : Stmt → Scope
  | .FunctionDef _ _ _ _ _ _ s _ _ _ => s
  | _ => { kind := .function, names := [], isGenerator := false, isCoroutine := false }
noncomputable def K (P : Params) : Frag :=
  (nat_lit 3, ⟨.type "dict", none, .dict (List.toArray (⟨PyData.keyHash P "__name__", .str "__name__" 165, .str "law_sq0056_01" 1247⟩ :: ⟨PyData.keyHash P "__doc__", .str "__doc__" 166, .none⟩ :: ⟨PyData.keyHash P "__package__", .str "__package__" 167, .none⟩ :: ⟨PyData.keyHash P "__loader__", .str "__loader__" 168, .builtin "__main__.__loader__#opaque"⟩ :: ⟨PyData.keyHash P "__spec__", .str "__spec__" 169, .none⟩ :: ⟨PyData.keyHash P "__annotations__", .str "__annotations__" 170, .ref 6⟩ :: ⟨PyData.keyHash P "__builtins__", .str "__builtins__" 171, .ref 4⟩ :: ⟨PyData.keyHash P "__file__", .str "__file__" 173, .str "/claim/cut.py" 172⟩ :: ⟨PyData.keyHash P "__cached__", .str "__cached__" 174, .none⟩ :: ⟨PyData.keyHash P "_wall", .str "_wall" 193, .ref 21⟩ :: ⟨PyData.keyHash P "PageError", .str "PageError" 223, .ref 39⟩ :: ⟨PyData.keyHash P "BadArgument", .str "BadArgument" 239, .ref 52⟩ :: ⟨PyData.keyHash P "Overflow", .str "Overflow" 255, .ref 64⟩ :: ⟨PyData.keyHash P "BadFont", .str "BadFont" 271, .ref 76⟩ :: ⟨PyData.keyHash P "TooDeep", .str "TooDeep" 287, .ref 88⟩ :: ⟨PyData.keyHash P "UNITY", .str "UNITY" 291, .int (65536) 290⟩ :: ⟨PyData.keyHash P "MAX_DIMEN", .str "MAX_DIMEN" 297, .int (1073741823) 296⟩ :: ⟨PyData.keyHash P "MAX_NUMBER", .str "MAX_NUMBER" 303, .int (2147483647) 302⟩ :: ⟨PyData.keyHash P "NORMAL", .str "NORMAL" 308, .int (0) 304⟩ :: ⟨PyData.keyHash P "FIL", .str "FIL" 309, .int (1) 305⟩ :: ⟨PyData.keyHash P "FILL", .str "FILL" 310, .int (2) 306⟩ :: ⟨PyData.keyHash P "FILLL", .str "FILLL" 311, .int (3) 307⟩ :: ⟨PyData.keyHash P "is_whole", .str "is_whole" 320, .ref 101⟩ :: ⟨PyData.keyHash P "check_whole", .str "check_whole" 327, .ref 108⟩ :: ⟨PyData.keyHash P "check_number", .str "check_number" 334, .ref 115⟩ :: ⟨PyData.keyHash P "check_dimen", .str "check_dimen" 341, .ref 122⟩ :: ⟨PyData.keyHash P "rounded", .str "rounded" 349, .ref 129⟩ :: ⟨PyData.keyHash P "reading", .str "reading" 357, .ref 136⟩ :: ⟨PyData.keyHash P "decimal_text", .str "decimal_text" 370, .ref 143⟩ :: ⟨PyData.keyHash P "order_text", .str "order_text" 377, .ref 150⟩ :: ⟨PyData.keyHash P "part_text", .str "part_text" 386, .ref 157⟩ :: ⟨PyData.keyHash P "Glue", .str "Glue" 484, .ref 225⟩ :: ⟨PyData.keyHash P "CHAR", .str "CHAR" 495, .int (0) 487⟩ :: ⟨PyData.keyHash P "LIGATURE", .str "LIGATURE" 496, .int (1) 488⟩ :: ⟨PyData.keyHash P "HBOX", .str "HBOX" 497, .int (2) 489⟩ :: ⟨PyData.keyHash P "VBOX", .str "VBOX" 498, .int (3) 490⟩ :: ⟨PyData.keyHash P "RULE", .str "RULE" 499, .int (4) 491⟩ :: ⟨PyData.keyHash P "KERN", .str "KERN" 500, .int (5) 492⟩ :: ⟨PyData.keyHash P "GLUE", .str "GLUE" 501, .int (6) 493⟩ :: ⟨PyData.keyHash P "PENALTY", .str "PENALTY" 502, .int (7) 494⟩ :: ⟨PyData.keyHash P "DISC", .str "DISC" 510, .int (8) 503⟩ :: ⟨PyData.keyHash P "MARK", .str "MARK" 511, .int (9) 504⟩ :: ⟨PyData.keyHash P "INSERT", .str "INSERT" 512, .int (10) 505⟩ :: ⟨PyData.keyHash P "ADJUST", .str "ADJUST" 513, .int (11) 506⟩ :: ⟨PyData.keyHash P "MATH", .str "MATH" 514, .int (12) 507⟩ :: ⟨PyData.keyHash P "SPECIAL", .str "SPECIAL" 515, .int (13) 508⟩ :: ⟨PyData.keyHash P "UNSET", .str "UNSET" 516, .int (14) 509⟩ :: ⟨PyData.keyHash P "NATURAL", .str "NATURAL" 520, .int (0) 517⟩ :: ⟨PyData.keyHash P "STRETCHED", .str "STRETCHED" 521, .int (1) 518⟩ :: ⟨PyData.keyHash P "SHRUNK", .str "SHRUNK" 522, .int (2) 519⟩ :: ⟨PyData.keyHash P "FONT_KERN", .str "FONT_KERN" 527, .int (0) 523⟩ :: ⟨PyData.keyHash P "EXPLICIT", .str "EXPLICIT" 528, .int (1) 524⟩ :: ⟨PyData.keyHash P "ACCENT_KERN", .str "ACCENT_KERN" 529, .int (2) 525⟩ :: ⟨PyData.keyHash P "MU_KERN", .str "MU_KERN" 530, .int (3) 526⟩ :: ⟨PyData.keyHash P "PLAIN", .str "PLAIN" 538, .int (0) 531⟩ :: ⟨PyData.keyHash P "ALEADERS", .str "ALEADERS" 539, .int (1) 532⟩ :: ⟨PyData.keyHash P "CLEADERS", .str "CLEADERS" 540, .int (2) 533⟩ :: ⟨PyData.keyHash P "XLEADERS", .str "XLEADERS" 541, .int (3) 534⟩ :: ⟨PyData.keyHash P "MU_SKIP", .str "MU_SKIP" 542, .int (4) 535⟩ :: ⟨PyData.keyHash P "NONSCRIPT", .str "NONSCRIPT" 543, .int (5) 536⟩ :: ⟨PyData.keyHash P "NAMED", .str "NAMED" 544, .int (100) 537⟩ :: ⟨PyData.keyHash P "FOR_DEVICE", .str "FOR_DEVICE" 549, .int (0) 545⟩ :: ⟨PyData.keyHash P "WRITING", .str "WRITING" 550, .int (1) 546⟩ :: ⟨PyData.keyHash P "OPENING", .str "OPENING" 551, .int (2) 547⟩ :: ⟨PyData.keyHash P "CLOSING", .str "CLOSING" 552, .int (3) 548⟩ :: ⟨PyData.keyHash P "DEEPEST", .str "DEEPEST" 554, .int (60) 553⟩ :: ⟨PyData.keyHash P "check_code", .str "check_code" 561, .ref 260⟩ :: ⟨PyData.keyHash P "check_short", .str "check_short" 569, .ref 267⟩ :: ⟨PyData.keyHash P "Char", .str "Char" 601, .ref 284⟩ :: ⟨PyData.keyHash P "Ligature", .str "Ligature" 633, .ref 304⟩ :: ⟨PyData.keyHash P "Box", .str "Box" 674, .ref 325⟩ :: ⟨PyData.keyHash P "Rule", .str "Rule" 709, .ref 346⟩ :: ⟨PyData.keyHash P "Kern", .str "Kern" 741, .ref 367⟩ :: ⟨PyData.keyHash P "Skip", .str "Skip" 775, .ref 389⟩ :: ⟨PyData.keyHash P "Penalty", .str "Penalty" 805, .ref 410⟩ :: ⟨PyData.keyHash P "Disc", .str "Disc" 839, .ref 431⟩ :: ⟨PyData.keyHash P "Mark", .str "Mark" 869, .ref 452⟩ :: ⟨PyData.keyHash P "MathEdge", .str "MathEdge" 901, .ref 473⟩ :: ⟨PyData.keyHash P "check_depth", .str "check_depth" 908, .ref 484⟩ :: ⟨PyData.keyHash P "described_special", .str "described_special" 914, .ref 489⟩ :: ⟨PyData.keyHash P "described_rest", .str "described_rest" 925, .ref 496⟩ :: ⟨PyData.keyHash P "described", .str "described" 932, .ref 502⟩ :: ⟨PyData.keyHash P "described_list", .str "described_list" 939, .ref 508⟩ :: ⟨PyData.keyHash P "width_of", .str "width_of" 945, .ref 513⟩ :: ⟨PyData.keyHash P "flex", .str "flex" 955, .ref 520⟩ :: ⟨PyData.keyHash P "line_reach", .str "line_reach" 971, .ref 527⟩ :: ⟨PyData.keyHash P "EDGE", .str "EDGE" 975, .int (256) 974⟩ :: ⟨PyData.keyHash P "MOST_FONTS", .str "MOST_FONTS" 977, .int (255) 976⟩ :: ⟨PyData.keyHash P "MOST_PARAMS", .str "MOST_PARAMS" 979, .int (64) 978⟩ :: ⟨PyData.keyHash P "MOST_SIZE", .str "MOST_SIZE" 985, .int (134217727) 984⟩ :: ⟨PyData.keyHash P "PLAIN_SORT", .str "PLAIN_SORT" 990, .int (0) 986⟩ :: ⟨PyData.keyHash P "PROGRAM_SORT", .str "PROGRAM_SORT" 991, .int (1) 987⟩ :: ⟨PyData.keyHash P "LARGER_SORT", .str "LARGER_SORT" 992, .int (2) 988⟩ :: ⟨PyData.keyHash P "PIECES_SORT", .str "PIECES_SORT" 993, .int (3) 989⟩ :: ⟨PyData.keyHash P "STOP_SKIP", .str "STOP_SKIP" 997, .int (128) 994⟩ :: ⟨PyData.keyHash P "KERN_OP", .str "KERN_OP" 998, .int (128) 995⟩ :: ⟨PyData.keyHash P "LEAD", .str "LEAD" 999, .int (255) 996⟩ :: ⟨PyData.keyHash P "NO_CHARACTER", .str "NO_CHARACTER" 1006, .ref 536⟩ :: ⟨PyData.keyHash P "LETTERS", .str "LETTERS" 1008, .str "abcdefghjklmnopqrstuvwxyz" 1007⟩ :: ⟨PyData.keyHash P "SMALL_PARAMS", .str "SMALL_PARAMS" 1016, .ref 537⟩ :: ⟨PyData.keyHash P "is_size", .str "is_size" 1023, .ref 544⟩ :: ⟨PyData.keyHash P "check_sizes", .str "check_sizes" 1031, .ref 551⟩ :: ⟨PyData.keyHash P "check_pieces", .str "check_pieces" 1041, .ref 558⟩ :: ⟨PyData.keyHash P "check_chars", .str "check_chars" 1053, .ref 565⟩ :: ⟨PyData.keyHash P "check_larger", .str "check_larger" 1063, .ref 572⟩ :: ⟨PyData.keyHash P "check_program", .str "check_program" 1081, .ref 579⟩ :: ⟨PyData.keyHash P "left_start", .str "left_start" 1092, .ref 586⟩ :: ⟨PyData.keyHash P "Font", .str "Font" 1223, .ref 676⟩ :: ⟨PyData.keyHash P "font_name", .str "font_name" 1232, .ref 687⟩ :: ⟨PyData.keyHash P "font_of_rows", .str "font_of_rows" 1246, .ref 697⟩ :: ⟨PyData.keyHash P "_law_most", .str "_law_most" 1254, .ref 704⟩ :: ⟨PyData.keyHash P "_law_widths", .str "_law_widths" 1260, .ref 711⟩ :: ⟨PyData.keyHash P "_law_chosen", .str "_law_chosen" 1262, .ref 712⟩ :: ⟨PyData.keyHash P "_law_cell", .str "_law_cell" 1270, .ref 719⟩ :: ⟨PyData.keyHash P "_law_bag", .str "_law_bag" 1277, .ref 726⟩ :: ⟨PyData.keyHash P "_law_draw", .str "_law_draw" 1287, .ref 733⟩ :: ⟨PyData.keyHash P "_law_part", .str "_law_part" 1293, .ref 738⟩ :: ⟨PyData.keyHash P "_law_node", .str "_law_node" 1299, .ref 743⟩ :: ⟨PyData.keyHash P "_law_moves", .str "_law_moves" 1310, .ref 750⟩ :: ⟨PyData.keyHash P "_law_due", .str "_law_due" 1316, .ref 755⟩ :: ⟨PyData.keyHash P "law", .str "law" 1322, .ref 760⟩ :: [])) 121, #[]⟩) ::
  (nat_lit 100, ⟨.type "code", none, .fields (List.toArray [.str "is_whole" 312, .str "is_whole" 313, .str "/claim/cut.py" 314, .int (22) 0, .int (3) 0, .int (0) 0, .int (0) 0, .int (3) 0, .ref 95, .bool true, .int (181) 0, .ref 96, .none, .ref 97, .ref 98, .ref 99, .int (318) 0, .int (22) 0, .str "/claim/cut.py" 319]), #[]⟩) ::
  (nat_lit 101, ⟨.type "function", none, .func (fnOf "is_whole" "is_whole" (dP (st 12)) (dB (st 12)) (dS (st 12)) (.none) (.none) (.none) (.str "gluepage.scaled" 288) none (.ref 100) (.none)), #[]⟩) ::
  (nat_lit 107, ⟨.type "code", none, .fields (List.toArray [.str "check_whole" 321, .str "check_whole" 322, .str "/claim/cut.py" 323, .int (24) 0, .int (1) 0, .int (0) 0, .int (0) 0, .int (3) 0, .ref 102, .bool true, .int (181) 0, .ref 103, .none, .ref 104, .ref 105, .ref 106, .int (325) 0, .int (24) 0, .str "/claim/cut.py" 326]), #[]⟩) ::
  (nat_lit 108, ⟨.type "function", none, .func (fnOf "check_whole" "check_whole" (dP (st 13)) (dB (st 13)) (dS (st 13)) (.none) (.none) (.none) (.str "gluepage.scaled" 288) none (.ref 107) (.none)), #[]⟩) ::
  (nat_lit 114, ⟨.type "code", none, .fields (List.toArray [.str "check_number" 328, .str "check_number" 329, .str "/claim/cut.py" 330, .int (28) 0, .int (1) 0, .int (0) 0, .int (0) 0, .int (3) 0, .ref 109, .bool true, .int (181) 0, .ref 110, .none, .ref 111, .ref 112, .ref 113, .int (332) 0, .int (28) 0, .str "/claim/cut.py" 333]), #[]⟩) ::
  (nat_lit 115, ⟨.type "function", none, .func (fnOf "check_number" "check_number" (dP (st 14)) (dB (st 14)) (dS (st 14)) (.none) (.none) (.none) (.str "gluepage.scaled" 288) none (.ref 114) (.none)), #[]⟩) ::
  (nat_lit 121, ⟨.type "code", none, .fields (List.toArray [.str "check_dimen" 335, .str "check_dimen" 336, .str "/claim/cut.py" 337, .int (32) 0, .int (1) 0, .int (0) 0, .int (0) 0, .int (3) 0, .ref 116, .bool true, .int (181) 0, .ref 117, .none, .ref 118, .ref 119, .ref 120, .int (339) 0, .int (32) 0, .str "/claim/cut.py" 340]), #[]⟩) ::
  (nat_lit 122, ⟨.type "function", none, .func (fnOf "check_dimen" "check_dimen" (dP (st 15)) (dB (st 15)) (dS (st 15)) (.none) (.none) (.none) (.str "gluepage.scaled" 288) none (.ref 121) (.none)), #[]⟩) ::
  (nat_lit 165, ⟨.type "tuple", none, .seq (List.toArray [.int (0) 399, .int (0) 400, .int (0) 401, .int (0) 402, .int (0) 403]) 0, #[]⟩) ::
  (nat_lit 171, ⟨.type "code", none, .fields (List.toArray [.str "__init__" 404, .str "Glue.__init__" 405, .str "/claim/cut.py" 406, .int (61) 0, .int (6) 0, .int (0) 0, .int (0) 0, .int (3) 0, .ref 166, .bool true, .int (181) 0, .ref 167, .none, .ref 168, .ref 169, .ref 170, .int (413) 0, .int (61) 0, .str "/claim/cut.py" 414]), #[]⟩) ::
  (nat_lit 172, ⟨.type "function", none, .func (fnOf "__init__" "Glue.__init__" (dP (mt 21 0)) (dB (mt 21 0)) (dS (mt 21 0)) (.ref 165) (.none) (.none) (.str "gluepage.scaled" 288) none (.ref 171) (.none)), #[]⟩) ::
  (nat_lit 178, ⟨.type "code", none, .fields (List.toArray [.str "parts" 416, .str "Glue.parts" 417, .str "/claim/cut.py" 418, .int (70) 0, .int (1) 0, .int (0) 0, .int (0) 0, .int (3) 0, .ref 173, .bool true, .int (181) 0, .ref 174, .none, .ref 175, .ref 176, .ref 177, .int (420) 0, .int (70) 0, .str "/claim/cut.py" 421]), #[]⟩) ::
  (nat_lit 179, ⟨.type "function", none, .func (fnOf "parts" "Glue.parts" (dP (mt 21 1)) (dB (mt 21 1)) (dS (mt 21 1)) (.none) (.none) (.none) (.str "gluepage.scaled" 288) none (.ref 178) (.none)), #[]⟩) ::
  (nat_lit 224, ⟨.type "dict", none, .dict (List.toArray [⟨PyData.keyHash P "__module__", .str "__module__" 394, .str "gluepage.scaled" 288⟩, ⟨PyData.keyHash P "__firstlineno__", .str "__firstlineno__" 398, .int (59) 397⟩, ⟨PyData.keyHash P "__init__", .str "__init__" 415, .ref 172⟩, ⟨PyData.keyHash P "parts", .str "parts" 422, .ref 179⟩, ⟨PyData.keyHash P "same", .str "same" 430, .ref 186⟩, ⟨PyData.keyHash P "added", .str "added" 438, .ref 193⟩, ⟨PyData.keyHash P "times", .str "times" 446, .ref 200⟩, ⟨PyData.keyHash P "over", .str "over" 454, .ref 207⟩, ⟨PyData.keyHash P "negated", .str "negated" 461, .ref 214⟩, ⟨PyData.keyHash P "text", .str "text" 471, .ref 222⟩, ⟨PyData.keyHash P "__static_attributes__", .str "__static_attributes__" 477, .ref 223⟩, ⟨PyData.keyHash P "__dict__", .str "__dict__" 479, .ref 226⟩, ⟨PyData.keyHash P "__weakref__", .str "__weakref__" 481, .ref 227⟩, ⟨PyData.keyHash P "__doc__", .str "__doc__" 482, .none⟩]) 4, #[]⟩)-- slots at 225
 ::
  (nat_lit 225, ⟨.type "type", none, .cls ⟨"Glue", [.type "object"], [.ref 225, .type "object"], 224, "Glue", true, [], [], false, none, false⟩, (List.toArray [none, none, some (.str "Glue" 387), some (.str "Glue" 395), some (.builtin "object.__new__"), some (.bool true)])⟩) ::
  (nat_lit 226, ⟨.type "getset_descriptor", none, .fields (List.toArray [.str "__dict__" 478, .ref 225, .builtin "function.__dict__", .builtin "function.__dict__#set"]), #[]⟩) ::
  (nat_lit 227, ⟨.type "getset_descriptor", none, .fields (List.toArray [.str "__weakref__" 480, .ref 225, .builtin "ExceptionGroup.__weakref__", .none]), #[]⟩) ::
  (nat_lit 259, ⟨.type "code", none, .fields (List.toArray [.str "check_code" 555, .str "check_code" 556, .str "/claim/cut.py" 557, .int (103) 0, .int (1) 0, .int (0) 0, .int (0) 0, .int (3) 0, .ref 254, .bool true, .int (181) 0, .ref 255, .none, .ref 256, .ref 257, .ref 258, .int (559) 0, .int (103) 0, .str "/claim/cut.py" 560]), #[]⟩) ::
  (nat_lit 260, ⟨.type "function", none, .func (fnOf "check_code" "check_code" (dP (st 30)) (dB (st 30)) (dS (st 30)) (.none) (.none) (.none) (.str "gluepage.nodes" 485) none (.ref 259) (.none)), #[]⟩) ::
  (nat_lit 266, ⟨.type "code", none, .fields (List.toArray [.str "check_short" 562, .str "check_short" 563, .str "/claim/cut.py" 564, .int (107) 0, .int (1) 0, .int (0) 0, .int (0) 0, .int (3) 0, .ref 261, .bool true, .int (181) 0, .ref 262, .none, .ref 263, .ref 264, .ref 265, .int (567) 0, .int (107) 0, .str "/claim/cut.py" 568]), #[]⟩) ::
  (nat_lit 267, ⟨.type "function", none, .func (fnOf "check_short" "check_short" (dP (st 31)) (dB (st 31)) (dS (st 31)) (.none) (.none) (.none) (.str "gluepage.nodes" 485) none (.ref 266) (.none)), #[]⟩) ::
  (nat_lit 280, ⟨.type "code", none, .fields (List.toArray [.str "__init__" 583, .str "Char.__init__" 584, .str "/claim/cut.py" 585, .int (115) 0, .int (3) 0, .int (0) 0, .int (0) 0, .int (3) 0, .ref 275, .bool true, .int (181) 0, .ref 276, .none, .ref 277, .ref 278, .ref 279, .int (589) 0, .int (115) 0, .str "/claim/cut.py" 590]), #[]⟩) ::
  (nat_lit 281, ⟨.type "function", none, .func (fnOf "__init__" "Char.__init__" (dP (mt 32 1)) (dB (mt 32 1)) (dS (mt 32 1)) (.none) (.none) (.none) (.str "gluepage.nodes" 485) none (.ref 280) (.none)), #[]⟩) ::
  (nat_lit 283, ⟨.type "dict", none, .dict (List.toArray [⟨PyData.keyHash P "__module__", .str "__module__" 577, .str "gluepage.nodes" 485⟩, ⟨PyData.keyHash P "__firstlineno__", .str "__firstlineno__" 581, .int (112) 580⟩, ⟨PyData.keyHash P "kind", .str "kind" 582, .int (0) 487⟩, ⟨PyData.keyHash P "__init__", .str "__init__" 591, .ref 281⟩, ⟨PyData.keyHash P "__static_attributes__", .str "__static_attributes__" 594, .ref 282⟩, ⟨PyData.keyHash P "__dict__", .str "__dict__" 596, .ref 285⟩, ⟨PyData.keyHash P "__weakref__", .str "__weakref__" 598, .ref 286⟩, ⟨PyData.keyHash P "__doc__", .str "__doc__" 599, .none⟩]) 4, #[]⟩)-- slots at 284
 ::
  (nat_lit 284, ⟨.type "type", none, .cls ⟨"Char", [.type "object"], [.ref 284, .type "object"], 283, "Char", true, [], [], false, none, false⟩, (List.toArray [none, none, some (.str "Char" 570), some (.str "Char" 578), some (.builtin "object.__new__"), some (.bool true)])⟩) ::
  (nat_lit 285, ⟨.type "getset_descriptor", none, .fields (List.toArray [.str "__dict__" 595, .ref 284, .builtin "function.__dict__", .builtin "function.__dict__#set"]), #[]⟩) ::
  (nat_lit 286, ⟨.type "getset_descriptor", none, .fields (List.toArray [.str "__weakref__" 597, .ref 284, .builtin "ExceptionGroup.__weakref__", .none]), #[]⟩) ::
  (nat_lit 296, ⟨.type "tuple", none, .seq (List.toArray [.bool false, .bool false]) 0, #[]⟩) ::
  (nat_lit 300, ⟨.type "code", none, .fields (List.toArray [.str "__init__" 615, .str "Ligature.__init__" 616, .str "/claim/cut.py" 617, .int (121) 0, .int (6) 0, .int (0) 0, .int (0) 0, .int (3) 0, .ref 297, .bool true, .int (181) 0, .ref 298, .none, .none, .none, .ref 299, .int (618) 0, .int (121) 0, .str "/claim/cut.py" 619]), #[]⟩) ::
  (nat_lit 301, ⟨.type "function", none, .func (fnOf "__init__" "Ligature.__init__" (dP (mt 33 1)) (dB (mt 33 1)) (dS (mt 33 1)) (.ref 296) (.none) (.none) (.str "gluepage.nodes" 485) none (.ref 300) (.none)), #[]⟩) ::
  (nat_lit 303, ⟨.type "dict", none, .dict (List.toArray [⟨PyData.keyHash P "__module__", .str "__module__" 609, .str "gluepage.nodes" 485⟩, ⟨PyData.keyHash P "__firstlineno__", .str "__firstlineno__" 613, .int (118) 612⟩, ⟨PyData.keyHash P "kind", .str "kind" 614, .int (1) 488⟩, ⟨PyData.keyHash P "__init__", .str "__init__" 620, .ref 301⟩, ⟨PyData.keyHash P "__static_attributes__", .str "__static_attributes__" 626, .ref 302⟩, ⟨PyData.keyHash P "__dict__", .str "__dict__" 628, .ref 305⟩, ⟨PyData.keyHash P "__weakref__", .str "__weakref__" 630, .ref 306⟩, ⟨PyData.keyHash P "__doc__", .str "__doc__" 631, .none⟩]) 4, #[]⟩)-- slots at 304
 ::
  (nat_lit 304, ⟨.type "type", none, .cls ⟨"Ligature", [.type "object"], [.ref 304, .type "object"], 303, "Ligature", true, [], [], false, none, false⟩, (List.toArray [none, none, some (.str "Ligature" 602), some (.str "Ligature" 610), some (.builtin "object.__new__"), some (.bool true)])⟩) ::
  (nat_lit 305, ⟨.type "getset_descriptor", none, .fields (List.toArray [.str "__dict__" 627, .ref 304, .builtin "function.__dict__", .builtin "function.__dict__#set"]), #[]⟩) ::
  (nat_lit 306, ⟨.type "getset_descriptor", none, .fields (List.toArray [.str "__weakref__" 629, .ref 304, .builtin "ExceptionGroup.__weakref__", .none]), #[]⟩) ::
  (nat_lit 321, ⟨.type "code", none, .fields (List.toArray [.str "__init__" 646, .str "Box.__init__" 647, .str "/claim/cut.py" 648, .int (129) 0, .int (6) 0, .int (0) 0, .int (0) 0, .int (3) 0, .ref 316, .bool true, .int (181) 0, .ref 317, .none, .ref 318, .ref 319, .ref 320, .int (655) 0, .int (129) 0, .str "/claim/cut.py" 656]), #[]⟩) ::
  (nat_lit 322, ⟨.type "function", none, .func (fnOf "__init__" "Box.__init__" (dP (mt 34 0)) (dB (mt 34 0)) (dS (mt 34 0)) (.none) (.none) (.none) (.str "gluepage.nodes" 485) none (.ref 321) (.none)), #[]⟩) ::
  (nat_lit 324, ⟨.type "dict", none, .dict (List.toArray [⟨PyData.keyHash P "__module__", .str "__module__" 641, .str "gluepage.nodes" 485⟩, ⟨PyData.keyHash P "__firstlineno__", .str "__firstlineno__" 645, .int (127) 644⟩, ⟨PyData.keyHash P "__init__", .str "__init__" 657, .ref 322⟩, ⟨PyData.keyHash P "__static_attributes__", .str "__static_attributes__" 667, .ref 323⟩, ⟨PyData.keyHash P "__dict__", .str "__dict__" 669, .ref 326⟩, ⟨PyData.keyHash P "__weakref__", .str "__weakref__" 671, .ref 327⟩, ⟨PyData.keyHash P "__doc__", .str "__doc__" 672, .none⟩]) 4, #[]⟩)-- slots at 325
 ::
  (nat_lit 325, ⟨.type "type", none, .cls ⟨"Box", [.type "object"], [.ref 325, .type "object"], 324, "Box", true, [], [], false, none, false⟩, (List.toArray [none, none, some (.str "Box" 634), some (.str "Box" 642), some (.builtin "object.__new__"), some (.bool true)])⟩) ::
  (nat_lit 326, ⟨.type "getset_descriptor", none, .fields (List.toArray [.str "__dict__" 668, .ref 325, .builtin "function.__dict__", .builtin "function.__dict__#set"]), #[]⟩) ::
  (nat_lit 327, ⟨.type "getset_descriptor", none, .fields (List.toArray [.str "__weakref__" 670, .ref 325, .builtin "ExceptionGroup.__weakref__", .none]), #[]⟩) ::
  (nat_lit 342, ⟨.type "code", none, .fields (List.toArray [.str "__init__" 688, .str "Rule.__init__" 689, .str "/claim/cut.py" 690, .int (144) 0, .int (4) 0, .int (0) 0, .int (0) 0, .int (3) 0, .ref 337, .bool true, .int (181) 0, .ref 338, .none, .ref 339, .ref 340, .ref 341, .int (696) 0, .int (144) 0, .str "/claim/cut.py" 697]), #[]⟩) ::
  (nat_lit 343, ⟨.type "function", none, .func (fnOf "__init__" "Rule.__init__" (dP (mt 35 1)) (dB (mt 35 1)) (dS (mt 35 1)) (.none) (.none) (.none) (.str "gluepage.nodes" 485) none (.ref 342) (.none)), #[]⟩) ::
  (nat_lit 345, ⟨.type "dict", none, .dict (List.toArray [⟨PyData.keyHash P "__module__", .str "__module__" 682, .str "gluepage.nodes" 485⟩, ⟨PyData.keyHash P "__firstlineno__", .str "__firstlineno__" 686, .int (141) 685⟩, ⟨PyData.keyHash P "kind", .str "kind" 687, .int (4) 491⟩, ⟨PyData.keyHash P "__init__", .str "__init__" 698, .ref 343⟩, ⟨PyData.keyHash P "__static_attributes__", .str "__static_attributes__" 702, .ref 344⟩, ⟨PyData.keyHash P "__dict__", .str "__dict__" 704, .ref 347⟩, ⟨PyData.keyHash P "__weakref__", .str "__weakref__" 706, .ref 348⟩, ⟨PyData.keyHash P "__doc__", .str "__doc__" 707, .none⟩]) 4, #[]⟩)-- slots at 346
 ::
  (nat_lit 346, ⟨.type "type", none, .cls ⟨"Rule", [.type "object"], [.ref 346, .type "object"], 345, "Rule", true, [], [], false, none, false⟩, (List.toArray [none, none, some (.str "Rule" 675), some (.str "Rule" 683), some (.builtin "object.__new__"), some (.bool true)])⟩) ::
  (nat_lit 347, ⟨.type "getset_descriptor", none, .fields (List.toArray [.str "__dict__" 703, .ref 346, .builtin "function.__dict__", .builtin "function.__dict__#set"]), #[]⟩) ::
  (nat_lit 348, ⟨.type "getset_descriptor", none, .fields (List.toArray [.str "__weakref__" 705, .ref 346, .builtin "ExceptionGroup.__weakref__", .none]), #[]⟩) ::
  (nat_lit 363, ⟨.type "code", none, .fields (List.toArray [.str "__init__" 723, .str "Kern.__init__" 724, .str "/claim/cut.py" 725, .int (154) 0, .int (3) 0, .int (0) 0, .int (0) 0, .int (3) 0, .ref 358, .bool true, .int (181) 0, .ref 359, .none, .ref 360, .ref 361, .ref 362, .int (729) 0, .int (154) 0, .str "/claim/cut.py" 730]), #[]⟩) ::
  (nat_lit 364, ⟨.type "function", none, .func (fnOf "__init__" "Kern.__init__" (dP (mt 36 1)) (dB (mt 36 1)) (dS (mt 36 1)) (.none) (.none) (.none) (.str "gluepage.nodes" 485) none (.ref 363) (.none)), #[]⟩) ::
  (nat_lit 366, ⟨.type "dict", none, .dict (List.toArray [⟨PyData.keyHash P "__module__", .str "__module__" 717, .str "gluepage.nodes" 485⟩, ⟨PyData.keyHash P "__firstlineno__", .str "__firstlineno__" 721, .int (151) 720⟩, ⟨PyData.keyHash P "kind", .str "kind" 722, .int (5) 492⟩, ⟨PyData.keyHash P "__init__", .str "__init__" 731, .ref 364⟩, ⟨PyData.keyHash P "__static_attributes__", .str "__static_attributes__" 734, .ref 365⟩, ⟨PyData.keyHash P "__dict__", .str "__dict__" 736, .ref 368⟩, ⟨PyData.keyHash P "__weakref__", .str "__weakref__" 738, .ref 369⟩, ⟨PyData.keyHash P "__doc__", .str "__doc__" 739, .none⟩]) 4, #[]⟩)-- slots at 367
 ::
  (nat_lit 367, ⟨.type "type", none, .cls ⟨"Kern", [.type "object"], [.ref 367, .type "object"], 366, "Kern", true, [], [], false, none, false⟩, (List.toArray [none, none, some (.str "Kern" 710), some (.str "Kern" 718), some (.builtin "object.__new__"), some (.bool true)])⟩) ::
  (nat_lit 368, ⟨.type "getset_descriptor", none, .fields (List.toArray [.str "__dict__" 735, .ref 367, .builtin "function.__dict__", .builtin "function.__dict__#set"]), #[]⟩) ::
  (nat_lit 369, ⟨.type "getset_descriptor", none, .fields (List.toArray [.str "__weakref__" 737, .ref 367, .builtin "ExceptionGroup.__weakref__", .none]), #[]⟩) ::
  (nat_lit 379, ⟨.type "tuple", none, .seq (List.toArray [.none]) 0, #[]⟩) ::
  (nat_lit 385, ⟨.type "code", none, .fields (List.toArray [.str "__init__" 755, .str "Skip.__init__" 756, .str "/claim/cut.py" 757, .int (162) 0, .int (4) 0, .int (0) 0, .int (0) 0, .int (3) 0, .ref 380, .bool true, .int (181) 0, .ref 381, .none, .ref 382, .ref 383, .ref 384, .int (762) 0, .int (162) 0, .str "/claim/cut.py" 763]), #[]⟩) ::
  (nat_lit 386, ⟨.type "function", none, .func (fnOf "__init__" "Skip.__init__" (dP (mt 37 1)) (dB (mt 37 1)) (dS (mt 37 1)) (.ref 379) (.none) (.none) (.str "gluepage.nodes" 485) none (.ref 385) (.none)), #[]⟩) ::
  (nat_lit 388, ⟨.type "dict", none, .dict (List.toArray [⟨PyData.keyHash P "__module__", .str "__module__" 749, .str "gluepage.nodes" 485⟩, ⟨PyData.keyHash P "__firstlineno__", .str "__firstlineno__" 753, .int (159) 752⟩, ⟨PyData.keyHash P "kind", .str "kind" 754, .int (6) 493⟩, ⟨PyData.keyHash P "__init__", .str "__init__" 764, .ref 386⟩, ⟨PyData.keyHash P "__static_attributes__", .str "__static_attributes__" 768, .ref 387⟩, ⟨PyData.keyHash P "__dict__", .str "__dict__" 770, .ref 390⟩, ⟨PyData.keyHash P "__weakref__", .str "__weakref__" 772, .ref 391⟩, ⟨PyData.keyHash P "__doc__", .str "__doc__" 773, .none⟩]) 4, #[]⟩)-- slots at 389
 ::
  (nat_lit 389, ⟨.type "type", none, .cls ⟨"Skip", [.type "object"], [.ref 389, .type "object"], 388, "Skip", true, [], [], false, none, false⟩, (List.toArray [none, none, some (.str "Skip" 742), some (.str "Skip" 750), some (.builtin "object.__new__"), some (.bool true)])⟩) ::
  (nat_lit 390, ⟨.type "getset_descriptor", none, .fields (List.toArray [.str "__dict__" 769, .ref 389, .builtin "function.__dict__", .builtin "function.__dict__#set"]), #[]⟩) ::
  (nat_lit 391, ⟨.type "getset_descriptor", none, .fields (List.toArray [.str "__weakref__" 771, .ref 389, .builtin "ExceptionGroup.__weakref__", .none]), #[]⟩) ::
  (nat_lit 406, ⟨.type "code", none, .fields (List.toArray [.str "__init__" 789, .str "Penalty.__init__" 790, .str "/claim/cut.py" 791, .int (175) 0, .int (2) 0, .int (0) 0, .int (0) 0, .int (3) 0, .ref 401, .bool true, .int (181) 0, .ref 402, .none, .ref 403, .ref 404, .ref 405, .int (794) 0, .int (175) 0, .str "/claim/cut.py" 795]), #[]⟩) ::
  (nat_lit 407, ⟨.type "function", none, .func (fnOf "__init__" "Penalty.__init__" (dP (mt 38 1)) (dB (mt 38 1)) (dS (mt 38 1)) (.none) (.none) (.none) (.str "gluepage.nodes" 485) none (.ref 406) (.none)), #[]⟩) ::
  (nat_lit 409, ⟨.type "dict", none, .dict (List.toArray [⟨PyData.keyHash P "__module__", .str "__module__" 783, .str "gluepage.nodes" 485⟩, ⟨PyData.keyHash P "__firstlineno__", .str "__firstlineno__" 787, .int (172) 786⟩, ⟨PyData.keyHash P "kind", .str "kind" 788, .int (7) 494⟩, ⟨PyData.keyHash P "__init__", .str "__init__" 796, .ref 407⟩, ⟨PyData.keyHash P "__static_attributes__", .str "__static_attributes__" 798, .ref 408⟩, ⟨PyData.keyHash P "__dict__", .str "__dict__" 800, .ref 411⟩, ⟨PyData.keyHash P "__weakref__", .str "__weakref__" 802, .ref 412⟩, ⟨PyData.keyHash P "__doc__", .str "__doc__" 803, .none⟩]) 4, #[]⟩)-- slots at 410
 ::
  (nat_lit 410, ⟨.type "type", none, .cls ⟨"Penalty", [.type "object"], [.ref 410, .type "object"], 409, "Penalty", true, [], [], false, none, false⟩, (List.toArray [none, none, some (.str "Penalty" 776), some (.str "Penalty" 784), some (.builtin "object.__new__"), some (.bool true)])⟩) ::
  (nat_lit 411, ⟨.type "getset_descriptor", none, .fields (List.toArray [.str "__dict__" 799, .ref 410, .builtin "function.__dict__", .builtin "function.__dict__#set"]), #[]⟩) ::
  (nat_lit 412, ⟨.type "getset_descriptor", none, .fields (List.toArray [.str "__weakref__" 801, .ref 410, .builtin "ExceptionGroup.__weakref__", .none]), #[]⟩) ::
  (nat_lit 427, ⟨.type "code", none, .fields (List.toArray [.str "__init__" 819, .str "Disc.__init__" 820, .str "/claim/cut.py" 821, .int (180) 0, .int (4) 0, .int (0) 0, .int (0) 0, .int (3) 0, .ref 422, .bool true, .int (181) 0, .ref 423, .none, .ref 424, .ref 425, .ref 426, .int (826) 0, .int (180) 0, .str "/claim/cut.py" 827]), #[]⟩) ::
  (nat_lit 428, ⟨.type "function", none, .func (fnOf "__init__" "Disc.__init__" (dP (mt 39 1)) (dB (mt 39 1)) (dS (mt 39 1)) (.none) (.none) (.none) (.str "gluepage.nodes" 485) none (.ref 427) (.none)), #[]⟩) ::
  (nat_lit 430, ⟨.type "dict", none, .dict (List.toArray [⟨PyData.keyHash P "__module__", .str "__module__" 813, .str "gluepage.nodes" 485⟩, ⟨PyData.keyHash P "__firstlineno__", .str "__firstlineno__" 817, .int (177) 816⟩, ⟨PyData.keyHash P "kind", .str "kind" 818, .int (8) 503⟩, ⟨PyData.keyHash P "__init__", .str "__init__" 828, .ref 428⟩, ⟨PyData.keyHash P "__static_attributes__", .str "__static_attributes__" 832, .ref 429⟩, ⟨PyData.keyHash P "__dict__", .str "__dict__" 834, .ref 432⟩, ⟨PyData.keyHash P "__weakref__", .str "__weakref__" 836, .ref 433⟩, ⟨PyData.keyHash P "__doc__", .str "__doc__" 837, .none⟩]) 4, #[]⟩)-- slots at 431
 ::
  (nat_lit 431, ⟨.type "type", none, .cls ⟨"Disc", [.type "object"], [.ref 431, .type "object"], 430, "Disc", true, [], [], false, none, false⟩, (List.toArray [none, none, some (.str "Disc" 806), some (.str "Disc" 814), some (.builtin "object.__new__"), some (.bool true)])⟩) ::
  (nat_lit 432, ⟨.type "getset_descriptor", none, .fields (List.toArray [.str "__dict__" 833, .ref 431, .builtin "function.__dict__", .builtin "function.__dict__#set"]), #[]⟩) ::
  (nat_lit 433, ⟨.type "getset_descriptor", none, .fields (List.toArray [.str "__weakref__" 835, .ref 431, .builtin "ExceptionGroup.__weakref__", .none]), #[]⟩) ::
  (nat_lit 448, ⟨.type "code", none, .fields (List.toArray [.str "__init__" 853, .str "Mark.__init__" 854, .str "/claim/cut.py" 855, .int (187) 0, .int (2) 0, .int (0) 0, .int (0) 0, .int (3) 0, .ref 443, .bool true, .int (181) 0, .ref 444, .none, .ref 445, .ref 446, .ref 447, .int (858) 0, .int (187) 0, .str "/claim/cut.py" 859]), #[]⟩) ::
  (nat_lit 449, ⟨.type "function", none, .func (fnOf "__init__" "Mark.__init__" (dP (mt 40 1)) (dB (mt 40 1)) (dS (mt 40 1)) (.none) (.none) (.none) (.str "gluepage.nodes" 485) none (.ref 448) (.none)), #[]⟩) ::
  (nat_lit 451, ⟨.type "dict", none, .dict (List.toArray [⟨PyData.keyHash P "__module__", .str "__module__" 847, .str "gluepage.nodes" 485⟩, ⟨PyData.keyHash P "__firstlineno__", .str "__firstlineno__" 851, .int (184) 850⟩, ⟨PyData.keyHash P "kind", .str "kind" 852, .int (9) 504⟩, ⟨PyData.keyHash P "__init__", .str "__init__" 860, .ref 449⟩, ⟨PyData.keyHash P "__static_attributes__", .str "__static_attributes__" 862, .ref 450⟩, ⟨PyData.keyHash P "__dict__", .str "__dict__" 864, .ref 453⟩, ⟨PyData.keyHash P "__weakref__", .str "__weakref__" 866, .ref 454⟩, ⟨PyData.keyHash P "__doc__", .str "__doc__" 867, .none⟩]) 4, #[]⟩)-- slots at 452
 ::
  (nat_lit 452, ⟨.type "type", none, .cls ⟨"Mark", [.type "object"], [.ref 452, .type "object"], 451, "Mark", true, [], [], false, none, false⟩, (List.toArray [none, none, some (.str "Mark" 840), some (.str "Mark" 848), some (.builtin "object.__new__"), some (.bool true)])⟩) ::
  (nat_lit 453, ⟨.type "getset_descriptor", none, .fields (List.toArray [.str "__dict__" 863, .ref 452, .builtin "function.__dict__", .builtin "function.__dict__#set"]), #[]⟩) ::
  (nat_lit 454, ⟨.type "getset_descriptor", none, .fields (List.toArray [.str "__weakref__" 865, .ref 452, .builtin "ExceptionGroup.__weakref__", .none]), #[]⟩) ::
  (nat_lit 469, ⟨.type "code", none, .fields (List.toArray [.str "__init__" 883, .str "MathEdge.__init__" 884, .str "/claim/cut.py" 885, .int (192) 0, .int (3) 0, .int (0) 0, .int (0) 0, .int (3) 0, .ref 464, .bool true, .int (181) 0, .ref 465, .none, .ref 466, .ref 467, .ref 468, .int (889) 0, .int (192) 0, .str "/claim/cut.py" 890]), #[]⟩) ::
  (nat_lit 470, ⟨.type "function", none, .func (fnOf "__init__" "MathEdge.__init__" (dP (mt 41 1)) (dB (mt 41 1)) (dS (mt 41 1)) (.none) (.none) (.none) (.str "gluepage.nodes" 485) none (.ref 469) (.none)), #[]⟩) ::
  (nat_lit 472, ⟨.type "dict", none, .dict (List.toArray [⟨PyData.keyHash P "__module__", .str "__module__" 877, .str "gluepage.nodes" 485⟩, ⟨PyData.keyHash P "__firstlineno__", .str "__firstlineno__" 881, .int (189) 880⟩, ⟨PyData.keyHash P "kind", .str "kind" 882, .int (12) 507⟩, ⟨PyData.keyHash P "__init__", .str "__init__" 891, .ref 470⟩, ⟨PyData.keyHash P "__static_attributes__", .str "__static_attributes__" 894, .ref 471⟩, ⟨PyData.keyHash P "__dict__", .str "__dict__" 896, .ref 474⟩, ⟨PyData.keyHash P "__weakref__", .str "__weakref__" 898, .ref 475⟩, ⟨PyData.keyHash P "__doc__", .str "__doc__" 899, .none⟩]) 4, #[]⟩)-- slots at 473
 ::
  (nat_lit 473, ⟨.type "type", none, .cls ⟨"MathEdge", [.type "object"], [.ref 473, .type "object"], 472, "MathEdge", true, [], [], false, none, false⟩, (List.toArray [none, none, some (.str "MathEdge" 870), some (.str "MathEdge" 878), some (.builtin "object.__new__"), some (.bool true)])⟩) ::
  (nat_lit 474, ⟨.type "getset_descriptor", none, .fields (List.toArray [.str "__dict__" 895, .ref 473, .builtin "function.__dict__", .builtin "function.__dict__#set"]), #[]⟩) ::
  (nat_lit 475, ⟨.type "getset_descriptor", none, .fields (List.toArray [.str "__weakref__" 897, .ref 473, .builtin "ExceptionGroup.__weakref__", .none]), #[]⟩) ::
  (nat_lit 483, ⟨.type "code", none, .fields (List.toArray [.str "check_depth" 902, .str "check_depth" 903, .str "/claim/cut.py" 904, .int (195) 0, .int (1) 0, .int (0) 0, .int (0) 0, .int (3) 0, .ref 478, .bool true, .int (181) 0, .ref 479, .none, .ref 480, .ref 481, .ref 482, .int (906) 0, .int (195) 0, .str "/claim/cut.py" 907]), #[]⟩) ::
  (nat_lit 484, ⟨.type "function", none, .func (fnOf "check_depth" "check_depth" (dP (st 42)) (dB (st 42)) (dS (st 42)) (.none) (.none) (.none) (.str "gluepage.nodes" 485) none (.ref 483) (.none)), #[]⟩) ::
  (nat_lit 495, ⟨.type "code", none, .fields (List.toArray [.str "described_rest" 915, .str "described_rest" 916, .str "/claim/cut.py" 917, .int (204) 0, .int (2) 0, .int (0) 0, .int (0) 0, .int (3) 0, .ref 490, .bool true, .int (181) 0, .ref 491, .none, .ref 492, .ref 493, .ref 494, .int (923) 0, .int (204) 0, .str "/claim/cut.py" 924]), #[]⟩) ::
  (nat_lit 496, ⟨.type "function", none, .func (fnOf "described_rest" "described_rest" (dP (st 44)) (dB (st 44)) (dS (st 44)) (.none) (.none) (.none) (.str "gluepage.nodes" 485) none (.ref 495) (.none)), #[]⟩) ::
  (nat_lit 497, ⟨.type "tuple", none, .seq (List.toArray [.int (0) 926]) 0, #[]⟩) ::
  (nat_lit 501, ⟨.type "code", none, .fields (List.toArray [.str "described" 927, .str "described" 928, .str "/claim/cut.py" 929, .int (219) 0, .int (2) 0, .int (0) 0, .int (0) 0, .int (3) 0, .ref 498, .bool true, .int (181) 0, .ref 499, .none, .none, .none, .ref 500, .int (930) 0, .int (219) 0, .str "/claim/cut.py" 931]), #[]⟩) ::
  (nat_lit 502, ⟨.type "function", none, .func (fnOf "described" "described" (dP (st 45)) (dB (st 45)) (dS (st 45)) (.ref 497) (.none) (.none) (.str "gluepage.nodes" 485) none (.ref 501) (.none)), #[]⟩) ::
  (nat_lit 503, ⟨.type "tuple", none, .seq (List.toArray [.int (0) 933]) 0, #[]⟩) ::
  (nat_lit 507, ⟨.type "code", none, .fields (List.toArray [.str "described_list" 934, .str "described_list" 935, .str "/claim/cut.py" 936, .int (242) 0, .int (2) 0, .int (0) 0, .int (0) 0, .int (3) 0, .ref 504, .bool true, .int (181) 0, .ref 505, .none, .none, .none, .ref 506, .int (937) 0, .int (242) 0, .str "/claim/cut.py" 938]), #[]⟩) ::
  (nat_lit 508, ⟨.type "function", none, .func (fnOf "described_list" "described_list" (dP (st 46)) (dB (st 46)) (dS (st 46)) (.ref 503) (.none) (.none) (.str "gluepage.nodes" 485) none (.ref 507) (.none)), #[]⟩) ::
  (nat_lit 512, ⟨.type "code", none, .fields (List.toArray [.str "width_of" 940, .str "width_of" 941, .str "/claim/cut.py" 942, .int (244) 0, .int (1) 0, .int (0) 0, .int (0) 0, .int (3) 0, .ref 509, .bool true, .int (181) 0, .ref 510, .none, .none, .none, .ref 511, .int (943) 0, .int (244) 0, .str "/claim/cut.py" 944]), #[]⟩) ::
  (nat_lit 513, ⟨.type "function", none, .func (fnOf "width_of" "width_of" (dP (st 47)) (dB (st 47)) (dS (st 47)) (.none) (.none) (.none) (.str "gluepage.nodes" 485) none (.ref 512) (.none)), #[]⟩) ::
  (nat_lit 519, ⟨.type "code", none, .fields (List.toArray [.str "flex" 948, .str "flex" 949, .str "/claim/cut.py" 950, .int (258) 0, .int (2) 0, .int (0) 0, .int (0) 0, .int (3) 0, .ref 514, .bool true, .int (181) 0, .ref 515, .none, .ref 516, .ref 517, .ref 518, .int (953) 0, .int (258) 0, .str "/claim/cut.py" 954]), #[]⟩) ::
  (nat_lit 520, ⟨.type "function", none, .func (fnOf "flex" "flex" (dP (st 49)) (dB (st 49)) (dS (st 49)) (.none) (.none) (.none) (.str "gluepage.packing" 946) none (.ref 519) (.none)), #[]⟩) ::
  (nat_lit 526, ⟨.type "code", none, .fields (List.toArray [.str "line_reach" 958, .str "line_reach" 959, .str "/claim/cut.py" 960, .int (265) 0, .int (2) 0, .int (0) 0, .int (0) 0, .int (3) 0, .ref 521, .bool true, .int (181) 0, .ref 522, .none, .ref 523, .ref 524, .ref 525, .int (969) 0, .int (265) 0, .str "/claim/cut.py" 970]), #[]⟩) ::
  (nat_lit 527, ⟨.type "function", none, .func (fnOf "line_reach" "line_reach" (dP (st 51)) (dB (st 51)) (dS (st 51)) (.none) (.none) (.none) (.str "gluepage.mathcmds" 956) none (.ref 526) (.none)), #[]⟩) ::
  (nat_lit 536, ⟨.type "tuple", none, .seq (List.toArray [.int (0) 1000, .int (0) 1001, .int (0) 1002, .int (0) 1003, .int (0) 1004, .int (0) 1005]) 0, #[]⟩) ::
  (nat_lit 537, ⟨.type "tuple", none, .seq (List.toArray [.int (0) 1009, .int (196608) 1010, .int (98304) 1011, .int (65536) 1012, .int (262144) 1013, .int (655360) 1014, .int (65536) 1015]) 0, #[]⟩) ::
  (nat_lit 543, ⟨.type "code", none, .fields (List.toArray [.str "is_size" 1017, .str "is_size" 1018, .str "/claim/cut.py" 1019, .int (290) 0, .int (1) 0, .int (0) 0, .int (0) 0, .int (3) 0, .ref 538, .bool true, .int (181) 0, .ref 539, .none, .ref 540, .ref 541, .ref 542, .int (1021) 0, .int (290) 0, .str "/claim/cut.py" 1022]), #[]⟩) ::
  (nat_lit 544, ⟨.type "function", none, .func (fnOf "is_size" "is_size" (dP (st 62)) (dB (st 62)) (dS (st 62)) (.none) (.none) (.none) (.str "gluepage.fonts" 972) none (.ref 543) (.none)), #[]⟩) ::
  (nat_lit 550, ⟨.type "code", none, .fields (List.toArray [.str "check_sizes" 1024, .str "check_sizes" 1025, .str "/claim/cut.py" 1026, .int (292) 0, .int (1) 0, .int (0) 0, .int (0) 0, .int (3) 0, .ref 545, .bool true, .int (181) 0, .ref 546, .none, .ref 547, .ref 548, .ref 549, .int (1029) 0, .int (292) 0, .str "/claim/cut.py" 1030]), #[]⟩) ::
  (nat_lit 551, ⟨.type "function", none, .func (fnOf "check_sizes" "check_sizes" (dP (st 63)) (dB (st 63)) (dS (st 63)) (.none) (.none) (.none) (.str "gluepage.fonts" 972) none (.ref 550) (.none)), #[]⟩) ::
  (nat_lit 564, ⟨.type "code", none, .fields (List.toArray [.str "check_chars" 1042, .str "check_chars" 1043, .str "/claim/cut.py" 1044, .int (302) 0, .int (2) 0, .int (0) 0, .int (0) 0, .int (3) 0, .ref 559, .bool true, .int (181) 0, .ref 560, .none, .ref 561, .ref 562, .ref 563, .int (1051) 0, .int (302) 0, .str "/claim/cut.py" 1052]), #[]⟩) ::
  (nat_lit 565, ⟨.type "function", none, .func (fnOf "check_chars" "check_chars" (dP (st 65)) (dB (st 65)) (dS (st 65)) (.none) (.none) (.none) (.str "gluepage.fonts" 972) none (.ref 564) (.none)), #[]⟩) ::
  (nat_lit 571, ⟨.type "code", none, .fields (List.toArray [.str "check_larger" 1054, .str "check_larger" 1055, .str "/claim/cut.py" 1056, .int (314) 0, .int (1) 0, .int (0) 0, .int (0) 0, .int (3) 0, .ref 566, .bool true, .int (181) 0, .ref 567, .none, .ref 568, .ref 569, .ref 570, .int (1061) 0, .int (314) 0, .str "/claim/cut.py" 1062]), #[]⟩) ::
  (nat_lit 572, ⟨.type "function", none, .func (fnOf "check_larger" "check_larger" (dP (st 66)) (dB (st 66)) (dS (st 66)) (.none) (.none) (.none) (.str "gluepage.fonts" 972) none (.ref 571) (.none)), #[]⟩) ::
  (nat_lit 578, ⟨.type "code", none, .fields (List.toArray [.str "check_program" 1064, .str "check_program" 1065, .str "/claim/cut.py" 1066, .int (322) 0, .int (4) 0, .int (0) 0, .int (0) 0, .int (3) 0, .ref 573, .bool true, .int (181) 0, .ref 574, .none, .ref 575, .ref 576, .ref 577, .int (1079) 0, .int (322) 0, .str "/claim/cut.py" 1080]), #[]⟩) ::
  (nat_lit 579, ⟨.type "function", none, .func (fnOf "check_program" "check_program" (dP (st 67)) (dB (st 67)) (dS (st 67)) (.none) (.none) (.none) (.str "gluepage.fonts" 972) none (.ref 578) (.none)), #[]⟩) ::
  (nat_lit 585, ⟨.type "code", none, .fields (List.toArray [.str "left_start" 1082, .str "left_start" 1083, .str "/claim/cut.py" 1084, .int (341) 0, .int (1) 0, .int (0) 0, .int (0) 0, .int (3) 0, .ref 580, .bool true, .int (181) 0, .ref 581, .none, .ref 582, .ref 583, .ref 584, .int (1090) 0, .int (341) 0, .str "/claim/cut.py" 1091]), #[]⟩) ::
  (nat_lit 586, ⟨.type "function", none, .func (fnOf "left_start" "left_start" (dP (st 68)) (dB (st 68)) (dS (st 68)) (.none) (.none) (.none) (.str "gluepage.fonts" 972) none (.ref 585) (.none)), #[]⟩) ::
  (nat_lit 594, ⟨.type "tuple", none, .seq (List.toArray []) 0, #[]⟩) ::
  (nat_lit 595, ⟨.type "tuple", none, .seq (List.toArray []) 0, #[]⟩) ::
  (nat_lit 596, ⟨.type "tuple", none, .seq (List.toArray [.ref 594, .ref 595, .int (256) 974]) 0, #[]⟩) ::
  (nat_lit 602, ⟨.type "code", none, .fields (List.toArray [.str "__init__" 1105, .str "Font.__init__" 1106, .str "/claim/cut.py" 1107, .int (348) 0, .int (9) 0, .int (0) 0, .int (0) 0, .int (3) 0, .ref 597, .bool true, .int (181) 0, .ref 598, .none, .ref 599, .ref 600, .ref 601, .int (1117) 0, .int (348) 0, .str "/claim/cut.py" 1118]), #[]⟩) ::
  (nat_lit 603, ⟨.type "function", none, .func (fnOf "__init__" "Font.__init__" (dP (mt 69 0)) (dB (mt 69 0)) (dS (mt 69 0)) (.ref 596) (.none) (.none) (.str "gluepage.fonts" 972) none (.ref 602) (.none)), #[]⟩) ::
  (nat_lit 616, ⟨.type "code", none, .fields (List.toArray [.str "width" 1128, .str "Font.width" 1129, .str "/claim/cut.py" 1130, .int (375) 0, .int (2) 0, .int (0) 0, .int (0) 0, .int (3) 0, .ref 611, .bool true, .int (181) 0, .ref 612, .none, .ref 613, .ref 614, .ref 615, .int (1133) 0, .int (375) 0, .str "/claim/cut.py" 1134]), #[]⟩) ::
  (nat_lit 617, ⟨.type "function", none, .func (fnOf "width" "Font.width" (dP (mt 69 2)) (dB (mt 69 2)) (dS (mt 69 2)) (.none) (.none) (.none) (.str "gluepage.fonts" 972) none (.ref 616) (.none)), #[]⟩) ::
  (nat_lit 675, ⟨.type "dict", none, .dict (List.toArray [⟨PyData.keyHash P "__module__", .str "__module__" 1100, .str "gluepage.fonts" 972⟩, ⟨PyData.keyHash P "__firstlineno__", .str "__firstlineno__" 1104, .int (346) 1103⟩, ⟨PyData.keyHash P "__init__", .str "__init__" 1119, .ref 603⟩, ⟨PyData.keyHash P "has", .str "has" 1127, .ref 610⟩, ⟨PyData.keyHash P "width", .str "width" 1135, .ref 617⟩, ⟨PyData.keyHash P "height", .str "height" 1143, .ref 624⟩, ⟨PyData.keyHash P "depth", .str "depth" 1151, .ref 631⟩, ⟨PyData.keyHash P "italic", .str "italic" 1159, .ref 638⟩, ⟨PyData.keyHash P "starts", .str "starts" 1167, .ref 645⟩, ⟨PyData.keyHash P "larger", .str "larger" 1176, .ref 652⟩, ⟨PyData.keyHash P "pieces", .str "pieces" 1185, .ref 659⟩, ⟨PyData.keyHash P "param", .str "param" 1193, .ref 666⟩, ⟨PyData.keyHash P "set_param", .str "set_param" 1202, .ref 673⟩, ⟨PyData.keyHash P "__static_attributes__", .str "__static_attributes__" 1216, .ref 674⟩, ⟨PyData.keyHash P "__dict__", .str "__dict__" 1218, .ref 677⟩, ⟨PyData.keyHash P "__weakref__", .str "__weakref__" 1220, .ref 678⟩, ⟨PyData.keyHash P "__doc__", .str "__doc__" 1221, .none⟩]) 4, #[]⟩)-- slots at 676
 ::
  (nat_lit 676, ⟨.type "type", none, .cls ⟨"Font", [.type "object"], [.ref 676, .type "object"], 675, "Font", true, [], [], false, none, false⟩, (List.toArray [none, none, some (.str "Font" 1093), some (.str "Font" 1101), some (.builtin "object.__new__"), some (.bool true)])⟩) ::
  (nat_lit 677, ⟨.type "getset_descriptor", none, .fields (List.toArray [.str "__dict__" 1217, .ref 676, .builtin "function.__dict__", .builtin "function.__dict__#set"]), #[]⟩) ::
  (nat_lit 678, ⟨.type "getset_descriptor", none, .fields (List.toArray [.str "__weakref__" 1219, .ref 676, .builtin "ExceptionGroup.__weakref__", .none]), #[]⟩) ::
  (nat_lit 686, ⟨.type "code", none, .fields (List.toArray [.str "font_name" 1224, .str "font_name" 1225, .str "/claim/cut.py" 1226, .int (403) 0, .int (1) 0, .int (0) 0, .int (0) 0, .int (3) 0, .ref 681, .bool true, .int (181) 0, .ref 682, .none, .ref 683, .ref 684, .ref 685, .int (1230) 0, .int (403) 0, .str "/claim/cut.py" 1231]), #[]⟩) ::
  (nat_lit 687, ⟨.type "function", none, .func (fnOf "font_name" "font_name" (dP (st 70)) (dB (st 70)) (dS (st 70)) (.none) (.none) (.none) (.str "gluepage.fonts" 972) none (.ref 686) (.none)), #[]⟩) ::
  (nat_lit 688, ⟨.type "tuple", none, .seq (List.toArray []) 0, #[]⟩) ::
  (nat_lit 689, ⟨.type "tuple", none, .seq (List.toArray []) 0, #[]⟩) ::
  (nat_lit 690, ⟨.type "tuple", none, .seq (List.toArray [.ref 537, .ref 688, .ref 689, .int (256) 974]) 0, #[]⟩) ::
  (nat_lit 696, ⟨.type "code", none, .fields (List.toArray [.str "font_of_rows" 1233, .str "font_of_rows" 1234, .str "/claim/cut.py" 1235, .int (410) 0, .int (6) 0, .int (0) 0, .int (0) 0, .int (3) 0, .ref 691, .bool true, .int (181) 0, .ref 692, .none, .ref 693, .ref 694, .ref 695, .int (1244) 0, .int (410) 0, .str "/claim/cut.py" 1245]), #[]⟩) ::
  (nat_lit 697, ⟨.type "function", none, .func (fnOf "font_of_rows" "font_of_rows" (dP (st 71)) (dB (st 71)) (dS (st 71)) (.ref 690) (.none) (.none) (.str "gluepage.fonts" 972) none (.ref 696) (.none)), #[]⟩) ::
  (nat_lit 703, ⟨.type "code", none, .fields (List.toArray [.str "_law_most" 1249, .str "_law_most" 1250, .str "/claim/cut.py" 1251, .int (420) 0, .int (0) 0, .int (0) 0, .int (0) 0, .int (3) 0, .ref 698, .bool true, .int (181) 0, .ref 699, .none, .ref 700, .ref 701, .ref 702, .int (1252) 0, .int (420) 0, .str "/claim/cut.py" 1253]), #[]⟩) ::
  (nat_lit 704, ⟨.type "function", none, .func (fnOf "_law_most" "_law_most" (dP (st 73)) (dB (st 73)) (dS (st 73)) (.none) (.none) (.none) (.str "law_sq0056_01" 1247) none (.ref 703) (.none)), #[]⟩) ::
  (nat_lit 710, ⟨.type "code", none, .fields (List.toArray [.str "_law_widths" 1255, .str "_law_widths" 1256, .str "/claim/cut.py" 1257, .int (422) 0, .int (0) 0, .int (0) 0, .int (0) 0, .int (3) 0, .ref 705, .bool true, .int (181) 0, .ref 706, .none, .ref 707, .ref 708, .ref 709, .int (1258) 0, .int (422) 0, .str "/claim/cut.py" 1259]), #[]⟩) ::
  (nat_lit 711, ⟨.type "function", none, .func (fnOf "_law_widths" "_law_widths" (dP (st 74)) (dB (st 74)) (dS (st 74)) (.none) (.none) (.none) (.str "law_sq0056_01" 1247) none (.ref 710) (.none)), #[]⟩) ::
  (nat_lit 712, ⟨.type "tuple", none, .seq (List.toArray [.int (1000015689315553268) 1261]) 0, #[]⟩) ::
  (nat_lit 718, ⟨.type "code", none, .fields (List.toArray [.str "_law_cell" 1263, .str "_law_cell" 1264, .str "/claim/cut.py" 1265, .int (425) 0, .int (2) 0, .int (0) 0, .int (0) 0, .int (3) 0, .ref 713, .bool true, .int (181) 0, .ref 714, .none, .ref 715, .ref 716, .ref 717, .int (1268) 0, .int (425) 0, .str "/claim/cut.py" 1269]), #[]⟩) ::
  (nat_lit 719, ⟨.type "function", none, .func (fnOf "_law_cell" "_law_cell" (dP (st 76)) (dB (st 76)) (dS (st 76)) (.none) (.none) (.none) (.str "law_sq0056_01" 1247) none (.ref 718) (.none)), #[]⟩) ::
  (nat_lit 725, ⟨.type "code", none, .fields (List.toArray [.str "_law_bag" 1271, .str "_law_bag" 1272, .str "/claim/cut.py" 1273, .int (427) 0, .int (1) 0, .int (0) 0, .int (0) 0, .int (3) 0, .ref 720, .bool true, .int (181) 0, .ref 721, .none, .ref 722, .ref 723, .ref 724, .int (1275) 0, .int (427) 0, .str "/claim/cut.py" 1276]), #[]⟩) ::
  (nat_lit 726, ⟨.type "function", none, .func (fnOf "_law_bag" "_law_bag" (dP (st 77)) (dB (st 77)) (dS (st 77)) (.none) (.none) (.none) (.str "law_sq0056_01" 1247) none (.ref 725) (.none)), #[]⟩) ::
  (nat_lit 732, ⟨.type "code", none, .fields (List.toArray [.str "_law_draw" 1278, .str "_law_draw" 1279, .str "/claim/cut.py" 1280, .int (429) 0, .int (2) 0, .int (0) 0, .int (0) 0, .int (3) 0, .ref 727, .bool true, .int (181) 0, .ref 728, .none, .ref 729, .ref 730, .ref 731, .int (1285) 0, .int (429) 0, .str "/claim/cut.py" 1286]), #[]⟩) ::
  (nat_lit 733, ⟨.type "function", none, .func (fnOf "_law_draw" "_law_draw" (dP (st 78)) (dB (st 78)) (dS (st 78)) (.none) (.none) (.none) (.str "law_sq0056_01" 1247) none (.ref 732) (.none)), #[]⟩) ::
  (nat_lit 737, ⟨.type "code", none, .fields (List.toArray [.str "_law_part" 1288, .str "_law_part" 1289, .str "/claim/cut.py" 1290, .int (438) 0, .int (2) 0, .int (0) 0, .int (0) 0, .int (3) 0, .ref 734, .bool true, .int (181) 0, .ref 735, .none, .none, .none, .ref 736, .int (1291) 0, .int (438) 0, .str "/claim/cut.py" 1292]), #[]⟩) ::
  (nat_lit 738, ⟨.type "function", none, .func (fnOf "_law_part" "_law_part" (dP (st 79)) (dB (st 79)) (dS (st 79)) (.none) (.none) (.none) (.str "law_sq0056_01" 1247) none (.ref 737) (.none)), #[]⟩) ::
  (nat_lit 742, ⟨.type "code", none, .fields (List.toArray [.str "_law_node" 1294, .str "_law_node" 1295, .str "/claim/cut.py" 1296, .int (462) 0, .int (2) 0, .int (0) 0, .int (0) 0, .int (3) 0, .ref 739, .bool true, .int (181) 0, .ref 740, .none, .none, .none, .ref 741, .int (1297) 0, .int (462) 0, .str "/claim/cut.py" 1298]), #[]⟩) ::
  (nat_lit 743, ⟨.type "function", none, .func (fnOf "_law_node" "_law_node" (dP (st 80)) (dB (st 80)) (dS (st 80)) (.none) (.none) (.none) (.str "law_sq0056_01" 1247) none (.ref 742) (.none)), #[]⟩) ::
  (nat_lit 749, ⟨.type "code", none, .fields (List.toArray [.str "_law_moves" 1300, .str "_law_moves" 1301, .str "/claim/cut.py" 1302, .int (483) 0, .int (3) 0, .int (0) 0, .int (0) 0, .int (3) 0, .ref 744, .bool true, .int (181) 0, .ref 745, .none, .ref 746, .ref 747, .ref 748, .int (1308) 0, .int (483) 0, .str "/claim/cut.py" 1309]), #[]⟩) ::
  (nat_lit 750, ⟨.type "function", none, .func (fnOf "_law_moves" "_law_moves" (dP (st 81)) (dB (st 81)) (dS (st 81)) (.none) (.none) (.none) (.str "law_sq0056_01" 1247) none (.ref 749) (.none)), #[]⟩) ::
  (nat_lit 754, ⟨.type "code", none, .fields (List.toArray [.str "_law_due" 1311, .str "_law_due" 1312, .str "/claim/cut.py" 1313, .int (488) 0, .int (5) 0, .int (0) 0, .int (0) 0, .int (3) 0, .ref 751, .bool true, .int (181) 0, .ref 752, .none, .none, .none, .ref 753, .int (1314) 0, .int (488) 0, .str "/claim/cut.py" 1315]), #[]⟩) ::
  (nat_lit 755, ⟨.type "function", none, .func (fnOf "_law_due" "_law_due" (dP (st 82)) (dB (st 82)) (dS (st 82)) (.none) (.none) (.none) (.str "law_sq0056_01" 1247) none (.ref 754) (.none)), #[]⟩) ::
  (nat_lit 759, ⟨.type "code", none, .fields (List.toArray [.str "law" 1317, .str "law" 1318, .str "/claim/cut.py" 1319, .int (500) 0, .int (1) 0, .int (0) 0, .int (0) 0, .int (3) 0, .ref 756, .bool true, .int (181) 0, .ref 757, .none, .none, .none, .ref 758, .int (1320) 0, .int (500) 0, .str "/claim/cut.py" 1321]), #[]⟩) ::
  (nat_lit 760, ⟨.type "function", none, .func (fnOf "law" "law" (dP (st 83)) (dB (st 83)) (dS (st 83)) (.none) (.none) (.none) (.str "law_sq0056_01" 1247) none (.ref 759) (.none)), #[]⟩) :: []
abbrev kAddrs : List Nat := (3 :: 100 :: 101 :: 107 :: 108 :: 114 :: 115 :: 121 :: 122 :: 165 :: 171 :: 172 :: 178 :: 179 :: 224 :: 225 :: 226 :: 227 :: 259 :: 260 :: 266 :: 267 :: 280 :: 281 :: 283 :: 284 :: 285 :: 286 :: 296 :: 300 :: 301 :: 303 :: 304 :: 305 :: 306 :: 321 :: 322 :: 324 :: 325 :: 326 :: 327 :: 342 :: 343 :: 345 :: 346 :: 347 :: 348 :: 363 :: 364 :: 366 :: 367 :: 368 :: 369 :: 379 :: 385 :: 386 :: 388 :: 389 :: 390 :: 391 :: 406 :: 407 :: 409 :: 410 :: 411 :: 412 :: 427 :: 428 :: 430 :: 431 :: 432 :: 433 :: 448 :: 449 :: 451 :: 452 :: 453 :: 454 :: 469 :: 470 :: 472 :: 473 :: 474 :: 475 :: 483 :: 484 :: 495 :: 496 :: 497 :: 501 :: 502 :: 503 :: 507 :: 508 :: 512 :: 513 :: 519 :: 520 :: 526 :: 527 :: 536 :: 537 :: 543 :: 544 :: 550 :: 551 :: 564 :: 565 :: 571 :: 572 :: 578 :: 579 :: 585 :: 586 :: 594 :: 595 :: 596 :: 602 :: 603 :: 616 :: 617 :: 675 :: 676 :: 677 :: 678 :: 686 :: 687 :: 688 :: 689 :: 690 :: 696 :: 697 :: 703 :: 704 :: 710 :: 711 :: 712 :: 718 :: 719 :: 725 :: 726 :: 732 :: 733 :: 737 :: 738 :: 742 :: 743 :: 749 :: 750 :: 754 :: 755 :: 759 :: 760 :: [])
abbrev loose : List Str := (Str.ofString "_wall" :: Str.ofString "PageError" :: Str.ofString "BadArgument" :: Str.ofString "Overflow" :: Str.ofString "BadFont" :: Str.ofString "TooDeep" :: Str.ofString "UNITY" :: Str.ofString "MAX_DIMEN" :: Str.ofString "MAX_NUMBER" :: Str.ofString "NORMAL" :: Str.ofString "FIL" :: Str.ofString "FILL" :: Str.ofString "FILLL" :: Str.ofString "is_whole" :: Str.ofString "check_whole" :: Str.ofString "check_number" :: Str.ofString "check_dimen" :: Str.ofString "rounded" :: Str.ofString "reading" :: Str.ofString "decimal_text" :: Str.ofString "order_text" :: Str.ofString "part_text" :: Str.ofString "Glue" :: Str.ofString "CHAR" :: Str.ofString "LIGATURE" :: Str.ofString "HBOX" :: Str.ofString "VBOX" :: Str.ofString "RULE" :: Str.ofString "KERN" :: Str.ofString "GLUE" :: Str.ofString "PENALTY" :: Str.ofString "DISC" :: Str.ofString "MARK" :: Str.ofString "INSERT" :: Str.ofString "ADJUST" :: Str.ofString "MATH" :: Str.ofString "SPECIAL" :: Str.ofString "UNSET" :: Str.ofString "NATURAL" :: Str.ofString "STRETCHED" :: Str.ofString "SHRUNK" :: Str.ofString "FONT_KERN" :: Str.ofString "EXPLICIT" :: Str.ofString "ACCENT_KERN" :: Str.ofString "MU_KERN" :: Str.ofString "PLAIN" :: Str.ofString "ALEADERS" :: Str.ofString "CLEADERS" :: Str.ofString "XLEADERS" :: Str.ofString "MU_SKIP" :: Str.ofString "NONSCRIPT" :: Str.ofString "NAMED" :: Str.ofString "FOR_DEVICE" :: Str.ofString "WRITING" :: Str.ofString "OPENING" :: Str.ofString "CLOSING" :: Str.ofString "DEEPEST" :: Str.ofString "check_code" :: Str.ofString "check_short" :: Str.ofString "Char" :: Str.ofString "Ligature" :: Str.ofString "Box" :: Str.ofString "Rule" :: Str.ofString "Kern" :: Str.ofString "Skip" :: Str.ofString "Penalty" :: Str.ofString "Disc" :: Str.ofString "Mark" :: Str.ofString "MathEdge" :: Str.ofString "check_depth" :: Str.ofString "described_special" :: Str.ofString "described_rest" :: Str.ofString "described" :: Str.ofString "described_list" :: Str.ofString "width_of" :: Str.ofString "flex" :: Str.ofString "line_reach" :: Str.ofString "EDGE" :: Str.ofString "MOST_FONTS" :: Str.ofString "MOST_PARAMS" :: Str.ofString "MOST_SIZE" :: Str.ofString "PLAIN_SORT" :: Str.ofString "PROGRAM_SORT" :: Str.ofString "LARGER_SORT" :: Str.ofString "PIECES_SORT" :: Str.ofString "STOP_SKIP" :: Str.ofString "KERN_OP" :: Str.ofString "LEAD" :: Str.ofString "NO_CHARACTER" :: Str.ofString "LETTERS" :: Str.ofString "SMALL_PARAMS" :: Str.ofString "is_size" :: Str.ofString "check_sizes" :: Str.ofString "check_pieces" :: Str.ofString "check_chars" :: Str.ofString "check_larger" :: Str.ofString "check_program" :: Str.ofString "left_start" :: Str.ofString "Font" :: Str.ofString "font_name" :: Str.ofString "font_of_rows" :: Str.ofString "_law_most" :: Str.ofString "_law_widths" :: Str.ofString "_law_chosen" :: Str.ofString "_law_cell" :: Str.ofString "_law_bag" :: Str.ofString "_law_draw" :: Str.ofString "_law_part" :: Str.ofString "_law_node" :: Str.ofString "_law_moves" :: Str.ofString "_law_due" :: [])
theorem kAddrs_eq : ∀ P, kAddrs = (K P).map (·.1) := fun _ => by kernel_rfl!
def vw : Program := { pw with main := { pw.main with body := [st 83] } }
end
section
theorem said' : PySem.W.Fast.tw9446332074065402090 PySem.Challenge.rw_sq0056_01 = true := by decide +kernel
theorem said : PySem.Challenge.rw_sq0056_01.wellSaid = true := (congrFun PySem.W.Fast.te9446332074065402090 _).trans said'
end
section
abbrev bE : List Stmt := behindTheImports pw
abbrev e0 : Env := { scope := pw.main.scope, locals := mainNs, globals := mainNs, cells := [], code := .ref 13, frame := some 14 }
abbrev cE : Code := .body bE e0
abbrev q0 : Pos := ⟨0, 0, 0, 0⟩
abbrev ann6 : Option Value := some (.ref 6)
abbrev gs0 : Array GenState := Array.mk []
def o11 : Obj := ⟨.type "tuple", none, .seq #[] 0, #[]⟩
def o12 : Obj := ⟨.none, none, .fields #[], #[]⟩
def o13 : Obj := ⟨.type "code", none, .fields #[.str "<module>" 182, .str "<module>" 183, .str "/claim/cut.py" 184, .int 1 0, .int 0 0, .int 0 0, .int 0 0, .int 0 0, .ref 11, .bool false, .int 181 0, .ref 12, .none, .none, .none, .none, .int 185 0, .int 1 0, .str "/claim/cut.py" 186], #[]⟩
def o14 : Obj := ⟨.type "frame", none, .plain, #[some (.ref 13), some (.ref 3), some (.ref 3), none, some (.str "__main__" 164), none, some (.ref 0)]⟩
def T15 (P : Params) : BT :=
  .node (boot_o_0 P)
    (.node (boot_o_1 P) (.node (boot_o_3 P) (.node (boot_o_7 P) .nil .nil) (.node o11 .nil .nil)) (.node (boot_o_5 P) (.node (boot_o_9 P) .nil .nil) (.node o13 .nil .nil)))
    (.node (boot_o_2 P) (.node (boot_o_4 P) (.node (boot_o_8 P) .nil .nil) (.node o12 .nil .nil)) (.node (boot_o_6 P) (.node (boot_o_10 P) .nil .nil) (.node o14 .nil .nil)))
abbrev S15 (w : World) (os : OsState) : SharedT := ⟨T15 w.params, 15, (boot_heap w.params).life, gs0, boot_drawn, 187, os⟩
abbrev S11 (w : World) (os : OsState) : Shared := ⟨boot_heap w.params, gs0, boot_drawn, boot_toks, os⟩
set_option maxHeartbeats 8000000 in
theorem pre12 (w : World) (os : OsState) : topGo treeTable pw w 11 ann6 12 (S11 w os) (topStub pw) = some ((S15 w os).abs, ⟨denote treeTable cE, cE, q0, [topFrame q0]⟩) := by kernel_rfl!
theorem blk (w : World) (os : OsState) : segRun treeTable pw w 11 ann6 1 1 (S15 w os).abs (blockOf bE e0 cE q0 [topFrame q0]) = some (.next, (S15 w os).abs, cE, q0) := by kernel_rfl!
theorem opn : ∀ w : World, (fencedOpening treeTable pw w 14006).map (fun s => (s.heap, s.gens, s.drawn, s.toks)) = some (boot_heap w.params, gs0, boot_drawn, boot_toks) :=
  boot_open (by kernel_rfl!) (by decide +kernel) (fun s => by kernel_rfl!)
end
section
abbrev hook : Hook := kHook K kAddrs kAddrs_eq
abbrev xt (s : Shared) : Bool := xlAt vw [] s && recOk (RowW.records PySem.Challenge.rw_sq0056_01.row.toRowW) s
abbrev mods : List Str := importedModules pw.main.body
def getQ (s : SharedT) (a : Addr) : Option Obj := match Nat.blt a s.n with
  | true => (match s.tree.get a with
    | some o => alive o
    | none => none)
  | false => none
abbrev okEnd (w : World) (s : Shared) : Bool := staticsOk mods (boot_heap w.params) s.heap && namesBound pw s.heap && gensDone s && laidKept (boot_heap w.params) s.heap
abbrev fw (w : World) (b : Bool) : World := w.withFollow "special-get-raises" b
def lk (w : World) (x : Flow × SharedT × Code × Pos) := (x.1, x.2.2.1, okEnd w x.2.1.abs, PySem.W.Fast.tw4187177175401517315 vw loose mods xt true x.2.1.abs, kAddrs.map (getQ x.2.1))
def gd (w : World) := (Flow.next, cE, true, openGood vw loose, (K w.params).map fun p => some p.2)
abbrev rQ (w : World) (os : OsState) : Option (Flow × SharedT × Code × Pos) :=
  PySem.W.Fast.tw10110043849684766642 PySem.W.Fast.tw14364793385576792824 pw w 11 ann6 1 7200 (S15 w os) (piecesOf bE e0 cE q0 [topFrame q0])
set_option maxHeartbeats 8000000 in
theorem mainF (w : World) (os : OsState) : (rQ (fw w false) os).map (lk (fw w false)) = some (gd (fw w false)) := by kernel_rfl
set_option maxHeartbeats 8000000 in
theorem mainT (w : World) (os : OsState) : (rQ (fw w true) os).map (lk (fw w true)) = some (gd (fw w true)) := by kernel_rfl
end
section
theorem abs_of_getQ {s : SharedT} {a : Addr} {o : Obj} (h : getQ s a = some o) : s.abs.heap.get? a = some o := by
  unfold getQ at h
  split at h
  · rename_i hb
    split at h
    · rename_i o' ho
      exact (abs_get (Nat.le_of_ble_eq_true hb) ho).trans h
    · cases h
  · cases h
theorem obs_of {s : SharedT} {l : List (Addr × Obj)} (h : (l.map (·.1)).map (getQ s) = l.map fun p => some p.2) : (l.map (·.1)).map s.abs.heap.get? = l.map fun p => some p.2 := by
  induction l with
  | nil => rfl
  | cons p l ih =>
    simp only [List.map_cons, List.cons.injEq] at h ⊢
    exact ⟨abs_of_getQ h.1, ih h.2⟩
def Seen (w : World) : Prop := ∀ os, ∃ (s : SharedT) (p : Pos), segRunT treeTable pw w 11 ann6 1 7200 (S15 w os) (piecesOf bE e0 cE q0 [topFrame q0]) = some (.next, s, cE, p) ∧
  okEnd w s.abs = true ∧ openSeen vw loose mods xt true s.abs = openGood vw loose ∧ kAddrs.map s.abs.heap.get? = (K w.params).map fun p => some p.2
theorem seen_of {w : World} (h : ∀ os, (rQ w os).map (lk w) = some (gd w)) : Seen w := fun os => by
  obtain ⟨⟨f, s, c, p⟩, e, e'⟩ := Option.map_eq_some_iff.mp (h os)
  have h1 : f = .next := congrArg (fun x => x.1) e'
  have h2 : c = cE := congrArg (fun x => x.2.1) e'
  have h3 : okEnd w s.abs = true := congrArg (fun x => x.2.2.1) e'
  have h4 : PySem.W.Fast.tw4187177175401517315 vw loose mods xt true s.abs = openGood vw loose := congrArg (fun x => x.2.2.2.1) e'
  have h5 : kAddrs.map (getQ s) = (K w.params).map fun p => some p.2 := congrArg (fun x => x.2.2.2.2) e'
  subst h1 h2
  refine ⟨s, p, ?_, h3, ?_, ?_⟩
  · rw [PySem.W.Fast.te10110043849684766642, PySem.W.Fast.te14364793385576792824]
    exact e
  · rw [PySem.W.Fast.te4187177175401517315]
    exact h4
  · rw [kAddrs_eq w.params] at h5 ⊢
    exact obs_of h5
theorem seen (w : World) : Seen w := byRow2 "special-get-raises" (P := Seen) (fun w => seen_of (mainF w)) (fun w => seen_of (mainT w)) w
theorem fin2 (w : World) (s : Shared) (p : Pos) : topRun treeTable pw w 11 ann6 2 s (restOf [] e0 cE p [topFrame q0]) = some s := by
  obtain ⟨h, g, d, t, o⟩ := s
  rfl
theorem runs (w : World) (os : OsState) : ∃ s : SharedT, topRun treeTable pw w 11 ann6 (12 + (1 + (7200 + 2))) (S11 w os) (topStub pw) = some s.abs ∧
    okEnd w s.abs = true ∧ openSeen vw loose mods xt true s.abs = openGood vw loose ∧ kAddrs.map s.abs.heap.get? = (K w.params).map fun p => some p.2 := by
  obtain ⟨s, p, h1, h2, h3, h4⟩ := seen w os
  refine ⟨s, go_top (pre12 w os) (piece_block (blk w os) ?_), h2, h3, h4⟩
  have := piece_app (rest := []) (segRun_of h1) (fin2 w s.abs p)
  rwa [List.append_nil] at this
theorem size0 (w : World) : ((boot_heap w.params).isNs mainGlobals && gs0.size == 0) = true ∧ (boot_heap w.params).objs.size = 11 ∧ (boot_heap w.params).nsMap mainGlobals "__annotations__" = ann6 := ⟨by kernel_rfl!, by kernel_rfl!, by kernel_rfl!⟩
theorem left : LeftO pw vw loose xt hook.obs hook.val 14006 true := fun w => by
  obtain ⟨⟨h, gs, d, k, os⟩, e, e'⟩ := Option.map_eq_some_iff.mp (opn w)
  simp only [Prod.mk.injEq] at e'
  obtain ⟨rfl, rfl, rfl, rfl⟩ := e'
  obtain ⟨s, r, l1, l2, l3⟩ := runs w os
  obtain ⟨z1, z2, z3⟩ := size0 w
  have t : topFrom treeTable pw w 14006 (S11 w os) = some s.abs := by
    unfold topFrom
    dsimp only
    rw [z1, z2, z3, topRun_mono (14006 - (12 + (1 + (7200 + 2)))) _ _ _ _ r]
    dsimp only [Option.bind_some]
    rw [show (staticsOk (importedModules pw.main.body) (boot_heap w.params) s.abs.heap && namesBound pw s.abs.heap && gensDone s.abs && laidKept (boot_heap w.params) s.abs.heap) = true from l1]
  unfold openEnds
  rw [e, Option.bind_some, t, Option.map_some, l2]
  exact congrArg (fun x => some (openGood vw loose, x)) l3
end
section
abbrev rwL : OpenLaw := PySem.Challenge.rw_sq0056_01
abbrev dL : DefRec := { name := "law", params := dP (st 83), body := dB (st 83), scope := dS (st 83), pos := (st 83).pos }
set_option maxHeartbeats 8000000 in
theorem holds_of (hc : WalkO vw loose (XL vw []) hook.says rwL.row.toRowW dL [] fun f vs => PySem.call f vs) : rwL.Holds := by
  refine holds_law said fun h1 => ?_
  refine holds_open (r := rwL.row) (q := vw) (loose := loose) (Xt := xt) (XP := XL vw []) (Yf := hook.obs) (Ya := hook.val) (YP := hook.says) (d := dL) (kwd := []) (N := 14006) left hook.of hook.keeps (fun s e => xl_of s (Bool.and_eq_true_iff.mp e).1) XL.keeps ?d1 ?d2 ?d3 (fun s e => recFacts_of (Bool.and_eq_true_iff.mp e).2) rfl h1 ?d4 ?d5 ?d6 hc
  case d1 => kernel_rfl
  case d2 => kernel_rfl
  case d3 => kernel_rfl
  case d4 => decide +kernel
  case d5 => exact ⟨rfl, rfl, rfl, rfl, rfl, by decide +kernel⟩
  case d6 => w_witness2
end
section
abbrev Led := List (Addr × Obj)
abbrev Has := Addr → Obj → Prop
def CallsTo (w : World) (f : Addr) (args : List Value) (mu fr : Led) (dd uu : Nat) (post : Value → Led → Led → Prop) : Prop :=
  ∀ (prog : Program) (p : Program) (loose : List Str) (mean : ExcName → Option Value) (mg mb : Str → Option Value)
    (A : Around) (env : Env) (outer : List Env) (A₀ : Around) (base h₀ : Heap) (L : Addr) (m : Str → Option Value) (s : Shared) (Q E : Value → Shared → Prop),
    Below A₀ base outer h₀ → Fr h₀ L s.heap m → (K w.params).In h₀ → News h₀ L s.heap (mu ++ fr) → Top p loose mean mg mb h₀ → A.handled = none → A.frames = some (env :: outer) → env.frame = some L → env.scope.kind = .function → A.depth + dd < recursionLimit → A.units + uu < cLine →
    (∀ r h' tk' mu' tl, Fr h₀ L h' m → News h₀ L h' (tl ++ (mu' ++ fr)) → (∀ q ∈ tl, LCg.Off1 q.1 (mu ++ fr)) → post r mu' tl → Q r { s with heap := h', toks := tk' }) →
    wpAny (model prog w) A (call (.ref f) args) Q E s
theorem Off1mem {D : Addr} {l : Led} (h : LCg.Off1 D l) : ∀ p ∈ l, p.1 ≠ D := by
  induction l with
  | nil => intro p hp; cases hp
  | cons q l ih =>
    intro p hp
    cases hp with
    | head => exact h.1
    | tail _ hp => exact ih h.2 p hp
theorem Off1of {D : Addr} {l : Led} (h : ∀ p ∈ l, p.1 ≠ D) : LCg.Off1 D l := by
  induction l with
  | nil => exact trivial
  | cons q l ih => exact ⟨h q (.head _), ih fun p hp => h p (.tail _ hp)⟩
theorem off1_sub {D : Addr} {a b : Led} (h : LCg.Off1 D a) (s : ∀ p ∈ b, p ∈ a) : LCg.Off1 D b := Off1of fun p hp => Off1mem h p (s p hp)
theorem off1_lt {D : Addr} {l : Led} (h : AllLt D l) : LCg.Off1 D l := Off1of fun p hp => Nat.ne_of_lt (ktn_ltOf h p hp)
theorem off1_lt1 {D : Addr} {l : Led} (h : AllLt D l) : LCg.Off1 (D + 1) l := Off1of fun p hp => Nat.ne_of_lt (Nat.lt_succ_of_lt (ktn_ltOf h p hp))
theorem off1_app {D : Addr} : ∀ {l r : Led}, LCg.Off1 D l → LCg.Off1 D r → LCg.Off1 D (l ++ r)
  | [], _, _, h => h
  | _ :: _, _, h, k => ⟨h.1, off1_app h.2 k⟩
theorem news_sub {h₀ h : Heap} {L : Addr} {a b : Led} (x : News h₀ L h a) (s : ∀ p ∈ b, p ∈ a) : News h₀ L h b := fun p hp => x p (s p hp)
section
variable {prog : Program} {w : World} {f : Addr} {args : List Value} {news : Led} {dd uu : Nat} {p : Program} {loose : List Str} {mean : ExcName → Option Value} {mg mb : Str → Option Value} {A : Around} {env : Env} {outer : List Env} {A₀ : Around} {base h₀ : Heap} {L : Addr} {m : Str → Option Value} {s : Shared} {Q E : Value → Shared → Prop}
theorem CallsTo.use0 {hp : Heap} {gs : Array GenState} {dr : Drawn} {tk0 : Nat} {os : OsState} {post : Value → Led → Led → Prop} (C : CallsTo w f args [] news dd uu post)
    (B : Below A₀ base outer h₀) (F : Fr h₀ L hp m) (X : (K w.params).In h₀) (N : News h₀ L hp news) (T : Top p loose mean mg mb h₀) (hh : A.handled = none) (hA : A.frames = some (env :: outer)) (hf : env.frame = some L) (hk : env.scope.kind = .function)
    (hd : A.depth + dd < recursionLimit) (hu : A.units + uu < cLine)
    (ret : ∀ r h' tk' mu' tl, Fr h₀ L h' m → News h₀ L h' (tl ++ (mu' ++ news)) → (∀ q ∈ tl, LCg.Off1 q.1 news) → post r mu' tl → Q r ⟨h', gs, dr, tk', os⟩) : wpAny (model prog w) A (call (.ref f) args) Q E ⟨hp, gs, dr, tk0, os⟩ :=
  C prog p loose mean mg mb A env outer A₀ base h₀ L m ⟨hp, gs, dr, tk0, os⟩ Q E B F X N T hh hA hf hk hd hu ret
theorem CallsTo.useP {hp : Heap} {gs : Array GenState} {dr : Drawn} {tk0 : Nat} {os : OsState} {v : Value} (C : ∀ fr, CallsTo w f args [] fr dd uu (fun r mu' tl => mu' = [] ∧ tl = [] ∧ r = v))
    (B : Below A₀ base outer h₀) (F : Fr h₀ L hp m) (X : (K w.params).In h₀) (N : News h₀ L hp news) (T : Top p loose mean mg mb h₀) (hh : A.handled = none) (hA : A.frames = some (env :: outer)) (hf : env.frame = some L) (hk : env.scope.kind = .function)
    (hd : A.depth + dd < recursionLimit) (hu : A.units + uu < cLine)
    (ret : ∀ h' tk', Fr h₀ L h' m → News h₀ L h' news → Q v ⟨h', gs, dr, tk', os⟩) : wpAny (model prog w) A (call (.ref f) args) Q E ⟨hp, gs, dr, tk0, os⟩ := by
  refine C news prog p loose mean mg mb A env outer A₀ base h₀ L m ⟨hp, gs, dr, tk0, os⟩ Q E B F X N T hh hA hf hk hd hu ?_
  rintro r h' tk' _ _ F' N' _ ⟨rfl, rfl, rfl⟩
  exact ret h' tk' F' N'
theorem CallsTo.use0e {hp : Heap} {gs : Array GenState} {dr : Drawn} {tk0 : Nat} {os : OsState} {post : Value → Led → Prop} (C : CallsTo w f args [] news dd uu (fun r mu' tl => mu' = [] ∧ post r tl))
    (B : Below A₀ base outer h₀) (F : Fr h₀ L hp m) (X : (K w.params).In h₀) (N : News h₀ L hp news) (T : Top p loose mean mg mb h₀) (hh : A.handled = none) (hA : A.frames = some (env :: outer)) (hf : env.frame = some L) (hk : env.scope.kind = .function)
    (hd : A.depth + dd < recursionLimit) (hu : A.units + uu < cLine)
    (ret : ∀ r h' tk' tl, Fr h₀ L h' m → News h₀ L h' (tl ++ news) → (∀ q ∈ tl, LCg.Off1 q.1 news) → post r tl → Q r ⟨h', gs, dr, tk', os⟩) : wpAny (model prog w) A (call (.ref f) args) Q E ⟨hp, gs, dr, tk0, os⟩ := by
  refine C prog p loose mean mg mb A env outer A₀ base h₀ L m ⟨hp, gs, dr, tk0, os⟩ Q E B F X N T hh hA hf hk hd hu ?_
  rintro r h' tk' _ tl F' N' lt ⟨rfl, hp⟩
  exact ret r h' tk' tl F' N' lt hp
theorem CallsTo.use0i {hp : Heap} {gs : Array GenState} {dr : Drawn} {tk0 : Nat} {os : OsState} {V : Int} (C : CallsTo w f args [] news dd uu (fun r mu' tl => mu' = [] ∧ tl = [] ∧ ∃ t, r = .int V t))
    (B : Below A₀ base outer h₀) (F : Fr h₀ L hp m) (X : (K w.params).In h₀) (N : News h₀ L hp news) (T : Top p loose mean mg mb h₀) (hh : A.handled = none) (hA : A.frames = some (env :: outer)) (hf : env.frame = some L) (hk : env.scope.kind = .function)
    (hd : A.depth + dd < recursionLimit) (hu : A.units + uu < cLine)
    (ret : ∀ h' tk' t, Fr h₀ L h' m → News h₀ L h' news → Q (.int V t) ⟨h', gs, dr, tk', os⟩) : wpAny (model prog w) A (call (.ref f) args) Q E ⟨hp, gs, dr, tk0, os⟩ := by
  refine C prog p loose mean mg mb A env outer A₀ base h₀ L m ⟨hp, gs, dr, tk0, os⟩ Q E B F X N T hh hA hf hk hd hu ?_
  rintro r h' tk' _ _ F' N' _ ⟨rfl, rfl, t, rfl⟩
  exact ret h' tk' t F' N'
theorem CallsTo.use1 {hp : Heap} {gs : Array GenState} {dr : Drawn} {tk0 : Nat} {os : OsState} {b : Addr} {o : Obj} {g : Obj → Led} {post : Value → Obj → Led → Prop} (U : UpdF b o news g) (C : ∀ fr, (∀ q ∈ fr, q.1 ≠ b) → CallsTo w f args [(b, o)] fr dd uu (fun r mu' tl => ∃ o', mu' = [(b, o')] ∧ post r o' tl))
    (B : Below A₀ base outer h₀) (F : Fr h₀ L hp m) (X : (K w.params).In h₀) (N : News h₀ L hp news) (T : Top p loose mean mg mb h₀) (hh : A.handled = none) (hA : A.frames = some (env :: outer)) (hf : env.frame = some L) (hk : env.scope.kind = .function)
    (hd : A.depth + dd < recursionLimit) (hu : A.units + uu < cLine)
    (ret : ∀ r h' tk' o' tl, Fr h₀ L h' m → News h₀ L h' (tl ++ g o') → (∀ q ∈ tl, LCg.Off1 q.1 news) → post r o' tl → Q r ⟨h', gs, dr, tk', os⟩) : wpAny (model prog w) A (call (.ref f) args) Q E ⟨hp, gs, dr, tk0, os⟩ := by
  obtain ⟨pre, pst, e1, e2, o1, o2⟩ := U.split
  subst e1
  refine C (pre ++ pst) (fun q hq => (List.mem_append.mp hq).elim (o1 q) (o2 q)) prog p loose mean mg mb A env outer A₀ base h₀ L m ⟨hp, gs, dr, tk0, os⟩ Q E B F X (news_sub N ?_) T hh hA hf hk hd hu ?_
  · intro q hq
    simp only [List.cons_append, List.nil_append, List.mem_cons, List.mem_append] at hq ⊢
    rcases hq with h | h | h <;> simp [h]
  · rintro r h' tk' mu' tl F' N' lt ⟨o', rfl, hp⟩
    refine ret r h' tk' o' tl F' (news_sub N' ?_) (fun q hq => off1_sub (lt q hq) fun x hx => ?_) hp
    · intro q hq
      rw [e2] at hq
      simp only [List.cons_append, List.nil_append, List.mem_cons, List.mem_append] at hq ⊢
      rcases hq with h | h | h | h <;> simp [h]
    · simp only [List.cons_append, List.nil_append, List.mem_cons, List.mem_append] at hx ⊢
      rcases hx with h | h | h <;> simp [h]
end
theorem lt_tl0 {fr : Led} : ∀ q ∈ ([] : Led), LCg.Off1 q.1 fr := fun _ h => nomatch h
section
variable {prog : Program} {w : World} {A : Around} {E : Value → Shared → Prop} {s : Shared} {h₀ : Heap} {L a : Addr} {m : Str → Option Value} {news : Led} {Q : Value → Shared → Prop}
theorem sub_list {value slice : Expr} {vs : List Value} {n : Nat} {k : Int} {u : Tok} {v : Value} (N : News h₀ L s.heap news) (hm : (a, listOf vs.toArray n) ∈ news) (h0 : 0 ≤ k) (hhi : k < 2 ^ 63) (hx : vs[k.toNat]? = some v) (h : Q v s)
    (hs : subscripted slice false (.ref a) (.int k u) = operate [.ref a, .int k u] (getItem (.ref a) (.int k u)) := by with_unfolding_all rfl) :
    wpAny (model prog w) A (subscriptTail value slice (.ref a) (.int k u)) Q E s :=
  have hL : s.heap.IsList a vs.toArray := ⟨_, N.get hm, rfl, n, rfl⟩
  tail_any hL.typeIs slot_list_getitem.lookup (wpAny_getItem_list hL h0 hhi (by simpa using hx) h) hs
theorem sub_menu {value slice : Expr} {vs : List Value} {ws : List Int} {n : Nat} {k : Int} {u : Tok} (N : News h₀ L s.heap news) (hm : (a, ({ cls := .type "tuple", data := .seq vs.toArray n } : Obj)) ∈ news) (hi : IntsAre vs ws) (h0 : 0 ≤ k) (hk : k < ws.length) (hs8 : ws.length ≤ 8)
    (hb : ws.all (fun i => decide (-1073741823 ≤ i ∧ i ≤ 1073741823)) = true) (h : ∀ i t, ws[k.toNat]? = some i → -1073741823 ≤ i → i ≤ 1073741823 → Q (.int i t) s)
    (hs : subscripted slice false (.ref a) (.int k u) = operate [.ref a, .int k u] (getItem (.ref a) (.int k u)) := by with_unfolding_all rfl) :
    wpAny (model prog w) A (subscriptTail value slice (.ref a) (.int k u)) Q E s := by
  have hlt : k.toNat < ws.length := by omega
  obtain ⟨t, ht⟩ := hi.get k.toNat ws[k.toNat] (by simp [hlt])
  have hx : ws[k.toNat]? = some ws[k.toNat] := by simp [hlt]
  have hb' := List.all_eq_true.mp hb _ (List.mem_of_getElem? hx)
  simp only [decide_eq_true_eq] at hb'
  have hl : vs.length = ws.length := hi.length
  have T : IsTup s.heap a vs.toArray := ⟨_, N.get hm, rfl, n, rfl⟩
  have hq : seqIndex? k vs.toArray.size = some k.toNat := by
    have e : (if k < 0 then k + (ws.length : Int) else k) = k := if_neg (by omega)
    unfold seqIndex?
    rw [List.size_toArray, hl]
    simp only [e]
    exact if_pos (by simp only [h0, hk, decide_true, Bool.and_self])
  exact tail_any T.typeIs slot_tuple_getitem.lookup (getItem_tuple T (by omega) (by omega) hq (by simpa using ht) (h _ t hx hb'.1 hb'.2)) hs
theorem pow_small {x n : Int} {t u : Tok} (hn : 0 ≤ n) (hn2 : n ≤ 1000000) (hx : -(2 ^ 64 : Int) < x ∧ x < 2 ^ 64) (h : Q (.int (x ^ n.toNat) s.toks) { s with toks := s.toks + 1 }) : wpAny (model prog w) A (binaryOp .Pow (.int x t) (.int n u)) Q E s :=
  pow_int_small hn hn2 (by have := hx.1; have := hx.2; omega) h
end
theorem fmod_of_pos (x : Int) (n : Nat) : x.fmod (no_index (OfNat.ofNat n)) = x % (OfNat.ofNat n : Int) := Int.fmod_eq_emod_of_nonneg x (Int.natCast_nonneg n)
theorem fmod_nn {x m : Int} (h : 0 < m) : 0 ≤ x.fmod m := Int.fmod_nonneg_of_pos x h
theorem fmod_lt {x m : Int} (h : 0 < m) : x.fmod m < m := Int.fmod_lt_of_pos x h
theorem fdiv_nn {x m : Int} (h0 : 0 ≤ x) (h : 0 < m) : 0 ≤ x.fdiv m := Int.fdiv_nonneg h0 (Int.le_of_lt h)
abbrev bagO (b0 b1 b2 : Int) (t0 t1 t2 : Tok) (ep : Nat) : Obj := listOf #[.int b0 t0, .int b1 t1, .int b2 t2] ep
def Halt (P : Prop) : Prop := P
theorem Halt.go {P : Prop} (h : P) : Halt P := h
theorem tlR {tlRa tlRb : Prop} (tlRh : tlRa ∧ tlRb) : tlRb := tlRh.2
theorem tlL {tlRa tlRb : Prop} (tlRh : tlRa ∧ tlRb) : tlRa := tlRh.1
theorem room0 {d k R : Nat} (h : d + k < R) : d < R := Nat.lt_of_le_of_lt (Nat.le_add_right d k) h
theorem room1 {d a k R : Nat} (h : d + k < R) (e : Nat.ble a k = true) : d + a < R := Nat.lt_of_le_of_lt (Nat.add_le_add_left (Nat.le_of_ble_eq_true e) d) h
theorem room2 {d a b k R : Nat} (h : d + k < R) (e : Nat.ble (a + b) k = true) : d + a + b < R := Nat.add_assoc d a b ▸ room1 h e
theorem room3 {d a b c k R : Nat} (h : d + k < R) (e : Nat.ble (a + (b + c)) k = true) : d + a + b + c < R := Nat.add_assoc (d + a) b c ▸ room2 h e
theorem halt_of {P : Prop} (h : Halt P) : P := h
theorem halt_it {M : Model} {prog : Program} {w : World} {A B : Around} {h₀ : Heap} {env : Env} {x : Str} {body : List Stmt} {l : Addr} {Q : Flow → Shared → Prop} {E E' : Value → Shared → Prop} {s : Shared}
    (h : Halt (wpAny M A (pyIter (.ref l)) (fun it s₂ => LoopAtV prog w B h₀ env x body Q E it s₂) E' s)) : wpAny M A (pyIter (.ref l)) (fun it s₂ => LoopAtV prog w B h₀ env x body Q E it s₂) E' s := h
theorem ex2 {α β : Type} {p : α → β → Prop} (a b) (h : p a b) : ∃ a b, p a b := ⟨a, b, h⟩
theorem ex3 {α β γ : Type} {p : α → β → γ → Prop} (a b c) (h : p a b c) : ∃ a b c, p a b c := ⟨a, b, c, h⟩
theorem ex4 {α β γ δ : Type} {p : α → β → γ → δ → Prop} (a b c d) (h : p a b c d) : ∃ a b c d, p a b c d := ⟨a, b, c, d, h⟩
theorem ex5 {α β γ δ ε : Type} {p : α → β → γ → δ → ε → Prop} (a b c d e) (h : p a b c d e) : ∃ a b c d e, p a b c d e := ⟨a, b, c, d, e, h⟩
theorem ex8 {α β γ δ ε ζ η θ : Type} {p : α → β → γ → δ → ε → ζ → η → θ → Prop} (a b c d e f g i) (h : p a b c d e f g i) : ∃ a b c d e f g i, p a b c d e f g i := ⟨a, b, c, d, e, f, g, i, h⟩
theorem el2 {α β : Type} {p : α → β → Prop} {G : Prop} (h : ∃ a b, p a b) (k : ∀ a b, p a b → G) : G := h.elim fun a h => h.elim (k a)
theorem el3 {α β γ : Type} {p : α → β → γ → Prop} {G : Prop} (h : ∃ a b c, p a b c) (k : ∀ a b c, p a b c → G) : G := h.elim fun a h => el2 h (k a)
theorem el4 {α β γ δ : Type} {p : α → β → γ → δ → Prop} {G : Prop} (h : ∃ a b c d, p a b c d) (k : ∀ a b c d, p a b c d → G) : G := h.elim fun a h => el3 h (k a)
theorem el5 {α β γ δ ε : Type} {p : α → β → γ → δ → ε → Prop} {G : Prop} (h : ∃ a b c d e, p a b c d e) (k : ∀ a b c d e, p a b c d e → G) : G := h.elim fun a h => el4 h (k a)
theorem el8 {α β γ δ ε ζ η θ : Type} {p : α → β → γ → δ → ε → ζ → η → θ → Prop} {G : Prop} (h : ∃ a b c d e f g i, p a b c d e f g i) (k : ∀ a b c d e f g i, p a b c d e f g i → G) : G := h.elim fun a h => h.elim fun b h => h.elim fun c h => el5 h (k a b c)
theorem an2 {a b G : Prop} (h : a ∧ b) (k : a → b → G) : G := k h.1 h.2
theorem an3 {a b c G : Prop} (h : a ∧ b ∧ c) (k : a → b → c → G) : G := k h.1 h.2.1 h.2.2
theorem an4 {a b c d G : Prop} (h : a ∧ b ∧ c ∧ d) (k : a → b → c → d → G) : G := k h.1 h.2.1 h.2.2.1 h.2.2.2
theorem an5 {a b c d e G : Prop} (h : a ∧ b ∧ c ∧ d ∧ e) (k : a → b → c → d → e → G) : G := k h.1 h.2.1 h.2.2.1 h.2.2.2.1 h.2.2.2.2
theorem an6 {a b c d e f G : Prop} (h : a ∧ b ∧ c ∧ d ∧ e ∧ f) (k : a → b → c → d → e → f → G) : G := k h.1 h.2.1 h.2.2.1 h.2.2.2.1 h.2.2.2.2.1 h.2.2.2.2.2
theorem an8 {a b c d e f g i G : Prop} (h : a ∧ b ∧ c ∧ d ∧ e ∧ f ∧ g ∧ i) (k : a → b → c → d → e → f → g → i → G) : G := k h.1 h.2.1 h.2.2.1 h.2.2.2.1 h.2.2.2.2.1 h.2.2.2.2.2.1 h.2.2.2.2.2.2.1 h.2.2.2.2.2.2.2
theorem hide {P : Prop} (k : ∀ G : Prop, (P → G) → G) : P := k P id
def StK (g : Array GenState) (d : Drawn) (o : OsState) : Prop := g = g ∧ d = d ∧ o = o
theorem StK.mk (g : Array GenState) (d : Drawn) (o : OsState) : StK g d o := ⟨rfl, rfl, rfl⟩
theorem exec_cons_gen {M : Model} {A : Around} {env : Env} {st : Stmt} {r : List Stmt} {Q : Flow → Shared → Prop} {E : Value → Shared → Prop} {s : Shared} {g : Array GenState} {d : Drawn} {o : OsState} {h₀ h : Heap} {L : Addr} {m : Str → Option Value} (_ : StK g d o) (_ : Fr h₀ L h m) (e : s = ⟨h, g, d, s.toks, o⟩)
    (k : ∀ tk', wpAny M A (exec st env) (fun f s' => match f with | .next => wpAny M A (execs r env) Q E s' | f => Q f s') E ⟨h, g, d, tk', o⟩) : wpAny M A (execs (st :: r) env) Q E s := by
  rw [e]
  exact wpAny_execs_cons (k _)
def TestPost (h₀ : Heap) (L : Addr) (m : Str → Option Value) (news : Led) (s : Shared) (good ok : Bool) (s' : Shared) : Prop := ok = good ∧ ∃ h' tk', s' = { s with heap := h', toks := tk' } ∧ Fr h₀ L h' m ∧ News h₀ L h' news
theorem TestPost.mk {h₀ h' : Heap} {L : Addr} {m : Str → Option Value} {news : Led} {s : Shared} {good ok : Bool} {tk' : Nat} (F : Fr h₀ L h' m) (N : News h₀ L h' news) (e : ok = good) : TestPost h₀ L m news s good ok { s with heap := h', toks := tk' } := ⟨e, h', tk', rfl, F, N⟩
theorem join_test {prog : Program} {w : World} {A : Around} {E : Value → Shared → Prop} {s : Shared} {h₀ h₁ : Heap} {L : Addr} {m : Str → Option Value} {news : Led} {t : Sem Bool} {Q : Bool → Shared → Prop} {good : Bool} (F₀ : Fr h₀ L h₁ m) (N₀ : News h₀ L h₁ news)
    (h : wpAny (model prog w) A t (TestPost h₀ L m news s good) E s) (k : ∀ h' tk', Fr h₀ L h' m → News h₀ L h' news → Q good { s with heap := h', toks := tk' }) : wpAny (model prog w) A t Q E s := by
  refine wpAny_mono h ?_ fun _ _ e => e
  rintro ok s' ⟨rfl, h', tk', rfl, F, N⟩
  exact k h' tk' F N
theorem src_range {prog : Program} {w : World} {A : Around} {h₀ : Heap} {L : Addr} {m : Str → Option Value} {env : Env} {elt : Expr} {x : Str} {scope : Scope} {cl : List (Str × Addr)} {Fin : Shared → List Value → List (Addr × Obj) → Prop} {r : Addr} {a b : Int} {t u v : Tok} {n : Nat} {news : List (Addr × Obj)} {s₁ : Shared}
    (hh : A.handled = none) (F : Fr h₀ L s₁.heap m) (N : News h₀ L s₁.heap news) (hr : IsRange s₁.heap r a b 1 t u v) (hsm : Builtin.Range.small a b 1 = true) (hn : Builtin.Range.rangeSize a b 1 = ((n : Nat) : Int)) (hsz : n ≤ sizeLine)
    (h : Halt (∀ g, LCg.CompRest prog w A h₀ L m env elt x scope cl { s₁ with heap := g } (fun _ => True) (fun i v => ∃ t, v = .int (a + (i : Int)) t) (Fin { s₁ with heap := g }) n 0 [] news)) :
    LCg.CompSrc prog w A h₀ L m env elt x scope cl Fin (.ref r) s₁ := LCg.CompSrc.range hh F N hr hsm hn hsz h
theorem src_list {prog : Program} {w : World} {A : Around} {h₀ : Heap} {L : Addr} {m : Str → Option Value} {env : Env} {elt : Expr} {x : Str} {scope : Scope} {cl : List (Str × Addr)} {Fin : Shared → List Value → List (Addr × Obj) → Prop} {ax : Addr} {its : Array Value} {k : Nat} {news : List (Addr × Obj)} {s₁ : Shared}
    (hh : A.handled = none) (F : Fr h₀ L s₁.heap m) (N : News h₀ L s₁.heap news) (hm : (ax, ({ cls := .type "list", data := .seq its k } : Obj)) ∈ news) (hsz : its.size ≤ sizeLine)
    (h : Halt (∀ g, LCg.CompRest prog w A h₀ L m env elt x scope cl { s₁ with heap := g } (LCg.SrcAt h₀ ax its) (fun i v => its[i]? = some v) (Fin { s₁ with heap := g }) its.size 0 [] news)) :
    LCg.CompSrc prog w A h₀ L m env elt x scope cl Fin (.ref ax) s₁ := LCg.CompSrc.ledger hh F N hm hsz h
theorem src_listT {prog : Program} {w : World} {A : Around} {h₀ : Heap} {L : Addr} {m : Str → Option Value} {env : Env} {ct elt : Expr} {x : Str} {scope : Scope} {cl : List (Str × Addr)} {Fin : Shared → List Value → List (Addr × Obj) → Prop} {ax : Addr} {its : Array Value} {k : Nat} {news : List (Addr × Obj)} {s₁ : Shared}
    (hh : A.handled = none) (F : Fr h₀ L s₁.heap m) (N : News h₀ L s₁.heap news) (hm : (ax, ({ cls := .type "list", data := .seq its k } : Obj)) ∈ news) (hsz : its.size ≤ sizeLine)
    (h : Halt (∀ g, LCt.CompRestT prog w A h₀ L m env ct elt x scope cl { s₁ with heap := g } (LCg.SrcAt h₀ ax its) (fun i v => its[i]? = some v) (Fin { s₁ with heap := g }) its.size 0 [] news)) :
    LCt.CompSrcT prog w A h₀ L m env ct elt x scope cl Fin (.ref ax) s₁ := LCt.CompSrcT.ledger hh F N hm hsz h
theorem src_rangeT {prog : Program} {w : World} {A : Around} {h₀ : Heap} {L : Addr} {m : Str → Option Value} {env : Env} {ct elt : Expr} {x : Str} {scope : Scope} {cl : List (Str × Addr)} {Fin : Shared → List Value → List (Addr × Obj) → Prop} {r : Addr} {a b : Int} {t u v : Tok} {n : Nat} {news : List (Addr × Obj)} {s₁ : Shared}
    (hh : A.handled = none) (F : Fr h₀ L s₁.heap m) (N : News h₀ L s₁.heap news) (hr : IsRange s₁.heap r a b 1 t u v) (hsm : Builtin.Range.small a b 1 = true) (hn : Builtin.Range.rangeSize a b 1 = ((n : Nat) : Int)) (hsz : n ≤ sizeLine)
    (h : Halt (∀ g, LCt.CompRestT prog w A h₀ L m env ct elt x scope cl { s₁ with heap := g } (fun _ => True) (fun i v => ∃ t, v = .int (a + (i : Int)) t) (Fin { s₁ with heap := g }) n 0 [] news)) :
    LCt.CompSrcT prog w A h₀ L m env ct elt x scope cl Fin (.ref r) s₁ := LCt.CompSrcT.range hh F N hr hsm hn hsz h
theorem sub_tupc {prog : Program} {w : World} {A : Around} {E : Value → Shared → Prop} {s : Shared} {h₀ : Heap} {L a : Addr} {m : Str → Option Value} {news : Led} {Q : Value → Shared → Prop} {value slice : Expr} {vs : List Value} {n : Nat} {k : Int} {u : Tok} {v : Value} (N : News h₀ L s.heap news) (hm : (a, ({ cls := .type "tuple", data := .seq vs.toArray n } : Obj)) ∈ news) (h0 : 0 ≤ k) (hk : k < vs.length) (hs8 : vs.length ≤ 8)
    (hx : vs[k.toNat]? = some v) (h : Q v s) (hs : subscripted slice false (.ref a) (.int k u) = operate [.ref a, .int k u] (getItem (.ref a) (.int k u)) := by with_unfolding_all rfl) :
    wpAny (model prog w) A (subscriptTail value slice (.ref a) (.int k u)) Q E s := by
  have T : IsTup s.heap a vs.toArray := ⟨_, N.get hm, rfl, n, rfl⟩
  have hq : seqIndex? k vs.toArray.size = some k.toNat := by
    have e : (if k < 0 then k + (vs.length : Int) else k) = k := if_neg (by omega)
    unfold seqIndex?
    rw [List.size_toArray]
    simp only [e]
    exact if_pos (by simp only [h0, hk, decide_true, Bool.and_self])
  exact tail_any T.typeIs slot_tuple_getitem.lookup (getItem_tuple T (by omega) (by omega) hq (by simpa using hx) h) hs
end
theorem fill_K : PySem.Challenge.rw_sq0056_01.writes = false ∨ K = K := by
  k_fill
  exact Or.inr rfl
-- lines of the walk, this file's own
local macro_rules | `(tactic| walk_at "subscriptTail Name Constant ref int") => `(tactic| (k_here; k_dflt (refine' sub_list ?N ?m ?a ?b ?x ?_; (case N => k_asm); (case m => k_mem); (case a => decide); (case b => decide); (case x => rfl); k_whole)))
local macro_rules | `(tactic| walk_at "binaryOp Pow int int") => `(tactic| (k_here; k_dflt (refine' pow_small ?a ?b ?c ?_; (case a => decide); (case b => decide); (case c => (first | omega | (simp only [fmod_of_pos] at *; omega))); k_whole)))
local macro_rules | `(tactic| k_all) => `(tactic| assumption)
local macro_rules | `(tactic| k_all) => `(tactic| (refine List.forall_mem_append.mpr ⟨?a, ?b⟩; (case a => k_all); (case b => k_all)))
local macro_rules | `(tactic| walk_at "my menu") => `(tactic| (k_here; (with_reducible show wpAny _ _ (subscriptTail _ _ (Value.ref _) (Value.int _ _)) _ _ _); k_dflt (refine' sub_menu ?N ?m ?i ?a ?b ?c ?d ?_; (case N => k_asm); (case m => k_mem); (case i => first | assumption | exact .cons _ _ (.cons _ _ (.cons _ _ (.cons _ _ .nil))) | exact .cons _ _ (.cons _ _ (.cons _ _ (.cons _ _ (.cons _ _ (.cons _ _ .nil)))))); (case a => omega); (case b => (dsimp only [List.length]; omega)); (case c => decide); (case d => decide); k_whole; intro i' t' hx' hl' hu')))
local macro_rules | `(tactic| walk_at "subscriptTail Call") => `(tactic| walk_at "my menu")
local macro_rules | `(tactic| walk_at "subscriptTail Tuple") => `(tactic| walk_at "my menu")
local macro_rules | `(tactic| walk_at "my tail") => `(tactic| ((iterate 15 (try (first | assumption | apply tlR))); done))
local macro_rules | `(tactic| walk_at "my off") => `(tactic| first | exact off1_lt (by tbn_find) | exact off1_lt (allLt_of (by assumption)) | exact Off1of (by assumption) | exact off1_lt1 (by tbn_find) | walk_at "my tail" | (refine off1_app ?oa ?ob; (case oa => walk_at "my off"); (case ob => walk_at "my off")))
local macro_rules | `(tactic| walk_at "my fact") => `(tactic| first | assumption | (apply tlL; walk_at "my tail") | (apply tlR; apply tlR; assumption) | (apply tlL; apply tlL; assumption) | (apply tlL; apply tlR; apply tlL; assumption) | (apply tlR; apply tlR; apply tlL; assumption))
local macro_rules | `(tactic| walk_at "my ne") => `(tactic| first | (walk_at "my fact") | (refine Ne.symm ?_; walk_at "my fact") | (refine Nat.ne_of_lt ?_; walk_at "my fact") | (refine Nat.ne_of_gt ?_; walk_at "my fact"))
local macro_rules | `(tactic| k_ne) => `(tactic| walk_at "my ne")
local macro_rules | `(tactic| walk_at "my ord") => `(tactic| first | exact lt_tl0 | ((try simp only [List.cons_append, List.nil_append, List.forall_mem_cons, List.forall_mem_nil, LCg.Off1, and_true]); (repeat' apply And.intro) <;> first | exact List.forall_mem_nil _ | assumption | walk_at "my off" | (walk_at "my ne") | (show (_ : Nat) ≠ _; omega)))
local macro_rules | `(tactic| walk_at "subscriptTail Name Constant ref int") => `(tactic| (k_here; k_dflt (refine' sub_tupc ?N ?m ?a ?b ?c ?x ?_; (case N => k_asm); (case m => first | (repeat (first | assumption | apply List.Mem.tail | apply List.mem_append_right)) | k_mem); (case a => decide); (case b => (simp only [List.length_cons, List.length_nil]; omega)); (case c => (simp only [List.length_cons, List.length_nil]; omega)); (case x => rfl); k_whole)))
local macro_rules | `(tactic| walk_at "execs cons") => `(tactic| (k_here; k_dflt (refine' exec_cons_gen ?c ?F ?e ?_; (case c => assumption); (case F => k_asm); (case e => exact rfl)); intro tk'; (try k_fold)))
local macro_rules | `(tactic| walk_at "my room") => `(tactic| (first | exact room1 (by assumption) (by rfl) | exact room2 (by assumption) (by rfl) | exact room3 (by assumption) (by rfl) | exact room0 (by assumption) | omega | ((try simp only [depth_under_make, depth_under_kw, depth_in1, depth_deeper, depth_caller, units_in1, units_deeper, units_under_make, Around.mark_units, units_caller] at *); (try dsimp only at *); omega)))
local macro_rules | `(tactic| k_qdec) => `(tactic| decide +kernel)
section
abbrev tupO (l : List Value) (n : Nat) : Obj := { cls := .type "tuple", data := .seq l.toArray n }
inductive Flat where
  | l (i : Nat)
  | g (seen : Bool) (w st so sh ho : Int)
  | b (w : Int)
  | r (w : Option Int)
  | k (w : Int)
  | e (w : Int)
  | p
  | m
def menuL : List Int := [120, 0, 401, -35]
def Flat.sort : Flat → Str
  | .l _ => "l"
  | .g s _ _ _ _ _ => if s then "d" else "g"
  | .b _ => "b"
  | .r _ => "r"
  | .k _ => "k"
  | .e _ => "e"
  | .p => "p"
  | .m => "m"
def Flat.w : Flat → Option Int
  | .l i => some (menuL.getD i 0)
  | .g _ w _ _ _ _ => some w
  | .b w => some w
  | .r w => w
  | .k w => some w
  | .e w => some w
  | .p => some 0
  | .m => some 0
def Flat.mv : Flat → Option (List Int)
  | .g _ w st so sh ho => some [w, st, so, sh, ho]
  | _ => none
def Flat.seen : Flat → Bool
  | .l _ => true
  | .g s _ _ _ _ _ => s
  | .b _ => true
  | .r _ => true
  | _ => false
def Flat.short : Flat → Bool
  | .l _ => true
  | .b _ => true
  | .r _ => true
  | .k _ => true
  | _ => false
def fits (w : Int) : Prop := -1073741823 ≤ w ∧ w ≤ 1073741823
def Flat.ok : Flat → Prop
  | .l i => i < 4
  | .g _ w st so sh ho => fits w ∧ fits st ∧ (0 ≤ so ∧ so < 4) ∧ fits sh ∧ (0 ≤ ho ∧ ho < 4)
  | .b w => fits w
  | .r w => ∀ i, w = some i → fits i
  | .k w => fits w
  | .e w => fits w
  | _ => True
inductive Part where
  | f (x : Flat)
  | c (xs : List Flat)
inductive All2 {α β : Type} (R : α → β → Prop) : List α → List β → Prop
  | nil : All2 R [] []
  | cons {a : α} {b : β} {l : List α} {r : List β} : R a b → All2 R l r → All2 R (a :: l) (b :: r)
def WidthV (v : Value) (w : Option Int) : Prop := match w with
  | none => v = .none
  | some i => ∃ t, v = .int i t
def GlueV (led : Led) (v : Value) (q : Option (List Int)) : Prop := match q with
  | none => v = .none
  | some ws => ∃ ta n vs, v = .ref ta ∧ (ta, tupO vs n) ∈ led ∧ IntsAre vs ws
def FlatIn (led : Led) (v : Value) (x : Flat) : Prop :=
  x.ok ∧ ∃ a la n k t0 wv dv, v = .ref a ∧ (a, tupO [.str x.sort t0, wv, dv, .bool x.seen, .ref la] n) ∈ led ∧ (la, listOf ([] : List Value).toArray k) ∈ led ∧ WidthV wv x.w ∧ GlueV led dv x.mv
def PartIn (led : Led) (v : Value) : Part → Prop
  | .f x => FlatIn led v x
  | .c xs => (∀ x ∈ xs, x.short = true) ∧ xs.length ≤ 2 ∧ ∃ a la n k t0 t1 vs, v = .ref a ∧ (a, tupO [.str "c" t0, .int 0 t1, .none, .bool false, .ref la] n) ∈ led ∧ (la, listOf vs.toArray k) ∈ led ∧ All2 (FlatIn led) vs xs
inductive Split (b : Addr) (o : Obj) (fr : Led) : Led → Led → Prop
  | here : Split b o fr ((b, o) :: fr) []
  | there {x : Addr × Obj} {l tl : Led} : Split b o fr l tl → Split b o fr (x :: l) (x :: tl)
theorem Split.eq {b : Addr} {o : Obj} {fr l tl : Led} (h : Split b o fr l tl) : l = tl ++ ([(b, o)] ++ fr) := by
  induction h with
  | here => rfl
  | there h ih => rw [ih]; rfl
theorem six_four {j : Nat} (hj : j < 4) : ([120, 0, 401, -35, 1073741823, -1073741823] : List Int).getD j 0 = menuL.getD j 0 := by
  have : j = 0 ∨ j = 1 ∨ j = 2 ∨ j = 3 := by omega
  rcases this with rfl | rfl | rfl | rfl <;> rfl
theorem menu_l {j : Nat} {i : Int} (hj : j < 4) (h : [120, 0, 401, -35, 1073741823, -1073741823][j]? = some i) : i = menuL.getD j 0 := by
  have : j = 0 ∨ j = 1 ∨ j = 2 ∨ j = 3 := by omega
  rcases this with rfl | rfl | rfl | rfl <;> cases h <;> rfl
theorem News.split {b : Addr} {o : Obj} {fr l tl : Led} {h₀ h : Heap} {L : Addr} (N : News h₀ L h l) (S : Split b o fr l tl) : News h₀ L h (tl ++ ([(b, o)] ++ fr)) := S.eq ▸ N
theorem six_mod (x : Int) : ([120, 0, 401, -35, 1073741823, -1073741823] : List Int).getD (x.fmod 4).toNat 0 = menuL.getD (x.fmod 4).toNat 0 := six_four (by have := fmod_nn (x := x) (m := 4) (by omega); have := fmod_lt (x := x) (m := 4) (by omega); omega)
theorem mod_four (x : Int) : (x.fmod 4).toNat < 4 := by have := fmod_nn (x := x) (m := 4) (by omega); have := fmod_lt (x := x) (m := 4) (by omega); omega
section
variable {led : Led} {a la : Addr} {n k : Nat} {t0 t1 : Tok}
theorem FlatIn.mk {x : Flat} {wv dv : Value} (ok : x.ok) (m1 : (a, tupO [.str x.sort t0, wv, dv, .bool x.seen, .ref la] n) ∈ led) (m2 : (la, listOf ([] : List Value).toArray k) ∈ led) (W : WidthV wv x.w) (G : GlueV led dv x.mv) : FlatIn led (.ref a) x :=
  ⟨ok, a, la, n, k, t0, wv, dv, rfl, m1, m2, W, G⟩
theorem FlatIn.mkL {x : Int} (m1 : (a, tupO [.str "l" t0, .int (([120, 0, 401, -35, 1073741823, -1073741823] : List Int).getD (x.fmod 4).toNat 0) t1, .none, .bool true, .ref la] n) ∈ led) (m2 : (la, listOf ([] : List Value).toArray k) ∈ led) : FlatIn led (.ref a) (.l (x.fmod 4).toNat) :=
  .mk (x := .l _) (mod_four x) m1 m2 ⟨_, congrArg (fun i => Value.int i _) (six_mod x)⟩ rfl
theorem FlatIn.mkG {b s : Bool} {w st so sh ho : Int} {t2 t3 t4 t5 t6 : Tok} {ta : Addr} {nt : Nat} (m1 : (a, tupO [.str (if s then "d" else "g") t0, .int w t1, .ref ta, .bool b, .ref la] n) ∈ led) (m2 : (la, listOf ([] : List Value).toArray k) ∈ led) (m3 : (ta, tupO [.int w t2, .int st t3, .int so t4, .int sh t5, .int ho t6] nt) ∈ led) (h : fits w ∧ fits st ∧ (0 ≤ so ∧ so < 4) ∧ fits sh ∧ (0 ≤ ho ∧ ho < 4)) (e : b = s) : FlatIn led (.ref a) (.g s w st so sh ho) := by
  subst e
  exact .mk (x := .g _ _ _ _ _ _) h m1 m2 ⟨_, rfl⟩ ⟨_, _, _, rfl, m3, .cons _ _ (.cons _ _ (.cons _ _ (.cons _ _ (.cons _ _ .nil))))⟩
theorem FlatIn.mkB {w : Int} (m1 : (a, tupO [.str "b" t0, .int w t1, .none, .bool true, .ref la] n) ∈ led) (m2 : (la, listOf ([] : List Value).toArray k) ∈ led) (h : fits w) : FlatIn led (.ref a) (.b w) := .mk (x := .b _) h m1 m2 ⟨_, rfl⟩ rfl
theorem FlatIn.mkR {w : Int} (m1 : (a, tupO [.str "r" t0, .int w t1, .none, .bool true, .ref la] n) ∈ led) (m2 : (la, listOf ([] : List Value).toArray k) ∈ led) (h : fits w) : FlatIn led (.ref a) (.r (some w)) := .mk (x := .r _) (fun i hi => by cases hi; exact h) m1 m2 ⟨_, rfl⟩ rfl
theorem FlatIn.mkR0 (m1 : (a, tupO [.str "r" t0, .none, .none, .bool true, .ref la] n) ∈ led) (m2 : (la, listOf ([] : List Value).toArray k) ∈ led) : FlatIn led (.ref a) (.r none) := .mk (x := .r _) (fun i hi => by cases hi) m1 m2 rfl rfl
theorem FlatIn.mkK {w : Int} (m1 : (a, tupO [.str "k" t0, .int w t1, .none, .bool false, .ref la] n) ∈ led) (m2 : (la, listOf ([] : List Value).toArray k) ∈ led) (h : fits w) : FlatIn led (.ref a) (.k w) := .mk (x := .k _) h m1 m2 ⟨_, rfl⟩ rfl
theorem FlatIn.mkE {w : Int} (m1 : (a, tupO [.str "e" t0, .int w t1, .none, .bool false, .ref la] n) ∈ led) (m2 : (la, listOf ([] : List Value).toArray k) ∈ led) (h : fits w) : FlatIn led (.ref a) (.e w) := .mk (x := .e _) h m1 m2 ⟨_, rfl⟩ rfl
theorem FlatIn.mkP (m1 : (a, tupO [.str "p" t0, .int 0 t1, .none, .bool false, .ref la] n) ∈ led) (m2 : (la, listOf ([] : List Value).toArray k) ∈ led) : FlatIn led (.ref a) .p := .mk (x := .p) trivial m1 m2 ⟨_, rfl⟩ rfl
theorem FlatIn.mkM (m1 : (a, tupO [.str "m" t0, .int 0 t1, .none, .bool false, .ref la] n) ∈ led) (m2 : (la, listOf ([] : List Value).toArray k) ∈ led) : FlatIn led (.ref a) .m := .mk (x := .m) trivial m1 m2 ⟨_, rfl⟩ rfl
end
theorem All2.mono {α β : Type} {R S : α → β → Prop} (k : ∀ a b, R a b → S a b) {l : List α} {r : List β} (h : All2 R l r) : All2 S l r := by
  induction h with
  | nil => exact .nil
  | cons a _ ih => exact .cons (k _ _ a) ih
theorem All2.snoc {α β : Type} {R : α → β → Prop} {l : List α} {r : List β} {a : α} {b : β} (h : All2 R l r) (k : R a b) : All2 R (l ++ [a]) (r ++ [b]) := by
  induction h with
  | nil => exact .cons k .nil
  | cons a _ ih => exact .cons a ih
theorem All2.length {α β : Type} {R : α → β → Prop} {l : List α} {r : List β} (h : All2 R l r) : l.length = r.length := by
  induction h with
  | nil => rfl
  | cons _ _ ih => simp [ih]
theorem All2.get {α β : Type} {R : α → β → Prop} {l : List α} {r : List β} (h : All2 R l r) : ∀ {i : Nat} {a : α}, l[i]? = some a → ∃ b, r[i]? = some b ∧ R a b := by
  induction h with
  | nil => intro i a e; cases e
  | cons k _ ih =>
    intro i a e
    cases i with
    | zero => cases e; exact ⟨_, rfl, k⟩
    | succ i => exact ih e
theorem FlatIn.mono {l l' : Led} (s : ∀ p ∈ l, p ∈ l') {v : Value} {x : Flat} (h : FlatIn l v x) : FlatIn l' v x := by
  obtain ⟨ok, a, la, n, k, t0, wv, dv, e, m1, m2, W, G⟩ := h
  refine ⟨ok, a, la, n, k, t0, wv, dv, e, s _ m1, s _ m2, W, ?_⟩
  revert G
  unfold GlueV
  cases x.mv with
  | none => exact id
  | some ws => exact fun ⟨ta, n, vs, e, m, i⟩ => ⟨ta, n, vs, e, s _ m, i⟩
theorem PartIn.mono {l l' : Led} (s : ∀ p ∈ l, p ∈ l') {v : Value} {x : Part} (h : PartIn l v x) : PartIn l' v x := by
  cases x with
  | f x => exact FlatIn.mono s h
  | c xs =>
    obtain ⟨sh, sz, a, la, n, k, t0, t1, vs, e, m1, m2, W⟩ := h
    exact ⟨sh, sz, a, la, n, k, t0, t1, vs, e, s _ m1, s _ m2, W.mono fun _ _ => FlatIn.mono s⟩
end
section
set_option maxHeartbeats 8000000 in
theorem draw_calls (w : World) (bag : Addr) (b0 b1 b2 : Int) (t0 t1 t2 : Tok) (ep : Nat) (many : Int) (tm : Tok) (h0 : 0 ≤ b0) (h1 : 0 ≤ b1) (h1' : b1 < 2147483647) (h2 : 0 ≤ b2) (h2' : b2 < 1000000) (hm : 0 < many) (hm' : many ≤ 1000) (fr : Led) (off : ∀ q ∈ fr, q.1 ≠ bag) :
    CallsTo w 733 [.ref bag, .int many tm] [(bag, bagO b0 b1 b2 t0 t1 t2 ep)] fr 1 16
      (fun r mu' tl => ∃ o', mu' = [(bag, o')] ∧ ∃ d td c0 c2 u0 u1 u2 ep', r = .int d td ∧ tl = [] ∧ o' = bagO c0 b1 c2 u0 u1 u2 ep' ∧ 0 ≤ d ∧ d < many ∧ 0 ≤ c0 ∧ 0 ≤ c2 ∧ c2 ≤ b2 + 1) := by
  intro prog p loose mean mg mb A env outer A₀ base h₀ L m s Q E B F X N T hh hA hf hk hd hu ret; obtain ⟨hd0, dp, frm, gd, un⟩ := A; dsimp only at hh hA hd hu; subst hh hA; have hSt := StK.mk s.gens s.drawn s.os; (try simp only [List.cons_append, List.nil_append] at N); refine wpAny_call ?_
  k_dflt (refine' code_def ?k1 ?k2 ?k3 ?k4 ?k5 ?kA ?kF ?kK ?k6 ?k7 ?k8 ?k9 ?kB ?_ ?c2 ?c3 ?c4 ?c5; (case kA => exact rfl); (case kF => first | assumption | exact rfl); (case kK => first | assumption | exact rfl); (case k1 => k_asm); (case k2 => k_asm); (case k3 => k_asm); (case k4 => k_asm); (case k5 => k_asm); (case k6 => k_is); (case k7 => k_is); (case k8 => (walk_at "my room")); (case k9 => first | exact BindsTo.of_eq rfl | exact binds_K (by k_in) rfl (by k_is) rfl rfl rfl); (case c5 => decide); (case kB => exact locs rfl); (case c2 => exact rfl); (case c3 => exact rfl); (case c4 => exact rfl); k_whole; intro g' L' h' FG' F' N' B' X' T'; (try dsimp only at N'); (try dsimp only); (try k_fold))
  k_steps
  all_goals (refine' ret _ _ _ [(bag, _)] [] ?e1 ?e2 lt_tl0 ⟨_, rfl, ex8 _ _ _ _ _ _ _ _ ⟨rfl, rfl, rfl, ?_, ?_, ?_, ?_, ?_⟩⟩; (case e1 => k_asm); (case e2 => k_asm))
  all_goals first | omega | exact fmod_nn hm | exact fmod_lt hm | exact fdiv_nn (by omega) hm
section
variable {prog p : Program} {w : World} {loose : List Str} {mean : ExcName → Option Value} {mg mb : Str → Option Value} {A : Around} {env : Env} {outer : List Env} {A₀ : Around} {base h₀ : Heap} {L : Addr} {m : Str → Option Value} {s : Shared} {Q E : Value → Shared → Prop} {news : Led}
theorem draw_use {hp : Heap} {gs : Array GenState} {dr : Drawn} {tk0 : Nat} {os : OsState} {bag : Addr} {b0 b1 b2 many : Int} {t0 t1 t2 tm : Tok} {ep : Nat} {g : Obj → Led} (U : UpdF bag (bagO b0 b1 b2 t0 t1 t2 ep) news g)
    (B : Below A₀ base outer h₀) (F : Fr h₀ L hp m) (X : (K w.params).In h₀) (N : News h₀ L hp news) (T : Top p loose mean mg mb h₀) (hh : A.handled = none) (hA : A.frames = some (env :: outer)) (hf : env.frame = some L) (hk : env.scope.kind = .function)
    (hd : A.depth + 1 < recursionLimit) (hu : A.units + 16 < cLine) (h0 : 0 ≤ b0) (h1 : 0 ≤ b1) (h1' : b1 < 2147483647) (h2 : 0 ≤ b2) (h2' : b2 < 1000000) (hm : 0 < many) (hm' : many ≤ 1000)
    (ret : ∀ d td c0 c2 u0 u1 u2 ep' h' tk', Fr h₀ L h' m → News h₀ L h' (g (bagO c0 b1 c2 u0 u1 u2 ep')) → 0 ≤ d → d < many → 0 ≤ c0 → 0 ≤ c2 → c2 ≤ b2 + 1 → Q (.int d td) ⟨h', gs, dr, tk', os⟩) :
    wpAny (model prog w) A (call (.ref 733) [.ref bag, .int many tm]) Q E ⟨hp, gs, dr, tk0, os⟩ := by
  refine CallsTo.use1 U (draw_calls w bag b0 b1 b2 t0 t1 t2 ep many tm h0 h1 h1' h2 h2' hm hm') B F X N T hh hA hf hk hd hu ?_
  rintro r h' tk' o' tl F' N' lt ⟨d, td, c0, c2, u0, u1, u2, ep', rfl, rfl, rfl, q1, q2, q3, q4, q5⟩
  exact ret d td c0 c2 u0 u1 u2 ep' h' tk' F' N' q1 q2 q3 q4 q5
def Bud (n : Nat) (lim b0 b1 b2 : Int) : Prop := 0 ≤ b0 ∧ 0 ≤ b1 ∧ b1 < 2147483647 ∧ 0 ≤ b2 ∧ b2 + (n : Int) ≤ lim ∧ lim < 1000000
theorem Bud.a {n : Nat} {lim b0 b1 b2 : Int} (h : Bud n lim b0 b1 b2) : 0 ≤ b0 := h.1
theorem Bud.c {n : Nat} {lim b0 b1 b2 : Int} (h : Bud n lim b0 b1 b2) : 0 ≤ b2 := h.2.2.2.1
theorem Bud.sum {n : Nat} {lim b0 b1 b2 : Int} (h : Bud n lim b0 b1 b2) : b2 + (n : Int) ≤ lim := h.2.2.2.2.1
theorem Bud.y7 {n : Nat} {b b0 b1 b2 : Int} (h : Bud n (b + 7) b0 b1 b2) : b2 ≤ b + 7 := by have := h.sum; omega
theorem Bud.y30 {n : Nat} {b b0 b1 b2 : Int} (h : Bud n (b + 7) b0 b1 b2) : b2 ≤ b + 30 := by have := h.sum; omega
theorem draw_bud {hp : Heap} {gs : Array GenState} {dr : Drawn} {tk0 : Nat} {os : OsState} {bag : Addr} {b0 b1 b2 many lim : Int} {n : Nat} {t0 t1 t2 tm : Tok} {ep : Nat} {g : Obj → Led} (U : UpdF bag (bagO b0 b1 b2 t0 t1 t2 ep) news g) (hb : Bud (n + 1) lim b0 b1 b2)
    (B : Below A₀ base outer h₀) (F : Fr h₀ L hp m) (X : (K w.params).In h₀) (N : News h₀ L hp news) (T : Top p loose mean mg mb h₀) (hh : A.handled = none) (hA : A.frames = some (env :: outer)) (hf : env.frame = some L) (hk : env.scope.kind = .function)
    (hd : A.depth + 1 < recursionLimit) (hu : A.units + 16 < cLine) (hm : 0 < many) (hm' : many ≤ 1000)
    (ret : ∀ d td c0 c2 u0 u1 u2 ep' h' tk', Fr h₀ L h' m → News h₀ L h' (g (bagO c0 b1 c2 u0 u1 u2 ep')) → 0 ≤ d → d < many → Bud n lim c0 b1 c2 → Q (.int d td) ⟨h', gs, dr, tk', os⟩) :
    wpAny (model prog w) A (call (.ref 733) [.ref bag, .int many tm]) Q E ⟨hp, gs, dr, tk0, os⟩ := by
  obtain ⟨h0, h1, h1', h2, h3, h4⟩ := hb
  refine draw_use U B F X N T hh hA hf hk hd hu h0 h1 h1' h2 (by omega) hm hm' ?_
  intro d td c0 c2 u0 u1 u2 ep' h' tk' F' N' q1 q2 q3 q4 q5
  exact ret d td c0 c2 u0 u1 u2 ep' h' tk' F' N' q1 q2 ⟨q3, h1, h1', q4, by omega, h4⟩
end
theorem with_room {M : Model} {A : Around} {α : Type} {t : Sem α} {Q : α → Shared → Prop} {E : Value → Shared → Prop} {s : Shared} (d u : Nat) (hd : A.depth + d < recursionLimit) (hu : A.units + u < cLine) (k : A.depth + d < recursionLimit → A.units + u < cLine → wpAny M A t Q E s) : wpAny M A t Q E s := k hd hu
end
section
section
variable {prog : Program} {w : World} {A : Around} {h₀ : Heap} {L : Addr} {m : Str → Option Value} {env : Env} {ct elt : Expr} {x : Str} {scope : Scope} {cl : List (Str × Addr)} {s : Shared} {S : Led → Prop} {P : Nat → Value → Prop} {Fin : List Value → Led → Prop}
theorem comp_inv {n : Nat} (Inv : Nat → List Value → Led → Prop)
    (turn : ∀ i v ys news I oI C oC D m₂ h tk (E' : Value → Shared → Prop), i < n → Inv i ys news → P i v → LCg.NsObj oC m₂ → m₂ x = some v → Fr h₀ L h m → News h₀ L h ((I, oI) :: (C, oC) :: (D, LCg.lst ys) :: news) → LCg.Off3 I C D news → ((@Ne Nat I C) ∧ (@Ne Nat I D) ∧ (@Ne Nat C D)) →
      wpAny (model prog w) A (eval elt (compEnvC scope cl C env)) (LCg.CompEnd h₀ L m { s with heap := h, toks := tk } I oI C oC D (LCg.lst ys) S (fun y news' => Inv (i + 1) (ys ++ [y]) news')) E' { s with heap := h, toks := tk })
    (fin : ∀ ys news, Inv n ys news → Fin ys news) {news : Led} (start : Inv 0 [] news) : LCg.CompRest prog w A h₀ L m env elt x scope cl s S P Fin n 0 [] news := by
  have key : ∀ (j i : Nat) (ys : List Value) (news : Led), i + j = n → Inv i ys news → LCg.CompRest prog w A h₀ L m env elt x scope cl s S P Fin j i ys news := by
    intro j
    induction j with
    | zero =>
      intro i ys news hi hy
      have e : i = n := by omega
      subst e
      exact LCg.CompRest.zero (fin ys news hy)
    | succ j ih =>
      intro i ys news hi hy
      refine LCg.CompRest.succ ?_
      intro v I oI C oC D m₂ h tk E' hv hC hx F N off ne
      refine wpAny_mono (turn i v ys news I oI C oC D m₂ h tk E' (by omega) hy hv hC hx F N off ne) (fun y s₂ hq => ?_) fun _ _ e => e
      refine hide fun Gh back => ?_
      obtain ⟨h', tk', nw, e, F', N', off', hS, hn⟩ := hq
      refine back ?_
      clear back Gh
      exact ⟨h', tk', nw, e, F', N', off', hS, ih (i + 1) _ nw (by omega) hn⟩
  exact key n 0 [] news (by omega) start
theorem comp_invT {n : Nat} (Inv : Nat → List Value → Led → Prop)
    (turn : ∀ i v ys news I oI C oC D m₂ h tk (E' : Value → Shared → Prop), i < n → Inv i ys news → P i v → LCg.NsObj oC m₂ → m₂ x = some v → Fr h₀ L h m → News h₀ L h ((I, oI) :: (C, oC) :: (D, LCg.lst ys) :: news) → LCg.Off3 I C D news → ((@Ne Nat I C) ∧ (@Ne Nat I D) ∧ (@Ne Nat C D)) →
      wpAny (model prog w) A (isTrue ct (compEnvC scope cl C env) (eval ct (compEnvC scope cl C env))) (fun ok s' => if ok = true then
        wpAny (model prog w) A (eval elt (compEnvC scope cl C env)) (LCg.CompEnd h₀ L m { s with heap := h, toks := tk } I oI C oC D (LCg.lst ys) S (fun y news' => Inv (i + 1) (ys ++ [y]) news')) E' s'
        else LCg.CompEnd h₀ L m { s with heap := h, toks := tk } I oI C oC D (LCg.lst ys) S (fun _ news' => Inv (i + 1) ys news') Value.none s') E' { s with heap := h, toks := tk })
    (fin : ∀ ys news, Inv n ys news → Fin ys news) {news : Led} (start : Inv 0 [] news) : LCt.CompRestT prog w A h₀ L m env ct elt x scope cl s S P Fin n 0 [] news := by
  have key : ∀ (j i : Nat) (ys : List Value) (news : Led), i + j = n → Inv i ys news → LCt.CompRestT prog w A h₀ L m env ct elt x scope cl s S P Fin j i ys news := by
    intro j
    induction j with
    | zero =>
      intro i ys news hi hy
      have e : i = n := by omega
      subst e
      exact LCt.CompRestT.zero (fin ys news hy)
    | succ j ih =>
      intro i ys news hi hy
      refine LCt.CompRestT.succ ?_
      intro v I oI C oC D m₂ h tk E' hv hC hx F N off ne
      refine wpAny_mono (turn i v ys news I oI C oC D m₂ h tk E' (by omega) hy hv hC hx F N off ne) (fun ok s₂ hq => ?_) fun _ _ e => e
      have go : ∀ (f : Value → List Value) {y : Value} {s₂ : Shared}, LCg.CompEnd h₀ L m { s with heap := h, toks := tk } I oI C oC D (LCg.lst ys) S (fun y news' => Inv (i + 1) (f y) news') y s₂ →
          LCg.CompEnd h₀ L m { s with heap := h, toks := tk } I oI C oC D (LCg.lst ys) S (fun y news' => LCt.CompRestT prog w A h₀ L m env ct elt x scope cl s S P Fin j (i + 1) (f y) news') y s₂ := by
        rintro f y s₂ ⟨h', tk', nw, e, F', N', off', hS, hn⟩
        exact ⟨h', tk', nw, e, F', N', off', hS, ih (i + 1) _ nw (by omega) hn⟩
      by_cases ho : ok = true
      · rw [if_pos ho] at hq ⊢
        exact wpAny_mono hq (fun y s₂ hq => go (fun y => ys ++ [y]) hq) fun _ _ e => e
      · rw [if_neg ho] at hq ⊢
        exact go (fun _ => ys) hq
  exact key n 0 [] news (by omega) start
end
theorem off3_app {I C D : Addr} : ∀ {l r : Led}, LCg.Off3 I C D l → LCg.Off3 I C D r → LCg.Off3 I C D (l ++ r)
  | [], _, _, h => h
  | _ :: _, _, h, k => ⟨h.1, off3_app h.2 k⟩
theorem off3_above {I C D : Addr} {oI oC oD : Obj} {l r : Led} (h : ∀ q ∈ l, LCg.Off1 q.1 ((I, oI) :: (C, oC) :: (D, oD) :: r)) : LCg.Off3 I C D l :=
  LCg.Off3.of fun q hq => have k := Off1mem (h q hq); ⟨Ne.symm (k _ (.head _)), Ne.symm (k _ (.tail _ (.head _))), Ne.symm (k _ (.tail _ (.tail _ (.head _))))⟩
def BagInv {α : Type} (R : Led → Value → α → Prop) (bag : Addr) (b1 M : Int) (base : Led) (ys : List Value) (news : Led) : Prop :=
  ∃ c0 c2 u0 u1 u2 ep tl xs, news = (bag, bagO c0 b1 c2 u0 u1 u2 ep) :: (tl ++ base) ∧ 0 ≤ c0 ∧ 0 ≤ c2 ∧ c2 ≤ M ∧ (∀ q ∈ tl, q.1 ≠ bag ∧ LCg.Off1 q.1 base) ∧ All2 (R tl) ys xs
theorem BagInv.off {bag : Addr} {tl base : Led} (h : ∀ q ∈ tl, q.1 ≠ bag ∧ LCg.Off1 q.1 base) (k : ∀ q ∈ base, q.1 ≠ bag) : ∀ q ∈ tl ++ base, q.1 ≠ bag := fun q hq =>
  (List.mem_append.mp hq).elim (fun hq => (h q hq).1) (k q)
theorem BagInv.end {α : Type} {R : Led → Value → α → Prop} (mono : ∀ {l l' : Led}, (∀ p ∈ l, p ∈ l') → ∀ {v x}, R l v x → R l' v x) {bag : Addr} {b1 M' : Int} {base tl tl' : Led} {ys : List Value} {xs : List α} {h₀ h' : Heap} {L I C D : Addr} {oI oC oD o : Obj} {m : Str → Option Value} {s : Shared} {tk' : Nat} {r : Value} {x : α}
    {c0 c2 : Int} {u0 u1 u2 : Tok} {ep : Nat}
    (F : Fr h₀ L h' m) (N : News h₀ L h' (tl' ++ ((I, oI) :: (C, oC) :: (D, oD) :: (bag, bagO c0 b1 c2 u0 u1 u2 ep) :: (tl ++ base))))
    (lt' : ∀ q ∈ tl', LCg.Off1 q.1 ((I, oI) :: (C, oC) :: (D, oD) :: (bag, o) :: (tl ++ base))) (off : LCg.Off3 I C D ((bag, o) :: (tl ++ base)))
    (lt : ∀ q ∈ tl, q.1 ≠ bag ∧ LCg.Off1 q.1 base) (hx : All2 (R tl) ys xs) (h0 : 0 ≤ c0) (h2 : 0 ≤ c2) (hM : c2 ≤ M') (hr : R tl' r x) :
    LCg.CompEnd h₀ L m s I oI C oC D oD (fun _ => True) (fun y news' => BagInv R bag b1 M' base (ys ++ [y]) news') r { s with heap := h', toks := tk' } := by
  refine LCg.CompEnd.intro F N ((bag, bagO c0 b1 c2 u0 u1 u2 ep) :: ((tl' ++ tl) ++ base)) ?_ ?_ trivial ⟨c0, c2, u0, u1, u2, ep, tl' ++ tl, xs ++ [x], rfl, h0, h2, hM, ?_, ?_⟩
  · intro p hp
    simp only [List.mem_cons, List.mem_append] at hp ⊢
    rcases hp with h | h | h | h | (h | h) | h <;> simp [h]
  · refine ⟨off.1, ?_⟩
    rw [List.append_assoc]
    exact off3_app (off3_above lt') off.2
  · intro q hq
    rcases List.mem_append.mp hq with hq | hq
    · have k := Off1mem (lt' q hq)
      exact ⟨Ne.symm (k (bag, o) (by simp)), Off1of fun p hp => k p (by simp [hp])⟩
    · exact lt q hq
  · exact (hx.mono fun _ _ => mono fun p hp => List.mem_append_right _ hp).snoc (mono (fun p hp => List.mem_append_left _ hp) hr)
inductive Take (b : Addr) (o : Obj) : Led → Led → Prop
  | here {l : Led} : Take b o ((b, o) :: l) l
  | there {x : Addr × Obj} {l r : Led} : Take b o l r → Take b o (x :: l) (x :: r)
theorem News.take {b : Addr} {o : Obj} {l r : Led} {h₀ h : Heap} {L : Addr} (N : News h₀ L h l) (T : Take b o l r) : News h₀ L h ((b, o) :: r) := by
  have key : ∀ p ∈ (b, o) :: r, p ∈ l := by
    clear N
    induction T with
    | here => exact fun _ h => h
    | there _ ih =>
      intro p hp
      simp only [List.mem_cons] at hp ih ⊢
      rcases hp with h | h | h
      · exact Or.inr (ih p (Or.inl h))
      · exact Or.inl h
      · exact Or.inr (ih p (Or.inr h))
  exact news_sub N key
def BagTurn {α : Type} (R : Led → Value → α → Prop) (h₀ : Heap) (L : Addr) (m : Str → Option Value) (s : Shared) (I : Addr) (oI : Obj) (C : Addr) (oC : Obj) (D : Addr) (oD : Obj) (bag : Addr) (o : Obj) (b1 M : Int) (fr : Led) (r : Value) (s' : Shared) : Prop :=
  ∃ h' tk' e0 e2 w0 w1 w2 ep2 tl' y, s' = { s with heap := h', toks := tk' } ∧ Fr h₀ L h' m ∧ News h₀ L h' (tl' ++ ((I, oI) :: (C, oC) :: (D, oD) :: (bag, bagO e0 b1 e2 w0 w1 w2 ep2) :: fr)) ∧
        (∀ q ∈ tl', LCg.Off1 q.1 ((I, oI) :: (C, oC) :: (D, oD) :: (bag, o) :: fr)) ∧ 0 ≤ e0 ∧ 0 ≤ e2 ∧ e2 ≤ M ∧ R tl' r y
theorem BagTurn.mk {α : Type} {R : Led → Value → α → Prop} {h₀ : Heap} {L : Addr} {m : Str → Option Value} {s : Shared} {I : Addr} {oI : Obj} {C : Addr} {oC : Obj} {D : Addr} {oD : Obj} {bag : Addr} {o : Obj} {b1 M : Int} {fr : Led} {r : Value} {h' : Heap} {tk' : Nat} {e0 e2 : Int} {w0 w1 w2 : Tok} {ep2 : Nat} {tl' : Led} {y : α}
    (F : Fr h₀ L h' m) (N : News h₀ L h' (tl' ++ ((I, oI) :: (C, oC) :: (D, oD) :: (bag, bagO e0 b1 e2 w0 w1 w2 ep2) :: fr))) (lt : ∀ q ∈ tl', LCg.Off1 q.1 ((I, oI) :: (C, oC) :: (D, oD) :: (bag, o) :: fr)) (r0 : R tl' r y) (h0 : 0 ≤ e0) (h2 : 0 ≤ e2) (hM : e2 ≤ M) :
    BagTurn R h₀ L m s I oI C oC D oD bag o b1 M fr r { s with heap := h', toks := tk' } := ⟨h', tk', e0, e2, w0, w1, w2, ep2, tl', y, rfl, F, N, lt, h0, h2, hM, r0⟩
theorem comp_bag {α : Type} {R : Led → Value → α → Prop} (mono : ∀ {l l' : Led}, (∀ p ∈ l, p ∈ l') → ∀ {v x}, R l v x → R l' v x)
    {prog : Program} {w : World} {A : Around} {h₀ : Heap} {L : Addr} {m : Str → Option Value} {env : Env} {elt : Expr} {x : Str} {scope : Scope} {cl : List (Str × Addr)} {s : Shared} {P : Nat → Value → Prop} {Fin : List Value → Led → Prop}
    {bag : Addr} {b1 c0 c2 : Int} {u0 u1 u2 : Tok} {ep : Nat} {base : Led} {n : Nat} (K M : Int) (hK : 0 ≤ K) (h0 : 0 ≤ c0) (h2 : 0 ≤ c2) (hM : c2 + K * n ≤ M) (offb : ∀ q ∈ base, q.1 ≠ bag)
    (turn : ∀ i v ys I oI C oC D m₂ h tk (E' : Value → Shared → Prop) d0 d2 v0 v1 v2 ep' (fr : Led), i < n → 0 ≤ d0 → 0 ≤ d2 → d2 + K ≤ M → (∀ q ∈ fr, q.1 ≠ bag) → (∀ p ∈ base, p ∈ fr) → P i v → LCg.NsObj oC m₂ → m₂ x = some v → Fr h₀ L h m →
      News h₀ L h ((I, oI) :: (C, oC) :: (D, LCg.lst ys) :: (bag, bagO d0 b1 d2 v0 v1 v2 ep') :: fr) → LCg.Off3 I C D ((bag, bagO d0 b1 d2 v0 v1 v2 ep') :: fr) → ((@Ne Nat I C) ∧ (@Ne Nat I D) ∧ (@Ne Nat C D)) →
      wpAny (model prog w) A (eval elt (compEnvC scope cl C env)) (BagTurn R h₀ L m { s with heap := h, toks := tk } I oI C oC D (LCg.lst ys) bag (bagO d0 b1 d2 v0 v1 v2 ep') b1 (d2 + K) fr) E' { s with heap := h, toks := tk })
    (fin : ∀ ys xs tl fr' d0 d2 v0 v1 v2 ep', fr' = tl ++ base → xs.length = n → All2 (R tl) ys xs → (∀ q ∈ tl, q.1 ≠ bag ∧ LCg.Off1 q.1 base) → 0 ≤ d0 → 0 ≤ d2 → d2 ≤ M → Fin ys ((bag, bagO d0 b1 d2 v0 v1 v2 ep') :: fr')) :
    LCg.CompRest prog w A h₀ L m env elt x scope cl s (fun _ => True) P Fin n 0 [] ((bag, bagO c0 b1 c2 u0 u1 u2 ep) :: base) := by
  refine comp_inv (fun i ys news => ys.length = i ∧ BagInv R bag b1 (M - K * (n - i)) base ys news) ?_ ?_ ⟨rfl, c0, c2, u0, u1, u2, ep, [], [], rfl, h0, h2, by simp; omega, (fun _ h => nomatch h), .nil⟩
  · intro i v ys news I oI C oC D m₂ h tk E' hi hri0 hv hC hx' F N off ne
    refine hide fun Gh back => ?_
    obtain ⟨hl, d0, d2, v0, v1, v2, ep', tl, xs, rfl, g0, g2, gM, lt, hx⟩ := hri0
    refine back ?_
    clear back Gh
    have hb : K * ((n : Int) - (i : Nat)) = K * ((n : Int) - ((i + 1 : Nat) : Int)) + K := by
      have e : (n : Int) - (i : Nat) = ((n : Int) - ((i + 1 : Nat) : Int)) + 1 := by omega
      rw [e, Int.mul_add, Int.mul_one]
    have hpos : 0 ≤ K * (n - (i + 1 : Nat)) := Int.mul_nonneg hK (by omega)
    refine wpAny_mono (turn i v ys I oI C oC D m₂ h tk E' d0 d2 v0 v1 v2 ep' (tl ++ base) hi g0 g2 (by omega) (BagInv.off lt offb) (fun p hp => List.mem_append_right _ hp) hv hC hx' F N off ne) ?_ fun _ _ e => e
    intro r s' hri0
    refine hide fun Gh back => ?_
    obtain ⟨h', tk', e0, e2, w0, w1, w2, ep2, tl', y, rfl, F', N', lt', k0, k2, kM, hr⟩ := hri0
    refine back ?_
    clear back Gh
    refine hide fun Gh back => ?_
    obtain ⟨h9, tk9, news9, e9, F9, N9, o9, S9, r9⟩ := BagInv.end (M' := M - K * (n - (i + 1 : Nat))) (s := { s with heap := h, toks := tk }) (tk' := tk') mono F' N' lt' off lt hx k0 k2 (by omega) hr
    refine back ?_
    clear back Gh
    exact ⟨h9, tk9, news9, e9, F9, N9, o9, S9, by simp [hl], r9⟩
  · intro ys news hri0
    refine hide fun Gh back => ?_
    obtain ⟨hl, d0, d2, v0, v1, v2, ep', tl, xs, rfl, g0, g2, gM, lt, hx⟩ := hri0
    refine back ?_
    clear back Gh
    refine fin ys xs tl _ d0 d2 v0 v1 v2 ep' rfl (by rw [← hx.length, hl]) hx lt g0 g2 ?_
    have : K * ((n : Int) - (n : Nat)) = 0 := by simp
    omega
theorem PartIn.flat {led : Led} {v : Value} {x : Flat} (h : FlatIn led v x) : PartIn led v (.f x) := h
def Part1 (w : World) : Prop := ∀ (bag : Addr) (b0 b1 b2 : Int) (t0 t1 t2 : Tok) (ep : Nat) (td : Tok) (_ : 0 ≤ b0) (_ : 0 ≤ b1) (_ : b1 < 2147483647) (_ : 0 ≤ b2) (_ : b2 < 900000) (fr : Led) (_ : ∀ q ∈ fr, q.1 ≠ bag),
      CallsTo w 738 [.ref bag, .int 1 td] [(bag, bagO b0 b1 b2 t0 t1 t2 ep)] fr 5 100
      (fun r mu' tl => ∃ o', mu' = [(bag, o')] ∧ ∃ c0 c2 u0 u1 u2 ep' x, o' = bagO c0 b1 c2 u0 u1 u2 ep' ∧ 0 ≤ c0 ∧ 0 ≤ c2 ∧ c2 ≤ b2 + 7 ∧ FlatIn tl r x)
def Part1If (w : World) (deep : Int) : Prop := deep ≤ 0 → Part1 w
def Keep (h₀ : Heap) (L : Addr) (m : Str → Option Value) (s : Shared) (all : Led) (p : Value → Prop) (r : Value) (s' : Shared) : Prop :=
  ∃ h' tk', s' = { s with heap := h', toks := tk' } ∧ Fr h₀ L h' m ∧ News h₀ L h' all ∧ p r
theorem Keep.mk {h₀ h' : Heap} {L : Addr} {m : Str → Option Value} {s : Shared} {all : Led} {p : Value → Prop} {r : Value} {tk' : Nat} (F : Fr h₀ L h' m) (N : News h₀ L h' all) (hp : p r) : Keep h₀ L m s all p r { s with heap := h', toks := tk' } := ⟨h', tk', rfl, F, N, hp⟩
theorem comp_keepT {β : Type} {R : Value → β → Prop} {good : β → Prop} {prog : Program} {w : World} {A : Around} {h₀ : Heap} {L : Addr} {m : Str → Option Value} {env : Env} {ct elt : Expr} {x : Str} {scope : Scope} {cl : List (Str × Addr)} {s : Shared} {S : Led → Prop} {P : Nat → Value → Prop} {Fin : List Value → Led → Prop} {n : Nat} {news : Led} (hS : S news)
    (turn : ∀ i v ys I oI C oC D m₂ h tk (E' : Value → Shared → Prop), i < n → P i v → LCg.NsObj oC m₂ → m₂ x = some v → Fr h₀ L h m → News h₀ L h ((I, oI) :: (C, oC) :: (D, LCg.lst ys) :: news) → LCg.Off3 I C D news → ((@Ne Nat I C) ∧ (@Ne Nat I D) ∧ (@Ne Nat C D)) →
      wpAny (model prog w) A (isTrue ct (compEnvC scope cl C env) (eval ct (compEnvC scope cl C env))) (fun ok s' => if ok = true then
        wpAny (model prog w) A (eval elt (compEnvC scope cl C env)) (Keep h₀ L m { s with heap := h, toks := tk } ((I, oI) :: (C, oC) :: (D, LCg.lst ys) :: news) (fun y => ∃ z, R y z ∧ good z)) E' s'
        else Keep h₀ L m { s with heap := h, toks := tk } ((I, oI) :: (C, oC) :: (D, LCg.lst ys) :: news) (fun _ => True) Value.none s') E' { s with heap := h, toks := tk })
    (fin : ∀ ys zs, All2 R ys zs → (∀ z ∈ zs, good z) → zs.length ≤ n → Fin ys news) : LCt.CompRestT prog w A h₀ L m env ct elt x scope cl s S P Fin n 0 [] news := by
  refine comp_invT (fun i ys nw => nw = news ∧ ∃ zs, All2 R ys zs ∧ (∀ z ∈ zs, good z) ∧ zs.length ≤ i) ?_ ?_ ⟨rfl, [], .nil, (fun _ h => nomatch h), Nat.le_refl _⟩
  · intro i v ys nw I oI C oC D m₂ h tk E' hi hri0 hv hC hx F N off ne
    refine hide fun Gh back => ?_
    obtain ⟨rfl, zs, hz, hg, hl⟩ := hri0
    refine back ?_
    clear back Gh
    refine wpAny_mono (turn i v ys I oI C oC D m₂ h tk E' hi hv hC hx F N off ne) (fun ok s' hq => ?_) fun _ _ e => e
    by_cases ho : ok = true
    · rw [if_pos ho] at hq ⊢
      refine wpAny_mono hq ?_ fun _ _ e => e
      intro y s2 hri0
      refine hide fun Gh back => ?_
      obtain ⟨h', tk', rfl, F', N', z, hr, hz'⟩ := hri0
      refine back ?_
      clear back Gh
      exact ⟨h', tk', nw, rfl, F', N', off, hS, rfl, zs ++ [z], hz.snoc hr, fun q hq => (List.mem_append.mp hq).elim (hg q) fun h => by rw [List.mem_singleton.mp h]; exact hz', by rw [List.length_append]; exact Nat.succ_le_succ hl⟩
    · rw [if_neg ho] at hq ⊢
      refine hide fun Gh back => ?_
      obtain ⟨h', tk', rfl, F', N', _⟩ := hq
      refine back ?_
      clear back Gh
      exact ⟨h', tk', nw, rfl, F', N', off, hS, rfl, zs, hz, hg, Nat.le_succ_of_le hl⟩
  · intro ys nw hri0
    refine hide fun Gh back => ?_
    obtain ⟨rfl, zs, hz, hg, hl⟩ := hri0
    refine back ?_
    clear back Gh
    exact fin ys zs hz hg hl
end
section
theorem widths_calls (w : World) (fr : Led) : CallsTo w 711 [] [] fr 1 16 (fun r mu' tl => mu' = [] ∧ ∃ a n vs, r = .ref a ∧ tl = [(a, tupO vs n)] ∧ IntsAre vs [120, 0, 401, -35, 1073741823, -1073741823]) := by
  intro prog p loose mean mg mb A env outer A₀ base h₀ L m s Q E B F X N T hh hA hf hk hd hu ret; obtain ⟨hd0, dp, frm, gd, un⟩ := A; dsimp only at hh hA hd hu; subst hh hA; have hSt := StK.mk s.gens s.drawn s.os; (try simp only [List.cons_append, List.nil_append] at N); refine wpAny_call ?_
  k_dflt (refine' code_def ?k1 ?k2 ?k3 ?k4 ?k5 ?kA ?kF ?kK ?k6 ?k7 ?k8 ?k9 ?kB ?_ ?c2 ?c3 ?c4 ?c5; (case kA => exact rfl); (case kF => first | assumption | exact rfl); (case kK => first | assumption | exact rfl); (case k1 => k_asm); (case k2 => k_asm); (case k3 => k_asm); (case k4 => k_asm); (case k5 => k_asm); (case k6 => k_is); (case k7 => k_is); (case k8 => (walk_at "my room")); (case k9 => first | exact BindsTo.of_eq rfl | exact binds_K (by k_in) rfl (by k_is) rfl rfl rfl); (case c5 => decide); (case kB => exact locs rfl); (case c2 => exact rfl); (case c3 => exact rfl); (case c4 => exact rfl); k_whole; intro g' L' h' FG' F' N' B' X' T'; (try dsimp only at N'); (try dsimp only); (try k_fold))
  k_steps
  all_goals (refine' ret _ _ _ [] [_] ?e1 ?e2 ?e3 ⟨rfl, _, _, _, rfl, rfl, ?e4⟩; (case e1 => k_asm); (case e2 => k_asm); (case e3 => walk_at "my ord"); (case e4 => exact .cons _ _ (.cons _ _ (.cons _ _ (.cons _ _ (.cons _ _ (.cons _ _ .nil)))))))
theorem widths_use {prog : Program} {w : World} {news : Led} {p : Program} {loose : List Str} {mean : ExcName → Option Value} {mg mb : Str → Option Value} {A : Around} {env : Env} {outer : List Env} {A₀ : Around} {base h₀ : Heap} {L : Addr} {m : Str → Option Value} {hp : Heap} {gs : Array GenState} {dr : Drawn} {tk0 : Nat} {os : OsState} {Q E : Value → Shared → Prop}
    (B : Below A₀ base outer h₀) (F : Fr h₀ L hp m) (X : (K w.params).In h₀) (N : News h₀ L hp news) (T : Top p loose mean mg mb h₀) (hh : A.handled = none) (hA : A.frames = some (env :: outer)) (hf : env.frame = some L) (hk : env.scope.kind = .function)
    (hd : A.depth + 1 < recursionLimit) (hu : A.units + 16 < cLine)
    (ret : ∀ a n vs h' tk', Fr h₀ L h' m → News h₀ L h' ((a, tupO vs n) :: news) → LCg.Off1 a news → IntsAre vs [120, 0, 401, -35, 1073741823, -1073741823] → Q (.ref a) ⟨h', gs, dr, tk', os⟩) : wpAny (model prog w) A (call (.ref 711) []) Q E ⟨hp, gs, dr, tk0, os⟩ := by
  refine widths_calls w news prog p loose mean mg mb A env outer A₀ base h₀ L m ⟨hp, gs, dr, tk0, os⟩ Q E B F X N T hh hA hf hk hd hu ?_
  rintro r h' tk' _ _ F' N' o' ⟨rfl, a, n, vs, rfl, rfl, hi⟩
  exact ret a n vs h' tk' F' N' (o' _ (.head _)) hi
def wayG (way : Int) : Bool := decide (way = 2 ∨ way = 3 ∨ way = 11)
theorem way_t {way : Int} (h : way = 2 ∨ way = 3 ∨ way = 11) : true = wayG way := (decide_eq_true h).symm
theorem way_f {way : Int} (h : ¬ (way = 2 ∨ way = 3 ∨ way = 11)) : false = wayG way := (decide_eq_false h).symm
theorem join_way {prog : Program} {w : World} {A : Around} {E : Value → Shared → Prop} {s : Shared} {h₀ : Heap} {L : Addr} {m : Str → Option Value} {news : Led} {t : Sem Bool} {Q : Bool → Shared → Prop} {way : Int} (_ : way < 12) (F : Fr h₀ L s.heap m) (N : News h₀ L s.heap news)
    (h : wpAny (model prog w) A t (TestPost h₀ L m news s (wayG way)) E s) (k : ∀ h' tk', Fr h₀ L h' m → News h₀ L h' news → Q (wayG way) { s with heap := h', toks := tk' }) : wpAny (model prog w) A t Q E s := join_test F N h k
local macro_rules | `(tactic| walk_at "isTrue BoolOp") => `(tactic| (k_here; (fail_if_success (with_reducible show wpAny _ _ _ (TestPost _ _ _ _ _ _) _ _)); refine halt_of ?_))
local macro_rules | `(tactic| walk_at "call ref") => `(tactic| refine halt_of ?_)
local macro_rules | `(tactic| walk_at "exec Assign cons ListComp") => `(tactic| refine halt_of ?_)
local macro_rules | `(tactic| walk_at "eval ListComp") => `(tactic| refine halt_of ?_)
local macro_rules | `(tactic| walk_at "CompSrc") => `(tactic| refine halt_of ?_)
local macro_rules | `(tactic| walk_at "CompSrcT") => `(tactic| refine halt_of ?_)
theorem part_post {bag : Addr} {n : Nat} {b1 b2 deep c0 c2 : Int} {u0 u1 u2 : Tok} {ep' : Nat} {tl : Led} {r : Value} {x : Flat} (hB : Bud n (b2 + 7) c0 b1 c2) (hf : FlatIn tl r x) :
    ∃ o', [(bag, bagO c0 b1 c2 u0 u1 u2 ep')] = [(bag, o')] ∧ ∃ c0' c2' u0' u1' u2' ep2 x, o' = bagO c0' b1 c2' u0' u1' u2' ep2 ∧ 0 ≤ c0' ∧ 0 ≤ c2' ∧ c2' ≤ b2 + 30 ∧ (deep > 0 → c2' ≤ b2 + 7) ∧ PartIn tl r x ∧ (deep > 0 → ∃ y, x = .f y) :=
  ⟨_, rfl, c0, c2, u0, u1, u2, ep', .f x, rfl, hB.a, hB.c, hB.y30, fun _ => hB.y7, PartIn.flat hf, fun _ => ⟨_, rfl⟩⟩
set_option maxHeartbeats 16000000 in
theorem part_gen (w : World) (deep : Int) (dd uu : Nat) (hdd : 5 ≤ dd) (huu : 100 ≤ uu) (hdu : deep > 0 ∨ (8 ≤ dd ∧ 160 ≤ uu)) (hrec : Part1If w deep)
    (bag : Addr) (b0 b1 b2 : Int) (t0 t1 t2 : Tok) (ep : Nat) (td : Tok) (h0 : 0 ≤ b0) (h1 : 0 ≤ b1) (h1' : b1 < 2147483647) (h2 : 0 ≤ b2) (h2' : b2 < 900000) (h2d : deep > 0 ∨ b2 < 800000) (fr : Led) (off : ∀ q ∈ fr, q.1 ≠ bag) :
    CallsTo w 738 [.ref bag, .int deep td] [(bag, bagO b0 b1 b2 t0 t1 t2 ep)] fr dd uu
      (fun r mu' tl => ∃ o', mu' = [(bag, o')] ∧ ∃ c0 c2 u0 u1 u2 ep' x, o' = bagO c0 b1 c2 u0 u1 u2 ep' ∧ 0 ≤ c0 ∧ 0 ≤ c2 ∧ c2 ≤ b2 + 30 ∧ (deep > 0 → c2 ≤ b2 + 7) ∧ PartIn tl r x ∧ (deep > 0 → ∃ y, x = .f y)) := by
  intro prog p loose mean mg mb A env outer A₀ base h₀ L m s Q E B F X N T hh hA hf hk hd hu ret; obtain ⟨hd0, dp, frm, gd, un⟩ := A; dsimp only at hh hA hd hu; subst hh hA; have hSt := StK.mk s.gens s.drawn s.os; (try simp only [List.cons_append, List.nil_append] at N); refine wpAny_call ?_
  k_dflt (refine' code_defC ?k1 ?k2 ?k3 ?k4 ?k5 ?kA ?kF ?kK ?k6 ?k7 ?k8 ?k9 ?kB ?kD ?_ ?c2 ?c3 ?c4; (case kA => exact rfl); (case kF => first | assumption | exact rfl); (case kK => first | assumption | exact rfl); (case k1 => k_asm); (case k2 => k_asm); (case k3 => k_asm); (case k4 => k_asm); (case k5 => k_asm); (case k6 => k_is); (case k7 => k_is); (case k8 => (walk_at "my room")); (case k9 => first | exact BindsTo.of_eq rfl | exact binds_K (by k_in) rfl (by k_is) rfl rfl rfl); (case kB => exact rfl); (case kD => decide +kernel); (case c2 => exact rfl); (case c3 => exact rfl); (case c4 => exact rfl); k_whole; intro g' L' h' tk' cells' FG' F' N' Y' B' X' T' l1; (try k_lt l1); k_cells Y'; (try simp only [List.cons_append, List.nil_append] at N'); (try dsimp only); (try k_fold))
  have hb : Bud 7 (b2 + 7) b0 b1 b2 := ⟨h0, h1, h1', h2, by omega, by omega⟩
  refine with_room 1 16 (by (walk_at "my room")) (by (walk_at "my room")) fun hr1 hr2 => ?_
  (k_steps; repeat' (first | ((with_reducible refine Halt.go ?_); (first | (k_here; k_dflt (refine src_range (by rfl) (by k_asm) (News.take (o := bagO _ _ _ _ _ _ _) (by k_asm) (by repeat (first | exact Take.here | apply Take.there))) (by assumption) (small_one (by omega) (by omega) (by omega) (by omega)) (rangeSize_nat _ _) (by rw [PySem.sizeLine_eq]; omega) ?_)) | (k_here; k_dflt (first | refine src_rangeT (by rfl) (by k_asm) (by k_asm) (by assumption) (small_one (by omega) (by omega) (by omega) (by omega)) (rangeSize_nat _ _) (by rw [PySem.sizeLine_eq]; omega) ?_ | refine src_listT (by rfl) (by k_asm) (by k_asm) (by k_mem) (by rw [PySem.sizeLine_eq]; simp only [List.size_toArray]; omega) ?_)) | (k_here; k_dflt (first | refine src_range (by rfl) (by k_asm) (by k_asm) (by assumption) (small_one (by omega) (by omega) (by omega) (by omega)) (rangeSize_nat _ _) (by rw [PySem.sizeLine_eq]; omega) ?_ | refine src_list (by rfl) (by k_asm) (by k_asm) (by k_mem) (by rw [PySem.sizeLine_eq]; simp only [List.size_toArray]; omega) ?_)) | (k_here; (with_reducible show wpAny _ _ (eval (Expr.ListComp _ [⟨_, _, [_], _⟩] _ _) _) _ _ _); k_dflt (refine LCt.ListComp_T (F₀ := by k_asm) (by with_unfolding_all rfl) (by decide) (by rfl) (by decide) (by rfl) ?_)) | (k_here; (with_reducible show wpAny _ _ (eval (Expr.ListComp _ [⟨_, _, [], _⟩] _ _) _) _ _ _); k_dflt (refine LCg.ListComp_U (F₀ := by k_asm) (by with_unfolding_all rfl) (by decide) (by rfl) (by decide) (by rfl) ?_)) | (k_here; (with_reducible show wpAny _ _ (exec (Stmt.Assign _ (Expr.ListComp _ [⟨_, _, [_], _⟩] _ _) _) _) _ _ _); k_dflt (refine LCt.Assign_ListComp_T (F₀ := by k_asm) (by rfl) (by with_unfolding_all rfl) (by with_unfolding_all rfl) (by decide) (by rfl) (by decide) (by rfl) (by rfl) (by rfl) ?_)) | (k_here; (with_reducible show wpAny _ _ (exec (Stmt.Assign _ (Expr.ListComp _ [⟨_, _, [], _⟩] _ _) _) _) _ _ _); k_dflt (refine LCg.Assign_ListComp_U (F₀ := by k_asm) (by rfl) (by with_unfolding_all rfl) (by with_unfolding_all rfl) (by decide) (by rfl) (by decide) (by rfl) (by rfl) (by rfl) ?_)) | ((with_reducible show wpAny _ _ (isTrue (PySem.Expr.BoolOp _ _ _) _ _) _ _ _); refine' join_way ?zwv1 ?zFv1 ?zNv1 ?ztv1 ?zkv1; (case zwv1 => assumption); (case zFv1 => k_asm); (case zNv1 => k_asm)) | ((with_reducible show wpAny _ _ (call _ _) _ _ _); (first | (k_here; k_dflt (refine' CallsTo.use1 ?kUv13 ((by assumption : Part1If _ _) (by omega) _ _ _ _ _ _ _ _ _ ?p1v13 ?p2v13 ?p3v13 ?p4v13 ?p5v13) ?k1v13 ?k2v13 ?k3v13 ?k4v13 ?k5v13 ?kHv13 ?kAv13 ?kFv13 ?kKv13 ?kdv13 ?kuv13 ?_; (case k1v13 => k_asm); (case k2v13 => k_asm); (case k3v13 => k_asm); (case k4v13 => k_asm); (case kUv13 => k_updF); (case k5v13 => k_asm); (case kHv13 => exact rfl); (case kAv13 => exact rfl); (case kFv13 => first | assumption | exact rfl); (case kKv13 => first | assumption | exact rfl); (case kdv13 => (walk_at "my room")); (case kuv13 => (walk_at "my room")); (case p1v13 => omega); (case p2v13 => omega); (case p3v13 => omega); (case p4v13 => omega); (case p5v13 => omega); k_whole; (intro r'q h'q tk'q o'q tl'q F'q N'q lt'q post'q); (obtain ⟨c0'q, c2'q, u0'q, u1'q, u2'q, ep'q, x'q, e3'q, p3'q, p4'q, p5'q, hf'q⟩ := post'q); subst e3'q; (try dsimp only at N'q); (try simp only [List.cons_append, List.nil_append] at N'q); (try k_sweep); (try k_fold))) | (k_here; k_dflt (refine' widths_use ?k1v4 ?k2v4 ?k3v4 ?k4v4 ?k5v4 ?kHv4 ?kAv4 ?kFv4 ?kKv4 ?kdv4 ?kuv4 ?_; (case k1v4 => k_asm); (case k2v4 => k_asm); (case k3v4 => k_asm); (case k4v4 => k_asm); (case k5v4 => k_asm); (case kHv4 => exact rfl); (case kAv4 => exact rfl); (case kFv4 => first | assumption | exact rfl); (case kKv4 => first | assumption | exact rfl); (case kdv4 => first | assumption | (walk_at "my room")); (case kuv4 => first | assumption | (walk_at "my room"));  k_whole; (intro at'q n'q vs'q h'q tk'q F'q N'q lt'q hi'q); (try simp only [LCg.Off1, and_true] at lt'q); (try k_sweep); (try k_fold))) | (k_here; k_dflt (refine' draw_bud ?kUv3 ?kbv3 ?k1v3 ?k2v3 ?k3v3 ?k4v3 ?k5v3 ?kHv3 ?kAv3 ?kFv3 ?kKv3 ?kdv3 ?kuv3 ?p6v3 ?p7v3 ?_; (case k1v3 => k_asm); (case k2v3 => k_asm); (case k3v3 => k_asm); (case k4v3 => k_asm); (case kUv3 => k_updF); (case k5v3 => k_asm); (case kHv3 => exact rfl); (case kAv3 => exact rfl); (case kFv3 => first | assumption | exact rfl); (case kKv3 => first | assumption | exact rfl); (case kdv3 => first | assumption | (walk_at "my room")); (case kuv3 => first | assumption | (walk_at "my room")); (case kbv3 => assumption); (case p6v3 => decide); (case p7v3 => decide); k_whole; (intro d'q td'q c0'q c2'q u0'q u1'q u2'q ep'q h'q tk'q F'q N'q p1'q p2'q p3'q); (try dsimp only at N'q); (try simp only [List.cons_append, List.nil_append] at N'q); (try k_sweep); (try k_fold))) | fail)) | fail); (all_goals k_steps)) | ((fail_if_success (with_reducible refine Halt.go ?_)); (first | (k_here; (with_reducible show wpAny _ _ (eval (Expr.Name _ _) (compEnvC _ _ _ _)) _ _ _); k_dflt (refine' lcf_free ?Nv11 ?cv11 ?mv11 ?dv11 ?_ ?av11 ?bv11; (case av11 => rfl); (case bv11 => rfl); (case Nv11 => k_asm); (case cv11 => rfl); (case mv11 => assumption); (case dv11 => assumption); k_whole)) | fail); (all_goals k_steps)) | (refine' TestPost.mk ?tFv2 ?tNv2 ?tEv2; (case tFv2 => k_asm); (case tNv2 => k_asm); (case tEv2 => first | exact way_t (by omega) | exact way_f (by omega)))))
  rotate_right
  · have hdu2 : 8 ≤ dd ∧ 160 ≤ uu := hdu.resolve_left (by omega)
    have h2d2 : b2 < 800000 := h2d.resolve_left (by omega)
    have hnb : ¬ deep > 0 := by omega
    clear hdu h2d
    refine Halt.go (fun g' => ?_)
    have hdat : _ = Data.cell (some (.ref bag)) := (by assumption : (_ : Obj).data = Data.cell (bindC _ _ _ _))
    refine comp_bag (R := FlatIn) FlatIn.mono 7 (b2 + 30) ?hK ?h0 ?h2 ?hM ?offb ?turn ?fin
    case hK => omega
    case h0 => exact Bud.a (by assumption)
    case h2 => exact Bud.c (by assumption)
    case hM =>
      have hq := Bud.sum (by assumption : Bud 4 _ _ _ _)
      omega
    case offb => exact List.forall_mem_cons.mpr ⟨by first | exact Ne.symm (by assumption : _ ≠ _ ∧ _ ≠ _ ∧ _ ≠ _ ∧ LCg.Off1 _ _).2.2.1 | (walk_at "my ne") | (show (_ : Nat) ≠ _; omega), List.forall_mem_cons.mpr ⟨by first | exact Ne.symm (by assumption : _ ≠ _ ∧ _ ≠ _ ∧ _ ≠ _ ∧ LCg.Off1 _ _).2.2.1 | (walk_at "my ne") | (show (_ : Nat) ≠ _; omega), List.forall_mem_cons.mpr ⟨by first | exact Ne.symm (by assumption : _ ≠ _ ∧ _ ≠ _ ∧ _ ≠ _ ∧ LCg.Off1 _ _).2.2.1 | (walk_at "my ne") | (show (_ : Nat) ≠ _; omega), off⟩⟩⟩
    case turn =>
      intro i v ys I oI C oC D m₂ h tk E' d0 d2 v0 v1 v2 ep' fr2 hi g0 g2 gM off2 sub2 hv hC hx F2 N2 off3 ne3
      have hcell : (L' + 1, _) ∈ (I, oI) :: (C, oC) :: (D, LCg.lst ys) :: (bag, bagO d0 b1 d2 v0 v1 v2 ep') :: fr2 := .tail _ (.tail _ (.tail _ (.tail _ (sub2 (L' + 1, _) (by k_mem)))))
      clear sub2
      simp only [LCg.Off3, and_true] at off3
      (k_steps; repeat' (first | ((with_reducible refine Halt.go ?_); (first | (k_here; k_dflt (refine src_range (by rfl) (by k_asm) (News.take (o := bagO _ _ _ _ _ _ _) (by k_asm) (by repeat (first | exact Take.here | apply Take.there))) (by assumption) (small_one (by omega) (by omega) (by omega) (by omega)) (rangeSize_nat _ _) (by rw [PySem.sizeLine_eq]; omega) ?_)) | (k_here; k_dflt (first | refine src_rangeT (by rfl) (by k_asm) (by k_asm) (by assumption) (small_one (by omega) (by omega) (by omega) (by omega)) (rangeSize_nat _ _) (by rw [PySem.sizeLine_eq]; omega) ?_ | refine src_listT (by rfl) (by k_asm) (by k_asm) (by k_mem) (by rw [PySem.sizeLine_eq]; simp only [List.size_toArray]; omega) ?_)) | (k_here; k_dflt (first | refine src_range (by rfl) (by k_asm) (by k_asm) (by assumption) (small_one (by omega) (by omega) (by omega) (by omega)) (rangeSize_nat _ _) (by rw [PySem.sizeLine_eq]; omega) ?_ | refine src_list (by rfl) (by k_asm) (by k_asm) (by k_mem) (by rw [PySem.sizeLine_eq]; simp only [List.size_toArray]; omega) ?_)) | (k_here; (with_reducible show wpAny _ _ (eval (Expr.ListComp _ [⟨_, _, [_], _⟩] _ _) _) _ _ _); k_dflt (refine LCt.ListComp_T (F₀ := by k_asm) (by with_unfolding_all rfl) (by decide) (by rfl) (by decide) (by rfl) ?_)) | (k_here; (with_reducible show wpAny _ _ (eval (Expr.ListComp _ [⟨_, _, [], _⟩] _ _) _) _ _ _); k_dflt (refine LCg.ListComp_U (F₀ := by k_asm) (by with_unfolding_all rfl) (by decide) (by rfl) (by decide) (by rfl) ?_)) | (k_here; (with_reducible show wpAny _ _ (exec (Stmt.Assign _ (Expr.ListComp _ [⟨_, _, [_], _⟩] _ _) _) _) _ _ _); k_dflt (refine LCt.Assign_ListComp_T (F₀ := by k_asm) (by rfl) (by with_unfolding_all rfl) (by with_unfolding_all rfl) (by decide) (by rfl) (by decide) (by rfl) (by rfl) (by rfl) ?_)) | (k_here; (with_reducible show wpAny _ _ (exec (Stmt.Assign _ (Expr.ListComp _ [⟨_, _, [], _⟩] _ _) _) _) _ _ _); k_dflt (refine LCg.Assign_ListComp_U (F₀ := by k_asm) (by rfl) (by with_unfolding_all rfl) (by with_unfolding_all rfl) (by decide) (by rfl) (by decide) (by rfl) (by rfl) (by rfl) ?_)) | ((with_reducible show wpAny _ _ (isTrue (PySem.Expr.BoolOp _ _ _) _ _) _ _ _); refine' join_way ?zwv1 ?zFv1 ?zNv1 ?ztv1 ?zkv1; (case zwv1 => assumption); (case zFv1 => k_asm); (case zNv1 => k_asm)) | ((with_reducible show wpAny _ _ (call _ _) _ _ _); (first | (k_here; k_dflt (refine' CallsTo.use1 ?kUv13 ((by assumption : Part1If _ _) (by omega) _ _ _ _ _ _ _ _ _ ?p1v13 ?p2v13 ?p3v13 ?p4v13 ?p5v13) ?k1v13 ?k2v13 ?k3v13 ?k4v13 ?k5v13 ?kHv13 ?kAv13 ?kFv13 ?kKv13 ?kdv13 ?kuv13 ?_; (case k1v13 => k_asm); (case k2v13 => k_asm); (case k3v13 => k_asm); (case k4v13 => k_asm); (case kUv13 => k_updF); (case k5v13 => k_asm); (case kHv13 => exact rfl); (case kAv13 => exact rfl); (case kFv13 => first | assumption | exact rfl); (case kKv13 => first | assumption | exact rfl); (case kdv13 => (walk_at "my room")); (case kuv13 => (walk_at "my room")); (case p1v13 => omega); (case p2v13 => omega); (case p3v13 => omega); (case p4v13 => omega); (case p5v13 => omega); k_whole; (intro r'q h'q tk'q o'q tl'q F'q N'q lt'q post'q); (obtain ⟨c0'q, c2'q, u0'q, u1'q, u2'q, ep'q, x'q, e3'q, p3'q, p4'q, p5'q, hf'q⟩ := post'q); subst e3'q; (try dsimp only at N'q); (try simp only [List.cons_append, List.nil_append] at N'q); (try k_sweep); (try k_fold))) | (k_here; k_dflt (refine' widths_use ?k1v4 ?k2v4 ?k3v4 ?k4v4 ?k5v4 ?kHv4 ?kAv4 ?kFv4 ?kKv4 ?kdv4 ?kuv4 ?_; (case k1v4 => k_asm); (case k2v4 => k_asm); (case k3v4 => k_asm); (case k4v4 => k_asm); (case k5v4 => k_asm); (case kHv4 => exact rfl); (case kAv4 => exact rfl); (case kFv4 => first | assumption | exact rfl); (case kKv4 => first | assumption | exact rfl); (case kdv4 => first | assumption | (walk_at "my room")); (case kuv4 => first | assumption | (walk_at "my room"));  k_whole; (intro at'q n'q vs'q h'q tk'q F'q N'q lt'q hi'q); (try simp only [LCg.Off1, and_true] at lt'q); (try k_sweep); (try k_fold))) | (k_here; k_dflt (refine' draw_bud ?kUv3 ?kbv3 ?k1v3 ?k2v3 ?k3v3 ?k4v3 ?k5v3 ?kHv3 ?kAv3 ?kFv3 ?kKv3 ?kdv3 ?kuv3 ?p6v3 ?p7v3 ?_; (case k1v3 => k_asm); (case k2v3 => k_asm); (case k3v3 => k_asm); (case k4v3 => k_asm); (case kUv3 => k_updF); (case k5v3 => k_asm); (case kHv3 => exact rfl); (case kAv3 => exact rfl); (case kFv3 => first | assumption | exact rfl); (case kKv3 => first | assumption | exact rfl); (case kdv3 => first | assumption | (walk_at "my room")); (case kuv3 => first | assumption | (walk_at "my room")); (case kbv3 => assumption); (case p6v3 => decide); (case p7v3 => decide); k_whole; (intro d'q td'q c0'q c2'q u0'q u1'q u2'q ep'q h'q tk'q F'q N'q p1'q p2'q p3'q); (try dsimp only at N'q); (try simp only [List.cons_append, List.nil_append] at N'q); (try k_sweep); (try k_fold))) | fail)) | fail); (all_goals k_steps)) | ((fail_if_success (with_reducible refine Halt.go ?_)); (first | (k_here; (with_reducible show wpAny _ _ (eval (Expr.Name _ _) (compEnvC _ _ _ _)) _ _ _); k_dflt (refine' lcf_free ?Nv11 ?cv11 ?mv11 ?dv11 ?_ ?av11 ?bv11; (case av11 => rfl); (case bv11 => rfl); (case Nv11 => k_asm); (case cv11 => rfl); (case mv11 => assumption); (case dv11 => assumption); k_whole)) | fail); (all_goals k_steps)) | (refine' TestPost.mk ?tFv2 ?tNv2 ?tEv2; (case tFv2 => k_asm); (case tNv2 => k_asm); (case tEv2 => first | exact way_t (by omega) | exact way_f (by omega)))))
      exact BagTurn.mk (by k_asm) (by assumption) (by assumption) (by assumption) (by omega) (by omega) (by omega)
    case fin =>
      intro ys xs tl fr4 d0 d2 v0 v1 v2 ep' hfr hl hx lt g0 g2 gM
      unfold LCg.FinA
      intro Dm hm tkm Fm Nm om
      have hys : ys.length ≤ 2 := by rw [hx.length]; omega
      have up : ∀ p ∈ tl, p ∈ fr4 := fun p hp => hfr ▸ List.mem_append_left _ hp
      (k_steps; repeat' (first | ((with_reducible refine Halt.go ?_); (first | (k_here; k_dflt (refine src_range (by rfl) (by k_asm) (News.take (o := bagO _ _ _ _ _ _ _) (by k_asm) (by repeat (first | exact Take.here | apply Take.there))) (by assumption) (small_one (by omega) (by omega) (by omega) (by omega)) (rangeSize_nat _ _) (by rw [PySem.sizeLine_eq]; omega) ?_)) | (k_here; k_dflt (first | refine src_rangeT (by rfl) (by k_asm) (by k_asm) (by assumption) (small_one (by omega) (by omega) (by omega) (by omega)) (rangeSize_nat _ _) (by rw [PySem.sizeLine_eq]; omega) ?_ | refine src_listT (by rfl) (by k_asm) (by k_asm) (by k_mem) (by rw [PySem.sizeLine_eq]; simp only [List.size_toArray]; omega) ?_)) | (k_here; k_dflt (first | refine src_range (by rfl) (by k_asm) (by k_asm) (by assumption) (small_one (by omega) (by omega) (by omega) (by omega)) (rangeSize_nat _ _) (by rw [PySem.sizeLine_eq]; omega) ?_ | refine src_list (by rfl) (by k_asm) (by k_asm) (by k_mem) (by rw [PySem.sizeLine_eq]; simp only [List.size_toArray]; omega) ?_)) | (k_here; (with_reducible show wpAny _ _ (eval (Expr.ListComp _ [⟨_, _, [_], _⟩] _ _) _) _ _ _); k_dflt (refine LCt.ListComp_T (F₀ := by k_asm) (by with_unfolding_all rfl) (by decide) (by rfl) (by decide) (by rfl) ?_)) | (k_here; (with_reducible show wpAny _ _ (eval (Expr.ListComp _ [⟨_, _, [], _⟩] _ _) _) _ _ _); k_dflt (refine LCg.ListComp_U (F₀ := by k_asm) (by with_unfolding_all rfl) (by decide) (by rfl) (by decide) (by rfl) ?_)) | (k_here; (with_reducible show wpAny _ _ (exec (Stmt.Assign _ (Expr.ListComp _ [⟨_, _, [_], _⟩] _ _) _) _) _ _ _); k_dflt (refine LCt.Assign_ListComp_T (F₀ := by k_asm) (by rfl) (by with_unfolding_all rfl) (by with_unfolding_all rfl) (by decide) (by rfl) (by decide) (by rfl) (by rfl) (by rfl) ?_)) | (k_here; (with_reducible show wpAny _ _ (exec (Stmt.Assign _ (Expr.ListComp _ [⟨_, _, [], _⟩] _ _) _) _) _ _ _); k_dflt (refine LCg.Assign_ListComp_U (F₀ := by k_asm) (by rfl) (by with_unfolding_all rfl) (by with_unfolding_all rfl) (by decide) (by rfl) (by decide) (by rfl) (by rfl) (by rfl) ?_)) | ((with_reducible show wpAny _ _ (isTrue (PySem.Expr.BoolOp _ _ _) _ _) _ _ _); refine' join_way ?zwv1 ?zFv1 ?zNv1 ?ztv1 ?zkv1; (case zwv1 => assumption); (case zFv1 => k_asm); (case zNv1 => k_asm)) | ((with_reducible show wpAny _ _ (call _ _) _ _ _); (first | (k_here; k_dflt (refine' CallsTo.use1 ?kUv13 ((by assumption : Part1If _ _) (by omega) _ _ _ _ _ _ _ _ _ ?p1v13 ?p2v13 ?p3v13 ?p4v13 ?p5v13) ?k1v13 ?k2v13 ?k3v13 ?k4v13 ?k5v13 ?kHv13 ?kAv13 ?kFv13 ?kKv13 ?kdv13 ?kuv13 ?_; (case k1v13 => k_asm); (case k2v13 => k_asm); (case k3v13 => k_asm); (case k4v13 => k_asm); (case kUv13 => k_updF); (case k5v13 => k_asm); (case kHv13 => exact rfl); (case kAv13 => exact rfl); (case kFv13 => first | assumption | exact rfl); (case kKv13 => first | assumption | exact rfl); (case kdv13 => (walk_at "my room")); (case kuv13 => (walk_at "my room")); (case p1v13 => omega); (case p2v13 => omega); (case p3v13 => omega); (case p4v13 => omega); (case p5v13 => omega); k_whole; (intro r'q h'q tk'q o'q tl'q F'q N'q lt'q post'q); (obtain ⟨c0'q, c2'q, u0'q, u1'q, u2'q, ep'q, x'q, e3'q, p3'q, p4'q, p5'q, hf'q⟩ := post'q); subst e3'q; (try dsimp only at N'q); (try simp only [List.cons_append, List.nil_append] at N'q); (try k_sweep); (try k_fold))) | (k_here; k_dflt (refine' widths_use ?k1v4 ?k2v4 ?k3v4 ?k4v4 ?k5v4 ?kHv4 ?kAv4 ?kFv4 ?kKv4 ?kdv4 ?kuv4 ?_; (case k1v4 => k_asm); (case k2v4 => k_asm); (case k3v4 => k_asm); (case k4v4 => k_asm); (case k5v4 => k_asm); (case kHv4 => exact rfl); (case kAv4 => exact rfl); (case kFv4 => first | assumption | exact rfl); (case kKv4 => first | assumption | exact rfl); (case kdv4 => first | assumption | (walk_at "my room")); (case kuv4 => first | assumption | (walk_at "my room"));  k_whole; (intro at'q n'q vs'q h'q tk'q F'q N'q lt'q hi'q); (try simp only [LCg.Off1, and_true] at lt'q); (try k_sweep); (try k_fold))) | (k_here; k_dflt (refine' draw_bud ?kUv3 ?kbv3 ?k1v3 ?k2v3 ?k3v3 ?k4v3 ?k5v3 ?kHv3 ?kAv3 ?kFv3 ?kKv3 ?kdv3 ?kuv3 ?p6v3 ?p7v3 ?_; (case k1v3 => k_asm); (case k2v3 => k_asm); (case k3v3 => k_asm); (case k4v3 => k_asm); (case kUv3 => k_updF); (case k5v3 => k_asm); (case kHv3 => exact rfl); (case kAv3 => exact rfl); (case kFv3 => first | assumption | exact rfl); (case kKv3 => first | assumption | exact rfl); (case kdv3 => first | assumption | (walk_at "my room")); (case kuv3 => first | assumption | (walk_at "my room")); (case kbv3 => assumption); (case p6v3 => decide); (case p7v3 => decide); k_whole; (intro d'q td'q c0'q c2'q u0'q u1'q u2'q ep'q h'q tk'q F'q N'q p1'q p2'q p3'q); (try dsimp only at N'q); (try simp only [List.cons_append, List.nil_append] at N'q); (try k_sweep); (try k_fold))) | fail)) | fail); (all_goals k_steps)) | ((fail_if_success (with_reducible refine Halt.go ?_)); (first | (k_here; (with_reducible show wpAny _ _ (eval (Expr.Name _ _) (compEnvC _ _ _ _)) _ _ _); k_dflt (refine' lcf_free ?Nv11 ?cv11 ?mv11 ?dv11 ?_ ?av11 ?bv11; (case av11 => rfl); (case bv11 => rfl); (case Nv11 => k_asm); (case cv11 => rfl); (case mv11 => assumption); (case dv11 => assumption); k_whole)) | fail); (all_goals k_steps)) | (refine' TestPost.mk ?tFv2 ?tNv2 ?tEv2; (case tFv2 => k_asm); (case tNv2 => k_asm); (case tEv2 => first | exact way_t (by omega) | exact way_f (by omega)))))
      refine Halt.go (fun gZ => ?_)
      refine comp_keepT (R := FlatIn tl) (good := fun z => z.short = true) (Or.inr ⟨_, .head _, rfl, _, rfl⟩) ?turn2 ?fin2
      case turn2 =>
        intro i v zs I oI C oC D m₂ h tk E' hi hv hC hx' F2 N2 off3 ne3
        obtain ⟨x, hxi, hfl⟩ := hx.get (by simpa using hv)
        have hfl' := hfl
        obtain ⟨ok, a, la, nn, kk, tt, wv, dv, rfl, m1, m2, W, G⟩ := hfl'
        simp only [LCg.Off3, and_true] at off3
        (try dsimp only)
        clear W G m2 ok
        replace m1 := up _ m1
        cases x with
        | g s _ _ _ _ _ => cases s <;> (dsimp only [Flat.sort, Flat.seen] at m1; (k_steps; repeat' (first | ((with_reducible refine Halt.go ?_); (first | (k_here; k_dflt (refine src_range (by rfl) (by k_asm) (News.take (o := bagO _ _ _ _ _ _ _) (by k_asm) (by repeat (first | exact Take.here | apply Take.there))) (by assumption) (small_one (by omega) (by omega) (by omega) (by omega)) (rangeSize_nat _ _) (by rw [PySem.sizeLine_eq]; omega) ?_)) | (k_here; k_dflt (first | refine src_rangeT (by rfl) (by k_asm) (by k_asm) (by assumption) (small_one (by omega) (by omega) (by omega) (by omega)) (rangeSize_nat _ _) (by rw [PySem.sizeLine_eq]; omega) ?_ | refine src_listT (by rfl) (by k_asm) (by k_asm) (by k_mem) (by rw [PySem.sizeLine_eq]; simp only [List.size_toArray]; omega) ?_)) | (k_here; k_dflt (first | refine src_range (by rfl) (by k_asm) (by k_asm) (by assumption) (small_one (by omega) (by omega) (by omega) (by omega)) (rangeSize_nat _ _) (by rw [PySem.sizeLine_eq]; omega) ?_ | refine src_list (by rfl) (by k_asm) (by k_asm) (by k_mem) (by rw [PySem.sizeLine_eq]; simp only [List.size_toArray]; omega) ?_)) | (k_here; (with_reducible show wpAny _ _ (eval (Expr.ListComp _ [⟨_, _, [_], _⟩] _ _) _) _ _ _); k_dflt (refine LCt.ListComp_T (F₀ := by k_asm) (by with_unfolding_all rfl) (by decide) (by rfl) (by decide) (by rfl) ?_)) | (k_here; (with_reducible show wpAny _ _ (eval (Expr.ListComp _ [⟨_, _, [], _⟩] _ _) _) _ _ _); k_dflt (refine LCg.ListComp_U (F₀ := by k_asm) (by with_unfolding_all rfl) (by decide) (by rfl) (by decide) (by rfl) ?_)) | (k_here; (with_reducible show wpAny _ _ (exec (Stmt.Assign _ (Expr.ListComp _ [⟨_, _, [_], _⟩] _ _) _) _) _ _ _); k_dflt (refine LCt.Assign_ListComp_T (F₀ := by k_asm) (by rfl) (by with_unfolding_all rfl) (by with_unfolding_all rfl) (by decide) (by rfl) (by decide) (by rfl) (by rfl) (by rfl) ?_)) | (k_here; (with_reducible show wpAny _ _ (exec (Stmt.Assign _ (Expr.ListComp _ [⟨_, _, [], _⟩] _ _) _) _) _ _ _); k_dflt (refine LCg.Assign_ListComp_U (F₀ := by k_asm) (by rfl) (by with_unfolding_all rfl) (by with_unfolding_all rfl) (by decide) (by rfl) (by decide) (by rfl) (by rfl) (by rfl) ?_)) | ((with_reducible show wpAny _ _ (isTrue (PySem.Expr.BoolOp _ _ _) _ _) _ _ _); refine' join_way ?zwv1 ?zFv1 ?zNv1 ?ztv1 ?zkv1; (case zwv1 => assumption); (case zFv1 => k_asm); (case zNv1 => k_asm)) | ((with_reducible show wpAny _ _ (call _ _) _ _ _); (first | (k_here; k_dflt (refine' CallsTo.use1 ?kUv13 ((by assumption : Part1If _ _) (by omega) _ _ _ _ _ _ _ _ _ ?p1v13 ?p2v13 ?p3v13 ?p4v13 ?p5v13) ?k1v13 ?k2v13 ?k3v13 ?k4v13 ?k5v13 ?kHv13 ?kAv13 ?kFv13 ?kKv13 ?kdv13 ?kuv13 ?_; (case k1v13 => k_asm); (case k2v13 => k_asm); (case k3v13 => k_asm); (case k4v13 => k_asm); (case kUv13 => k_updF); (case k5v13 => k_asm); (case kHv13 => exact rfl); (case kAv13 => exact rfl); (case kFv13 => first | assumption | exact rfl); (case kKv13 => first | assumption | exact rfl); (case kdv13 => (walk_at "my room")); (case kuv13 => (walk_at "my room")); (case p1v13 => omega); (case p2v13 => omega); (case p3v13 => omega); (case p4v13 => omega); (case p5v13 => omega); k_whole; (intro r'q h'q tk'q o'q tl'q F'q N'q lt'q post'q); (obtain ⟨c0'q, c2'q, u0'q, u1'q, u2'q, ep'q, x'q, e3'q, p3'q, p4'q, p5'q, hf'q⟩ := post'q); subst e3'q; (try dsimp only at N'q); (try simp only [List.cons_append, List.nil_append] at N'q); (try k_sweep); (try k_fold))) | (k_here; k_dflt (refine' widths_use ?k1v4 ?k2v4 ?k3v4 ?k4v4 ?k5v4 ?kHv4 ?kAv4 ?kFv4 ?kKv4 ?kdv4 ?kuv4 ?_; (case k1v4 => k_asm); (case k2v4 => k_asm); (case k3v4 => k_asm); (case k4v4 => k_asm); (case k5v4 => k_asm); (case kHv4 => exact rfl); (case kAv4 => exact rfl); (case kFv4 => first | assumption | exact rfl); (case kKv4 => first | assumption | exact rfl); (case kdv4 => first | assumption | (walk_at "my room")); (case kuv4 => first | assumption | (walk_at "my room"));  k_whole; (intro at'q n'q vs'q h'q tk'q F'q N'q lt'q hi'q); (try simp only [LCg.Off1, and_true] at lt'q); (try k_sweep); (try k_fold))) | (k_here; k_dflt (refine' draw_bud ?kUv3 ?kbv3 ?k1v3 ?k2v3 ?k3v3 ?k4v3 ?k5v3 ?kHv3 ?kAv3 ?kFv3 ?kKv3 ?kdv3 ?kuv3 ?p6v3 ?p7v3 ?_; (case k1v3 => k_asm); (case k2v3 => k_asm); (case k3v3 => k_asm); (case k4v3 => k_asm); (case kUv3 => k_updF); (case k5v3 => k_asm); (case kHv3 => exact rfl); (case kAv3 => exact rfl); (case kFv3 => first | assumption | exact rfl); (case kKv3 => first | assumption | exact rfl); (case kdv3 => first | assumption | (walk_at "my room")); (case kuv3 => first | assumption | (walk_at "my room")); (case kbv3 => assumption); (case p6v3 => decide); (case p7v3 => decide); k_whole; (intro d'q td'q c0'q c2'q u0'q u1'q u2'q ep'q h'q tk'q F'q N'q p1'q p2'q p3'q); (try dsimp only at N'q); (try simp only [List.cons_append, List.nil_append] at N'q); (try k_sweep); (try k_fold))) | fail)) | fail); (all_goals k_steps)) | ((fail_if_success (with_reducible refine Halt.go ?_)); (first | (k_here; (with_reducible show wpAny _ _ (eval (Expr.Name _ _) (compEnvC _ _ _ _)) _ _ _); k_dflt (refine' lcf_free ?Nv11 ?cv11 ?mv11 ?dv11 ?_ ?av11 ?bv11; (case av11 => rfl); (case bv11 => rfl); (case Nv11 => k_asm); (case cv11 => rfl); (case mv11 => assumption); (case dv11 => assumption); k_whole)) | fail); (all_goals k_steps)) | (refine' TestPost.mk ?tFv2 ?tNv2 ?tEv2; (case tFv2 => k_asm); (case tNv2 => k_asm); (case tEv2 => first | exact way_t (by omega) | exact way_f (by omega))))); all_goals first | exact none | exact Keep.mk (by k_asm) (news_sub (by k_asm) (by kcf_all)) ⟨_, hfl, rfl⟩ | exact Keep.mk (by k_asm) (news_sub (by k_asm) (by kcf_all)) trivial)
        | _ => (dsimp only [Flat.sort, Flat.seen] at m1; (k_steps; repeat' (first | ((with_reducible refine Halt.go ?_); (first | (k_here; k_dflt (refine src_range (by rfl) (by k_asm) (News.take (o := bagO _ _ _ _ _ _ _) (by k_asm) (by repeat (first | exact Take.here | apply Take.there))) (by assumption) (small_one (by omega) (by omega) (by omega) (by omega)) (rangeSize_nat _ _) (by rw [PySem.sizeLine_eq]; omega) ?_)) | (k_here; k_dflt (first | refine src_rangeT (by rfl) (by k_asm) (by k_asm) (by assumption) (small_one (by omega) (by omega) (by omega) (by omega)) (rangeSize_nat _ _) (by rw [PySem.sizeLine_eq]; omega) ?_ | refine src_listT (by rfl) (by k_asm) (by k_asm) (by k_mem) (by rw [PySem.sizeLine_eq]; simp only [List.size_toArray]; omega) ?_)) | (k_here; k_dflt (first | refine src_range (by rfl) (by k_asm) (by k_asm) (by assumption) (small_one (by omega) (by omega) (by omega) (by omega)) (rangeSize_nat _ _) (by rw [PySem.sizeLine_eq]; omega) ?_ | refine src_list (by rfl) (by k_asm) (by k_asm) (by k_mem) (by rw [PySem.sizeLine_eq]; simp only [List.size_toArray]; omega) ?_)) | (k_here; (with_reducible show wpAny _ _ (eval (Expr.ListComp _ [⟨_, _, [_], _⟩] _ _) _) _ _ _); k_dflt (refine LCt.ListComp_T (F₀ := by k_asm) (by with_unfolding_all rfl) (by decide) (by rfl) (by decide) (by rfl) ?_)) | (k_here; (with_reducible show wpAny _ _ (eval (Expr.ListComp _ [⟨_, _, [], _⟩] _ _) _) _ _ _); k_dflt (refine LCg.ListComp_U (F₀ := by k_asm) (by with_unfolding_all rfl) (by decide) (by rfl) (by decide) (by rfl) ?_)) | (k_here; (with_reducible show wpAny _ _ (exec (Stmt.Assign _ (Expr.ListComp _ [⟨_, _, [_], _⟩] _ _) _) _) _ _ _); k_dflt (refine LCt.Assign_ListComp_T (F₀ := by k_asm) (by rfl) (by with_unfolding_all rfl) (by with_unfolding_all rfl) (by decide) (by rfl) (by decide) (by rfl) (by rfl) (by rfl) ?_)) | (k_here; (with_reducible show wpAny _ _ (exec (Stmt.Assign _ (Expr.ListComp _ [⟨_, _, [], _⟩] _ _) _) _) _ _ _); k_dflt (refine LCg.Assign_ListComp_U (F₀ := by k_asm) (by rfl) (by with_unfolding_all rfl) (by with_unfolding_all rfl) (by decide) (by rfl) (by decide) (by rfl) (by rfl) (by rfl) ?_)) | ((with_reducible show wpAny _ _ (isTrue (PySem.Expr.BoolOp _ _ _) _ _) _ _ _); refine' join_way ?zwv1 ?zFv1 ?zNv1 ?ztv1 ?zkv1; (case zwv1 => assumption); (case zFv1 => k_asm); (case zNv1 => k_asm)) | ((with_reducible show wpAny _ _ (call _ _) _ _ _); (first | (k_here; k_dflt (refine' CallsTo.use1 ?kUv13 ((by assumption : Part1If _ _) (by omega) _ _ _ _ _ _ _ _ _ ?p1v13 ?p2v13 ?p3v13 ?p4v13 ?p5v13) ?k1v13 ?k2v13 ?k3v13 ?k4v13 ?k5v13 ?kHv13 ?kAv13 ?kFv13 ?kKv13 ?kdv13 ?kuv13 ?_; (case k1v13 => k_asm); (case k2v13 => k_asm); (case k3v13 => k_asm); (case k4v13 => k_asm); (case kUv13 => k_updF); (case k5v13 => k_asm); (case kHv13 => exact rfl); (case kAv13 => exact rfl); (case kFv13 => first | assumption | exact rfl); (case kKv13 => first | assumption | exact rfl); (case kdv13 => (walk_at "my room")); (case kuv13 => (walk_at "my room")); (case p1v13 => omega); (case p2v13 => omega); (case p3v13 => omega); (case p4v13 => omega); (case p5v13 => omega); k_whole; (intro r'q h'q tk'q o'q tl'q F'q N'q lt'q post'q); (obtain ⟨c0'q, c2'q, u0'q, u1'q, u2'q, ep'q, x'q, e3'q, p3'q, p4'q, p5'q, hf'q⟩ := post'q); subst e3'q; (try dsimp only at N'q); (try simp only [List.cons_append, List.nil_append] at N'q); (try k_sweep); (try k_fold))) | (k_here; k_dflt (refine' widths_use ?k1v4 ?k2v4 ?k3v4 ?k4v4 ?k5v4 ?kHv4 ?kAv4 ?kFv4 ?kKv4 ?kdv4 ?kuv4 ?_; (case k1v4 => k_asm); (case k2v4 => k_asm); (case k3v4 => k_asm); (case k4v4 => k_asm); (case k5v4 => k_asm); (case kHv4 => exact rfl); (case kAv4 => exact rfl); (case kFv4 => first | assumption | exact rfl); (case kKv4 => first | assumption | exact rfl); (case kdv4 => first | assumption | (walk_at "my room")); (case kuv4 => first | assumption | (walk_at "my room"));  k_whole; (intro at'q n'q vs'q h'q tk'q F'q N'q lt'q hi'q); (try simp only [LCg.Off1, and_true] at lt'q); (try k_sweep); (try k_fold))) | (k_here; k_dflt (refine' draw_bud ?kUv3 ?kbv3 ?k1v3 ?k2v3 ?k3v3 ?k4v3 ?k5v3 ?kHv3 ?kAv3 ?kFv3 ?kKv3 ?kdv3 ?kuv3 ?p6v3 ?p7v3 ?_; (case k1v3 => k_asm); (case k2v3 => k_asm); (case k3v3 => k_asm); (case k4v3 => k_asm); (case kUv3 => k_updF); (case k5v3 => k_asm); (case kHv3 => exact rfl); (case kAv3 => exact rfl); (case kFv3 => first | assumption | exact rfl); (case kKv3 => first | assumption | exact rfl); (case kdv3 => first | assumption | (walk_at "my room")); (case kuv3 => first | assumption | (walk_at "my room")); (case kbv3 => assumption); (case p6v3 => decide); (case p7v3 => decide); k_whole; (intro d'q td'q c0'q c2'q u0'q u1'q u2'q ep'q h'q tk'q F'q N'q p1'q p2'q p3'q); (try dsimp only at N'q); (try simp only [List.cons_append, List.nil_append] at N'q); (try k_sweep); (try k_fold))) | fail)) | fail); (all_goals k_steps)) | ((fail_if_success (with_reducible refine Halt.go ?_)); (first | (k_here; (with_reducible show wpAny _ _ (eval (Expr.Name _ _) (compEnvC _ _ _ _)) _ _ _); k_dflt (refine' lcf_free ?Nv11 ?cv11 ?mv11 ?dv11 ?_ ?av11 ?bv11; (case av11 => rfl); (case bv11 => rfl); (case Nv11 => k_asm); (case cv11 => rfl); (case mv11 => assumption); (case dv11 => assumption); k_whole)) | fail); (all_goals k_steps)) | (refine' TestPost.mk ?tFv2 ?tNv2 ?tEv2; (case tFv2 => k_asm); (case tNv2 => k_asm); (case tEv2 => first | exact way_t (by omega) | exact way_f (by omega))))); all_goals first | exact none | exact Keep.mk (by k_asm) (news_sub (by k_asm) (by kcf_all)) ⟨_, hfl, rfl⟩ | exact Keep.mk (by k_asm) (news_sub (by k_asm) (by kcf_all)) trivial)
      case fin2 =>
        intro zs cs hz hg hcl
        unfold LCg.FinE
        intro Dz hz' tkz Fz Nz oz
        (try dsimp only)
        (k_steps; repeat' (first | ((with_reducible refine Halt.go ?_); (first | (k_here; k_dflt (refine src_range (by rfl) (by k_asm) (News.take (o := bagO _ _ _ _ _ _ _) (by k_asm) (by repeat (first | exact Take.here | apply Take.there))) (by assumption) (small_one (by omega) (by omega) (by omega) (by omega)) (rangeSize_nat _ _) (by rw [PySem.sizeLine_eq]; omega) ?_)) | (k_here; k_dflt (first | refine src_rangeT (by rfl) (by k_asm) (by k_asm) (by assumption) (small_one (by omega) (by omega) (by omega) (by omega)) (rangeSize_nat _ _) (by rw [PySem.sizeLine_eq]; omega) ?_ | refine src_listT (by rfl) (by k_asm) (by k_asm) (by k_mem) (by rw [PySem.sizeLine_eq]; simp only [List.size_toArray]; omega) ?_)) | (k_here; k_dflt (first | refine src_range (by rfl) (by k_asm) (by k_asm) (by assumption) (small_one (by omega) (by omega) (by omega) (by omega)) (rangeSize_nat _ _) (by rw [PySem.sizeLine_eq]; omega) ?_ | refine src_list (by rfl) (by k_asm) (by k_asm) (by k_mem) (by rw [PySem.sizeLine_eq]; simp only [List.size_toArray]; omega) ?_)) | (k_here; (with_reducible show wpAny _ _ (eval (Expr.ListComp _ [⟨_, _, [_], _⟩] _ _) _) _ _ _); k_dflt (refine LCt.ListComp_T (F₀ := by k_asm) (by with_unfolding_all rfl) (by decide) (by rfl) (by decide) (by rfl) ?_)) | (k_here; (with_reducible show wpAny _ _ (eval (Expr.ListComp _ [⟨_, _, [], _⟩] _ _) _) _ _ _); k_dflt (refine LCg.ListComp_U (F₀ := by k_asm) (by with_unfolding_all rfl) (by decide) (by rfl) (by decide) (by rfl) ?_)) | (k_here; (with_reducible show wpAny _ _ (exec (Stmt.Assign _ (Expr.ListComp _ [⟨_, _, [_], _⟩] _ _) _) _) _ _ _); k_dflt (refine LCt.Assign_ListComp_T (F₀ := by k_asm) (by rfl) (by with_unfolding_all rfl) (by with_unfolding_all rfl) (by decide) (by rfl) (by decide) (by rfl) (by rfl) (by rfl) ?_)) | (k_here; (with_reducible show wpAny _ _ (exec (Stmt.Assign _ (Expr.ListComp _ [⟨_, _, [], _⟩] _ _) _) _) _ _ _); k_dflt (refine LCg.Assign_ListComp_U (F₀ := by k_asm) (by rfl) (by with_unfolding_all rfl) (by with_unfolding_all rfl) (by decide) (by rfl) (by decide) (by rfl) (by rfl) (by rfl) ?_)) | ((with_reducible show wpAny _ _ (isTrue (PySem.Expr.BoolOp _ _ _) _ _) _ _ _); refine' join_way ?zwv1 ?zFv1 ?zNv1 ?ztv1 ?zkv1; (case zwv1 => assumption); (case zFv1 => k_asm); (case zNv1 => k_asm)) | ((with_reducible show wpAny _ _ (call _ _) _ _ _); (first | (k_here; k_dflt (refine' CallsTo.use1 ?kUv13 ((by assumption : Part1If _ _) (by omega) _ _ _ _ _ _ _ _ _ ?p1v13 ?p2v13 ?p3v13 ?p4v13 ?p5v13) ?k1v13 ?k2v13 ?k3v13 ?k4v13 ?k5v13 ?kHv13 ?kAv13 ?kFv13 ?kKv13 ?kdv13 ?kuv13 ?_; (case k1v13 => k_asm); (case k2v13 => k_asm); (case k3v13 => k_asm); (case k4v13 => k_asm); (case kUv13 => k_updF); (case k5v13 => k_asm); (case kHv13 => exact rfl); (case kAv13 => exact rfl); (case kFv13 => first | assumption | exact rfl); (case kKv13 => first | assumption | exact rfl); (case kdv13 => (walk_at "my room")); (case kuv13 => (walk_at "my room")); (case p1v13 => omega); (case p2v13 => omega); (case p3v13 => omega); (case p4v13 => omega); (case p5v13 => omega); k_whole; (intro r'q h'q tk'q o'q tl'q F'q N'q lt'q post'q); (obtain ⟨c0'q, c2'q, u0'q, u1'q, u2'q, ep'q, x'q, e3'q, p3'q, p4'q, p5'q, hf'q⟩ := post'q); subst e3'q; (try dsimp only at N'q); (try simp only [List.cons_append, List.nil_append] at N'q); (try k_sweep); (try k_fold))) | (k_here; k_dflt (refine' widths_use ?k1v4 ?k2v4 ?k3v4 ?k4v4 ?k5v4 ?kHv4 ?kAv4 ?kFv4 ?kKv4 ?kdv4 ?kuv4 ?_; (case k1v4 => k_asm); (case k2v4 => k_asm); (case k3v4 => k_asm); (case k4v4 => k_asm); (case k5v4 => k_asm); (case kHv4 => exact rfl); (case kAv4 => exact rfl); (case kFv4 => first | assumption | exact rfl); (case kKv4 => first | assumption | exact rfl); (case kdv4 => first | assumption | (walk_at "my room")); (case kuv4 => first | assumption | (walk_at "my room"));  k_whole; (intro at'q n'q vs'q h'q tk'q F'q N'q lt'q hi'q); (try simp only [LCg.Off1, and_true] at lt'q); (try k_sweep); (try k_fold))) | (k_here; k_dflt (refine' draw_bud ?kUv3 ?kbv3 ?k1v3 ?k2v3 ?k3v3 ?k4v3 ?k5v3 ?kHv3 ?kAv3 ?kFv3 ?kKv3 ?kdv3 ?kuv3 ?p6v3 ?p7v3 ?_; (case k1v3 => k_asm); (case k2v3 => k_asm); (case k3v3 => k_asm); (case k4v3 => k_asm); (case kUv3 => k_updF); (case k5v3 => k_asm); (case kHv3 => exact rfl); (case kAv3 => exact rfl); (case kFv3 => first | assumption | exact rfl); (case kKv3 => first | assumption | exact rfl); (case kdv3 => first | assumption | (walk_at "my room")); (case kuv3 => first | assumption | (walk_at "my room")); (case kbv3 => assumption); (case p6v3 => decide); (case p7v3 => decide); k_whole; (intro d'q td'q c0'q c2'q u0'q u1'q u2'q ep'q h'q tk'q F'q N'q p1'q p2'q p3'q); (try dsimp only at N'q); (try simp only [List.cons_append, List.nil_append] at N'q); (try k_sweep); (try k_fold))) | fail)) | fail); (all_goals k_steps)) | ((fail_if_success (with_reducible refine Halt.go ?_)); (first | (k_here; (with_reducible show wpAny _ _ (eval (Expr.Name _ _) (compEnvC _ _ _ _)) _ _ _); k_dflt (refine' lcf_free ?Nv11 ?cv11 ?mv11 ?dv11 ?_ ?av11 ?bv11; (case av11 => rfl); (case bv11 => rfl); (case Nv11 => k_asm); (case cv11 => rfl); (case mv11 => assumption); (case dv11 => assumption); k_whole)) | fail); (all_goals k_steps)) | (refine' TestPost.mk ?tFv2 ?tNv2 ?tEv2; (case tFv2 => k_asm); (case tNv2 => k_asm); (case tEv2 => first | exact way_t (by omega) | exact way_f (by omega)))))
        refine' ret _ _ _ [(bag, bagO d0 b1 d2 v0 v1 v2 ep')] (_ :: _ :: tl) ?e1 ?e2 ?e3 ⟨_, rfl, d0, d2, v0, v1, v2, ep', .c cs, rfl, g0, g2, gM, fun h => absurd h (by assumption), ?f, fun h => absurd h (by assumption)⟩
        case e1 => k_asm
        case e2 =>
          refine news_sub (by k_asm) (List.forall_mem_append.mpr ⟨List.forall_mem_cons.mpr ⟨.head _, List.forall_mem_cons.mpr ⟨.tail _ (.head _), fun p hp => .tail _ (.tail _ (.tail _ (.tail _ (up p hp))))⟩⟩, List.forall_mem_append.mpr ⟨List.forall_mem_cons.mpr ⟨.tail _ (.tail _ (.tail _ (.head _))), List.forall_mem_nil _⟩, fun p hp => .tail _ (.tail _ (.tail _ (.tail _ ?_)))⟩⟩)
          rw [hfr]
          exact List.mem_append_right _ (.tail _ (.tail _ (.tail _ hp)))
        case e3 =>
          have sfr : ∀ p ∈ fr, p ∈ fr4 := by
            rw [hfr]
            exact fun p hp => List.mem_append_right _ (.tail _ (.tail _ (.tail _ hp)))
          refine List.forall_mem_cons.mpr ⟨⟨by first | (walk_at "my ne") | (show (_ : Nat) ≠ _; omega), off1_sub (off1_lt (by tbn_find)) sfr⟩, List.forall_mem_cons.mpr ⟨⟨oz.2.1, off1_sub oz.2.2 sfr⟩, fun q hq => ⟨Ne.symm (lt q hq).1, off1_sub (lt q hq).2 (fun p hp => .tail _ (.tail _ (.tail _ hp)))⟩⟩⟩
        case f =>
          exact ⟨hg, Nat.le_trans hcl (by simpa using hys), _, _, _, _, _, _, zs, rfl, .head _, .tail _ (.head _), hz.mono fun _ _ => FlatIn.mono fun p hp => .tail _ (.tail _ hp)⟩
  all_goals (refine' ret _ _ _ [(bag, _)] _ ?ye1 ?ye2 ?ye3 (part_post ?ya ?yf); (case ye1 => k_asm); (case ye2 => (refine' News.split (by k_asm) ?ysp; case ysp => (repeat (first | exact Split.here | apply Split.there)))); (case ye3 => walk_at "my ord"); (case ya => assumption); (case yf => (first | (refine' FlatIn.mkL ?flm1 ?flm2; (case flm1 => k_mem); (case flm2 => k_mem)) | (refine' FlatIn.mkG (s := false) ?flm1 ?flm2 ?flm3 ?flh ?fle; (case flm1 => k_mem); (case fle => first | exact rfl | exact beq_false_of_ne (by omega)); (case flm2 => k_mem); (case flm3 => k_mem); (case flh => (simp only [fits]; omega))) | (refine' FlatIn.mkG (s := true) ?flm1 ?flm2 ?flm3 ?flh ?fle; (case flm1 => k_mem); (case fle => first | exact rfl | exact beq_iff_eq.mpr (by omega)); (case flm2 => k_mem); (case flm3 => k_mem); (case flh => (simp only [fits]; omega))) | (refine' FlatIn.mkB ?flm1 ?flm2 ?flh; (case flm1 => k_mem); (case flm2 => k_mem); (case flh => (simp only [fits]; omega))) | (refine' FlatIn.mkR0 ?flm1 ?flm2; (case flm1 => k_mem); (case flm2 => k_mem)) | (refine' FlatIn.mkR ?flm1 ?flm2 ?flh; (case flm1 => k_mem); (case flm2 => k_mem); (case flh => (simp only [fits]; omega))) | (refine' FlatIn.mkK ?flm1 ?flm2 ?flh; (case flm1 => k_mem); (case flm2 => k_mem); (case flh => (simp only [fits]; omega))) | (refine' FlatIn.mkE ?flm1 ?flm2 ?flh; (case flm1 => k_mem); (case flm2 => k_mem); (case flh => (simp only [fits]; omega))) | (refine' FlatIn.mkP ?flm1 ?flm2; (case flm1 => k_mem); (case flm2 => k_mem)) | (refine' FlatIn.mkM ?flm1 ?flm2; (case flm1 => k_mem); (case flm2 => k_mem)))))
theorem part1 (w : World) : Part1 w := by
  intro bag b0 b1 b2 t0 t1 t2 ep td h0 h1 h1' h2 h2' fr off
  intro prog p loose mean mg mb A env outer A₀ base h₀ L m s Q E B F X N T hh hA hf hk hd hu ret
  refine part_gen w 1 5 100 (by omega) (by omega) (.inl (by omega)) (fun h => absurd h (by omega)) bag b0 b1 b2 t0 t1 t2 ep td h0 h1 h1' h2 h2' (.inl (by omega)) fr off prog p loose mean mg mb A env outer A₀ base h₀ L m s Q E B F X N T hh hA hf hk hd hu ?_
  rintro r h' tk' mu' tl F' N' lt ⟨o', e, c0, c2, u0, u1, u2, ep', x, e', p1, p2, _, p3, p4, p5⟩
  obtain ⟨y, rfl⟩ := p5 (by omega)
  exact ret r h' tk' mu' tl F' N' lt ⟨o', e, c0, c2, u0, u1, u2, ep', y, e', p1, p2, p3 (by omega), p4⟩
theorem part0 (w : World) (bag : Addr) (b0 b1 b2 : Int) (t0 t1 t2 : Tok) (ep : Nat) (td : Tok) (h0 : 0 ≤ b0) (h1 : 0 ≤ b1) (h1' : b1 < 2147483647) (h2 : 0 ≤ b2) (h2' : b2 < 800000) (fr : Led) (off : ∀ q ∈ fr, q.1 ≠ bag) :
    CallsTo w 738 [.ref bag, .int 0 td] [(bag, bagO b0 b1 b2 t0 t1 t2 ep)] fr 8 160
      (fun r mu' tl => ∃ o', mu' = [(bag, o')] ∧ ∃ c0 c2 u0 u1 u2 ep' x, o' = bagO c0 b1 c2 u0 u1 u2 ep' ∧ 0 ≤ c0 ∧ 0 ≤ c2 ∧ c2 ≤ b2 + 30 ∧ PartIn tl r x) := by
  intro prog p loose mean mg mb A env outer A₀ base h₀ L m s Q E B F X N T hh hA hf hk hd hu ret
  refine part_gen w 0 8 160 (by omega) (by omega) (.inr ⟨by omega, by omega⟩) (fun _ => part1 w) bag b0 b1 b2 t0 t1 t2 ep td h0 h1 h1' h2 (by omega) (.inr h2') fr off prog p loose mean mg mb A env outer A₀ base h₀ L m s Q E B F X N T hh hA hf hk hd hu ?_
  rintro r h' tk' mu' tl F' N' lt ⟨o', e, c0, c2, u0, u1, u2, ep', x, e', p1, p2, p3, _, p4, _⟩
  exact ret r h' tk' mu' tl F' N' lt ⟨o', e, c0, c2, u0, u1, u2, ep', x, e', p1, p2, p3, p4⟩
end
section
/-! the plain law: no program in sight -/
def mostI : Int := 1073741823
def Flat.width (x : Flat) : Int := x.w.getD 0
def Flat.moves (sign order : Int) (x : Flat) : Bool := match x with
  | .g _ _ st so sh ho => if sign = 0 then false else if sign = 1 then (st ≠ 0 && so = order) else (sh ≠ 0 && ho = order)
  | _ => false
def clampI (x : Int) : Int := max (-mostI) (min x mostI)
def reachGo (mv : Flat → Bool) : List Flat → Int → Int → Bool → Int
  | [], _, reach, _ => clampI reach
  | x :: l, far, reach, set => if x.seen && (set || mv x) then mostI else reachGo mv l (far + x.width) (if x.seen then far + x.width else reach) (set || mv x)
def idxOf (p : Flat → Bool) : List Flat → Nat → List Nat
  | [], _ => []
  | x :: l, k => if p x then k :: idxOf p l (k + 1) else idxOf p l (k + 1)
def sumW (l : List Flat) : Int := (l.map Flat.width).sum
def dueOf (mv : Flat → Bool) (l : List Flat) (a : Int) : Int :=
  match (idxOf Flat.seen l 0).getLast? with
  | none => -mostI
  | some j => match (idxOf mv l 0).head? with
    | some i => if i ≤ j then mostI else clampI (a + sumW (l.take (j + 1)))
    | none => clampI (a + sumW (l.take (j + 1)))
def hitOf (mv : Flat → Bool) : List Flat → Bool → Bool
  | [], _ => false
  | x :: l, set => (x.seen && (set || mv x)) || hitOf mv l (set || mv x)
def lastOf : List Flat → Int → Option Int
  | [], _ => none
  | x :: l, far => match lastOf l (far + x.width) with
    | some v => some v
    | none => if x.seen then some (far + x.width) else none
theorem reachGo_eq (mv : Flat → Bool) (l : List Flat) : ∀ (far reach : Int) (set : Bool), reachGo mv l far reach set = if hitOf mv l set then mostI else clampI ((lastOf l far).getD reach) := by
  induction l with
  | nil => intro far reach set; rfl
  | cons x l ih =>
    intro far reach set
    simp only [reachGo, hitOf, lastOf]
    by_cases h : (x.seen && (set || mv x)) = true
    · simp [h]
    · simp only [h, Bool.false_or, Bool.false_eq_true, if_false]
      rw [ih]
      split
      · rfl
      · cases lastOf l (far + x.width) with
        | some v => rfl
        | none => by_cases hs : x.seen = true <;> simp [hs]
theorem idxOf_ge (p : Flat → Bool) (l : List Flat) : ∀ k, ∀ i ∈ idxOf p l k, k ≤ i := by
  induction l with
  | nil => intro k i h; cases h
  | cons x l ih =>
    intro k i h
    simp only [idxOf] at h
    split at h
    · rcases List.mem_cons.mp h with rfl | h
      · exact Nat.le_refl _
      · have := ih _ _ h; omega
    · have := ih _ _ h; omega
theorem idxOf_lt (p : Flat → Bool) (l : List Flat) : ∀ k, ∀ i ∈ idxOf p l k, i < k + l.length := by
  induction l with
  | nil => intro k i h; cases h
  | cons x l ih =>
    intro k i h
    simp only [idxOf] at h
    simp only [List.length_cons]
    split at h
    · rcases List.mem_cons.mp h with rfl | h
      · omega
      · have := ih _ _ h; omega
    · have := ih _ _ h; omega
theorem lastOf_eq (l : List Flat) : ∀ (k : Nat) (far : Int), lastOf l far = (idxOf Flat.seen l k).getLast?.map fun j => far + sumW (l.take (j - k + 1)) := by
  induction l with
  | nil => intro k far; rfl
  | cons x l ih =>
    intro k far
    simp only [lastOf, idxOf]
    rw [ih (k + 1)]
    have hge := idxOf_ge Flat.seen l (k + 1)
    generalize idxOf Flat.seen l (k + 1) = S at hge
    cases hS : S.getLast? with
    | none =>
      have e : S = [] := by simpa using hS
      subst e
      by_cases hs : x.seen = true
      · simp [hs, sumW]
      · simp [hs]
    | some j =>
      have hj := hge j (List.mem_of_getLast? hS)
      have e : j - k + 1 = (j - (k + 1) + 1) + 1 := by omega
      have hl : (if x.seen = true then k :: S else S).getLast? = some j := by
        split
        · rw [List.getLast?_cons, hS]; rfl
        · exact hS
      simp only [Option.map_some, hl]
      rw [e, List.take_succ_cons]
      simp only [sumW, List.map_cons, List.sum_cons]
      congr 1; omega
theorem hit_true (mv : Flat → Bool) (l : List Flat) : ∀ k, hitOf mv l true = (idxOf Flat.seen l k).getLast?.isSome := by
  induction l with
  | nil => intro k; rfl
  | cons x l ih =>
    intro k
    simp only [hitOf, idxOf, Bool.true_or, Bool.and_true]
    rw [ih (k + 1)]
    by_cases hs : x.seen = true
    · simp [hs, List.getLast?_cons]
    · simp [hs]
theorem hit_false (mv : Flat → Bool) (l : List Flat) : ∀ k, hitOf mv l false = match (idxOf Flat.seen l k).getLast? with
    | none => false
    | some j => match (idxOf mv l k).head? with
      | some i => decide (i ≤ j)
      | none => false := by
  induction l with
  | nil => intro k; rfl
  | cons x l ih =>
    intro k
    have hge := idxOf_ge Flat.seen l (k + 1)
    have hgm := idxOf_ge mv l (k + 1)
    simp only [hitOf, idxOf, Bool.false_or]
    by_cases hm : mv x = true
    · rw [hm, hit_true mv l (k + 1)]
      simp only [if_true, List.head?_cons, Bool.and_true]
      cases hS : (idxOf Flat.seen l (k + 1)).getLast? with
      | none =>
        have e : idxOf Flat.seen l (k + 1) = [] := by simpa using hS
        by_cases hs : x.seen = true <;> simp [hs, e]
      | some j =>
        have hj := hge j (List.mem_of_getLast? hS)
        by_cases hs : x.seen = true
        · simp [hs, List.getLast?_cons, hS]; omega
        · simp [hs, hS]; omega
    · have hm' : mv x = false := by simpa using hm
      rw [hm', ih (k + 1)]
      simp only [Bool.and_false, Bool.false_or, Bool.false_eq_true, if_false]
      cases hS : (idxOf Flat.seen l (k + 1)).getLast? with
      | none =>
        have e : idxOf Flat.seen l (k + 1) = [] := by simpa using hS
        by_cases hs : x.seen = true
        · simp only [hs, if_true, e, List.getLast?_singleton]
          cases hM : (idxOf mv l (k + 1)).head? with
          | none => rfl
          | some i =>
            have := hgm i (List.mem_of_head? hM)
            simp; omega
        · simp [hs, e]
      | some j =>
        by_cases hs : x.seen = true <;> simp [hs, List.getLast?_cons, hS]
theorem plain_law (mv : Flat → Bool) (l : List Flat) (a : Int) : reachGo mv l a (-mostI) false = dueOf mv l a := by
  rw [reachGo_eq, hit_false mv l 0, lastOf_eq l 0]
  unfold dueOf
  cases (idxOf Flat.seen l 0).getLast? with
  | none => rfl
  | some j =>
    cases (idxOf mv l 0).head? with
    | none => simp
    | some i => by_cases h : i ≤ j <;> simp [h]
def flatP : Part → List Flat
  | .f x => [x]
  | .c xs => xs
def flats (ps : List Part) : List Flat := ps.flatMap flatP
end
section
abbrev Pure (w : World) (f : Addr) (args : List Value) (dd uu : Nat) (v : Value) : Prop := ∀ fr, CallsTo w f args [] fr dd uu (fun r mu' tl => mu' = [] ∧ tl = [] ∧ r = v)
theorem is_whole_calls (w : World) (v lo hi : Int) (t1 t2 t3 : Tok) (h1 : lo ≤ v) (h2 : v ≤ hi) : Pure w 101 [.int v t1, .int lo t2, .int hi t3] 2 24 (.bool true) := by
  intro fr
  intro prog p loose mean mg mb A env outer A₀ base h₀ L m s Q E B F X N T hh hA hf hk hd hu ret; obtain ⟨hd0, dp, frm, gd, un⟩ := A; dsimp only at hh hA hd hu; subst hh hA; have hSt := StK.mk s.gens s.drawn s.os; (try simp only [List.cons_append, List.nil_append] at N); refine wpAny_call ?_
  k_dflt (refine' code_def ?k1 ?k2 ?k3 ?k4 ?k5 ?kA ?kF ?kK ?k6 ?k7 ?k8 ?k9 ?kB ?_ ?c2 ?c3 ?c4 ?c5; (case kA => exact rfl); (case kF => first | assumption | exact rfl); (case kK => first | assumption | exact rfl); (case k1 => k_asm); (case k2 => k_asm); (case k3 => k_asm); (case k4 => k_asm); (case k5 => k_asm); (case k6 => k_is); (case k7 => k_is); (case k8 => (walk_at "my room")); (case k9 => first | exact BindsTo.of_eq rfl | exact binds_K (by k_in) rfl (by k_is) rfl rfl rfl); (case c5 => decide); (case kB => exact locs rfl); (case c2 => exact rfl); (case c3 => exact rfl); (case c4 => exact rfl); k_whole; intro g' L' h' FG' F' N' B' X' T'; (try dsimp only at N'); (try dsimp only); (try k_fold))
  k_steps
  all_goals (refine' ret _ _ _ [] [] ?e1 ?e2 lt_tl0 ⟨rfl, rfl, ?e4⟩; (case e1 => k_asm); (case e2 => k_asm); (case e4 => first | exact rfl | exact congrArg Value.bool (decide_eq_true (by omega)) | exact congrArg (fun i => Value.int i _) (by omega)))
theorem check_whole_calls (w : World) (v : Int) (t1 : Tok) : Pure w 108 [.int v t1] 2 24 (.int v t1) := by
  intro fr
  intro prog p loose mean mg mb A env outer A₀ base h₀ L m s Q E B F X N T hh hA hf hk hd hu ret; obtain ⟨hd0, dp, frm, gd, un⟩ := A; dsimp only at hh hA hd hu; subst hh hA; have hSt := StK.mk s.gens s.drawn s.os; (try simp only [List.cons_append, List.nil_append] at N); refine wpAny_call ?_
  k_dflt (refine' code_def ?k1 ?k2 ?k3 ?k4 ?k5 ?kA ?kF ?kK ?k6 ?k7 ?k8 ?k9 ?kB ?_ ?c2 ?c3 ?c4 ?c5; (case kA => exact rfl); (case kF => first | assumption | exact rfl); (case kK => first | assumption | exact rfl); (case k1 => k_asm); (case k2 => k_asm); (case k3 => k_asm); (case k4 => k_asm); (case k5 => k_asm); (case k6 => k_is); (case k7 => k_is); (case k8 => (walk_at "my room")); (case k9 => first | exact BindsTo.of_eq rfl | exact binds_K (by k_in) rfl (by k_is) rfl rfl rfl); (case c5 => decide); (case kB => exact locs rfl); (case c2 => exact rfl); (case c3 => exact rfl); (case c4 => exact rfl); k_whole; intro g' L' h' FG' F' N' B' X' T'; (try dsimp only at N'); (try dsimp only); (try k_fold))
  k_steps
  all_goals (refine' ret _ _ _ [] [] ?e1 ?e2 lt_tl0 ⟨rfl, rfl, ?e4⟩; (case e1 => k_asm); (case e2 => k_asm); (case e4 => first | exact rfl | exact congrArg Value.bool (decide_eq_true (by omega)) | exact congrArg (fun i => Value.int i _) (by omega)))
section
local macro_rules | `(tactic| walk_at "call ref") => `(tactic| refine halt_of ?_)
theorem check_number_calls (w : World) (v : Int) (t1 : Tok) (h1 : -2147483647 ≤ v) (h2 : v ≤ 2147483647) : Pure w 115 [.int v t1] 4 60 (.int v t1) := by
  intro fr
  intro prog p loose mean mg mb A env outer A₀ base h₀ L m s Q E B F X N T hh hA hf hk hd hu ret; obtain ⟨hd0, dp, frm, gd, un⟩ := A; dsimp only at hh hA hd hu; subst hh hA; have hSt := StK.mk s.gens s.drawn s.os; (try simp only [List.cons_append, List.nil_append] at N); refine wpAny_call ?_
  k_dflt (refine' code_def ?k1 ?k2 ?k3 ?k4 ?k5 ?kA ?kF ?kK ?k6 ?k7 ?k8 ?k9 ?kB ?_ ?c2 ?c3 ?c4 ?c5; (case kA => exact rfl); (case kF => first | assumption | exact rfl); (case kK => first | assumption | exact rfl); (case k1 => k_asm); (case k2 => k_asm); (case k3 => k_asm); (case k4 => k_asm); (case k5 => k_asm); (case k6 => k_is); (case k7 => k_is); (case k8 => (walk_at "my room")); (case k9 => first | exact BindsTo.of_eq rfl | exact binds_K (by k_in) rfl (by k_is) rfl rfl rfl); (case c5 => decide); (case kB => exact locs rfl); (case c2 => exact rfl); (case c3 => exact rfl); (case c4 => exact rfl); k_whole; intro g' L' h' FG' F' N' B' X' T'; (try dsimp only at N'); (try dsimp only); (try k_fold))
  (k_steps; repeat' ((with_reducible refine Halt.go ?_); (first | ((with_reducible show wpAny _ _ (call _ _) _ _ _); (first | (k_here; k_dflt (refine' CallsTo.useP (check_whole_calls _ _ _ ) ?k1v15 ?k2v15 ?k3v15 ?k4v15 ?k5v15 ?kHv15 ?kAv15 ?kFv15 ?kKv15 ?kdv15 ?kuv15 ?_; (case k1v15 => k_asm); (case k2v15 => k_asm); (case k3v15 => k_asm); (case k4v15 => k_asm); (case k5v15 => k_asm); (case kHv15 => exact rfl); (case kAv15 => exact rfl); (case kFv15 => first | assumption | exact rfl); (case kKv15 => first | assumption | exact rfl); (case kdv15 => (walk_at "my room")); (case kuv15 => (walk_at "my room"));  k_whole; (intro h'q tk'q F'q N'q); (try k_sweep); (try k_fold))) | (k_here; k_dflt (refine' CallsTo.useP (is_whole_calls _ _ _ _ _ _ _ ?p1v14 ?p2v14) ?k1v14 ?k2v14 ?k3v14 ?k4v14 ?k5v14 ?kHv14 ?kAv14 ?kFv14 ?kKv14 ?kdv14 ?kuv14 ?_; (case k1v14 => k_asm); (case k2v14 => k_asm); (case k3v14 => k_asm); (case k4v14 => k_asm); (case k5v14 => k_asm); (case kHv14 => exact rfl); (case kAv14 => exact rfl); (case kFv14 => first | assumption | exact rfl); (case kKv14 => first | assumption | exact rfl); (case kdv14 => (walk_at "my room")); (case kuv14 => (walk_at "my room")); (case p1v14 => omega); (case p2v14 => omega); k_whole; (intro h'q tk'q F'q N'q); (try k_sweep); (try k_fold))) | fail)) | fail); (all_goals k_steps)))
  all_goals (refine' ret _ _ _ [] [] ?e1 ?e2 lt_tl0 ⟨rfl, rfl, ?e4⟩; (case e1 => k_asm); (case e2 => k_asm); (case e4 => first | exact rfl | exact congrArg Value.bool (decide_eq_true (by omega)) | exact congrArg (fun i => Value.int i _) (by omega)))
theorem check_dimen_calls (w : World) (v : Int) (t1 : Tok) (h1 : -1073741823 ≤ v) (h2 : v ≤ 1073741823) : Pure w 122 [.int v t1] 4 60 (.int v t1) := by
  intro fr
  intro prog p loose mean mg mb A env outer A₀ base h₀ L m s Q E B F X N T hh hA hf hk hd hu ret; obtain ⟨hd0, dp, frm, gd, un⟩ := A; dsimp only at hh hA hd hu; subst hh hA; have hSt := StK.mk s.gens s.drawn s.os; (try simp only [List.cons_append, List.nil_append] at N); refine wpAny_call ?_
  k_dflt (refine' code_def ?k1 ?k2 ?k3 ?k4 ?k5 ?kA ?kF ?kK ?k6 ?k7 ?k8 ?k9 ?kB ?_ ?c2 ?c3 ?c4 ?c5; (case kA => exact rfl); (case kF => first | assumption | exact rfl); (case kK => first | assumption | exact rfl); (case k1 => k_asm); (case k2 => k_asm); (case k3 => k_asm); (case k4 => k_asm); (case k5 => k_asm); (case k6 => k_is); (case k7 => k_is); (case k8 => (walk_at "my room")); (case k9 => first | exact BindsTo.of_eq rfl | exact binds_K (by k_in) rfl (by k_is) rfl rfl rfl); (case c5 => decide); (case kB => exact locs rfl); (case c2 => exact rfl); (case c3 => exact rfl); (case c4 => exact rfl); k_whole; intro g' L' h' FG' F' N' B' X' T'; (try dsimp only at N'); (try dsimp only); (try k_fold))
  (k_steps; repeat' ((with_reducible refine Halt.go ?_); (first | ((with_reducible show wpAny _ _ (call _ _) _ _ _); (first | (k_here; k_dflt (refine' CallsTo.useP (check_whole_calls _ _ _ ) ?k1v15 ?k2v15 ?k3v15 ?k4v15 ?k5v15 ?kHv15 ?kAv15 ?kFv15 ?kKv15 ?kdv15 ?kuv15 ?_; (case k1v15 => k_asm); (case k2v15 => k_asm); (case k3v15 => k_asm); (case k4v15 => k_asm); (case k5v15 => k_asm); (case kHv15 => exact rfl); (case kAv15 => exact rfl); (case kFv15 => first | assumption | exact rfl); (case kKv15 => first | assumption | exact rfl); (case kdv15 => (walk_at "my room")); (case kuv15 => (walk_at "my room"));  k_whole; (intro h'q tk'q F'q N'q); (try k_sweep); (try k_fold))) | (k_here; k_dflt (refine' CallsTo.useP (is_whole_calls _ _ _ _ _ _ _ ?p1v14 ?p2v14) ?k1v14 ?k2v14 ?k3v14 ?k4v14 ?k5v14 ?kHv14 ?kAv14 ?kFv14 ?kKv14 ?kdv14 ?kuv14 ?_; (case k1v14 => k_asm); (case k2v14 => k_asm); (case k3v14 => k_asm); (case k4v14 => k_asm); (case k5v14 => k_asm); (case kHv14 => exact rfl); (case kAv14 => exact rfl); (case kFv14 => first | assumption | exact rfl); (case kKv14 => first | assumption | exact rfl); (case kdv14 => (walk_at "my room")); (case kuv14 => (walk_at "my room")); (case p1v14 => omega); (case p2v14 => omega); k_whole; (intro h'q tk'q F'q N'q); (try k_sweep); (try k_fold))) | fail)) | fail); (all_goals k_steps)))
  all_goals (refine' ret _ _ _ [] [] ?e1 ?e2 lt_tl0 ⟨rfl, rfl, ?e4⟩; (case e1 => k_asm); (case e2 => k_asm); (case e4 => first | exact rfl | exact congrArg Value.bool (decide_eq_true (by omega)) | exact congrArg (fun i => Value.int i _) (by omega)))
theorem check_code_calls (w : World) (v : Int) (t1 : Tok) (h1 : 0 ≤ v) (h2 : v ≤ 255) : Pure w 260 [.int v t1] 4 60 (.int v t1) := by
  intro fr
  intro prog p loose mean mg mb A env outer A₀ base h₀ L m s Q E B F X N T hh hA hf hk hd hu ret; obtain ⟨hd0, dp, frm, gd, un⟩ := A; dsimp only at hh hA hd hu; subst hh hA; have hSt := StK.mk s.gens s.drawn s.os; (try simp only [List.cons_append, List.nil_append] at N); refine wpAny_call ?_
  k_dflt (refine' code_def ?k1 ?k2 ?k3 ?k4 ?k5 ?kA ?kF ?kK ?k6 ?k7 ?k8 ?k9 ?kB ?_ ?c2 ?c3 ?c4 ?c5; (case kA => exact rfl); (case kF => first | assumption | exact rfl); (case kK => first | assumption | exact rfl); (case k1 => k_asm); (case k2 => k_asm); (case k3 => k_asm); (case k4 => k_asm); (case k5 => k_asm); (case k6 => k_is); (case k7 => k_is); (case k8 => (walk_at "my room")); (case k9 => first | exact BindsTo.of_eq rfl | exact binds_K (by k_in) rfl (by k_is) rfl rfl rfl); (case c5 => decide); (case kB => exact locs rfl); (case c2 => exact rfl); (case c3 => exact rfl); (case c4 => exact rfl); k_whole; intro g' L' h' FG' F' N' B' X' T'; (try dsimp only at N'); (try dsimp only); (try k_fold))
  (k_steps; repeat' ((with_reducible refine Halt.go ?_); (first | ((with_reducible show wpAny _ _ (call _ _) _ _ _); (first | (k_here; k_dflt (refine' CallsTo.useP (check_whole_calls _ _ _ ) ?k1v15 ?k2v15 ?k3v15 ?k4v15 ?k5v15 ?kHv15 ?kAv15 ?kFv15 ?kKv15 ?kdv15 ?kuv15 ?_; (case k1v15 => k_asm); (case k2v15 => k_asm); (case k3v15 => k_asm); (case k4v15 => k_asm); (case k5v15 => k_asm); (case kHv15 => exact rfl); (case kAv15 => exact rfl); (case kFv15 => first | assumption | exact rfl); (case kKv15 => first | assumption | exact rfl); (case kdv15 => (walk_at "my room")); (case kuv15 => (walk_at "my room"));  k_whole; (intro h'q tk'q F'q N'q); (try k_sweep); (try k_fold))) | (k_here; k_dflt (refine' CallsTo.useP (is_whole_calls _ _ _ _ _ _ _ ?p1v14 ?p2v14) ?k1v14 ?k2v14 ?k3v14 ?k4v14 ?k5v14 ?kHv14 ?kAv14 ?kFv14 ?kKv14 ?kdv14 ?kuv14 ?_; (case k1v14 => k_asm); (case k2v14 => k_asm); (case k3v14 => k_asm); (case k4v14 => k_asm); (case k5v14 => k_asm); (case kHv14 => exact rfl); (case kAv14 => exact rfl); (case kFv14 => first | assumption | exact rfl); (case kKv14 => first | assumption | exact rfl); (case kdv14 => (walk_at "my room")); (case kuv14 => (walk_at "my room")); (case p1v14 => omega); (case p2v14 => omega); k_whole; (intro h'q tk'q F'q N'q); (try k_sweep); (try k_fold))) | fail)) | fail); (all_goals k_steps)))
  all_goals (refine' ret _ _ _ [] [] ?e1 ?e2 lt_tl0 ⟨rfl, rfl, ?e4⟩; (case e1 => k_asm); (case e2 => k_asm); (case e4 => first | exact rfl | exact congrArg Value.bool (decide_eq_true (by omega)) | exact congrArg (fun i => Value.int i _) (by omega)))
theorem is_size_calls (w : World) (v : Int) (t1 : Tok) (h1 : -1073741823 ≤ v) (h2 : v ≤ 1073741823) : Pure w 544 [.int v t1] 4 60 (.bool true) := by
  intro fr
  intro prog p loose mean mg mb A env outer A₀ base h₀ L m s Q E B F X N T hh hA hf hk hd hu ret; obtain ⟨hd0, dp, frm, gd, un⟩ := A; dsimp only at hh hA hd hu; subst hh hA; have hSt := StK.mk s.gens s.drawn s.os; (try simp only [List.cons_append, List.nil_append] at N); refine wpAny_call ?_
  k_dflt (refine' code_def ?k1 ?k2 ?k3 ?k4 ?k5 ?kA ?kF ?kK ?k6 ?k7 ?k8 ?k9 ?kB ?_ ?c2 ?c3 ?c4 ?c5; (case kA => exact rfl); (case kF => first | assumption | exact rfl); (case kK => first | assumption | exact rfl); (case k1 => k_asm); (case k2 => k_asm); (case k3 => k_asm); (case k4 => k_asm); (case k5 => k_asm); (case k6 => k_is); (case k7 => k_is); (case k8 => (walk_at "my room")); (case k9 => first | exact BindsTo.of_eq rfl | exact binds_K (by k_in) rfl (by k_is) rfl rfl rfl); (case c5 => decide); (case kB => exact locs rfl); (case c2 => exact rfl); (case c3 => exact rfl); (case c4 => exact rfl); k_whole; intro g' L' h' FG' F' N' B' X' T'; (try dsimp only at N'); (try dsimp only); (try k_fold))
  (k_steps; repeat' ((with_reducible refine Halt.go ?_); (first | ((with_reducible show wpAny _ _ (call _ _) _ _ _); (first | (k_here; k_dflt (refine' CallsTo.useP (check_whole_calls _ _ _ ) ?k1v15 ?k2v15 ?k3v15 ?k4v15 ?k5v15 ?kHv15 ?kAv15 ?kFv15 ?kKv15 ?kdv15 ?kuv15 ?_; (case k1v15 => k_asm); (case k2v15 => k_asm); (case k3v15 => k_asm); (case k4v15 => k_asm); (case k5v15 => k_asm); (case kHv15 => exact rfl); (case kAv15 => exact rfl); (case kFv15 => first | assumption | exact rfl); (case kKv15 => first | assumption | exact rfl); (case kdv15 => (walk_at "my room")); (case kuv15 => (walk_at "my room"));  k_whole; (intro h'q tk'q F'q N'q); (try k_sweep); (try k_fold))) | (k_here; k_dflt (refine' CallsTo.useP (is_whole_calls _ _ _ _ _ _ _ ?p1v14 ?p2v14) ?k1v14 ?k2v14 ?k3v14 ?k4v14 ?k5v14 ?kHv14 ?kAv14 ?kFv14 ?kKv14 ?kdv14 ?kuv14 ?_; (case k1v14 => k_asm); (case k2v14 => k_asm); (case k3v14 => k_asm); (case k4v14 => k_asm); (case k5v14 => k_asm); (case kHv14 => exact rfl); (case kAv14 => exact rfl); (case kFv14 => first | assumption | exact rfl); (case kKv14 => first | assumption | exact rfl); (case kdv14 => (walk_at "my room")); (case kuv14 => (walk_at "my room")); (case p1v14 => omega); (case p2v14 => omega); k_whole; (intro h'q tk'q F'q N'q); (try k_sweep); (try k_fold))) | fail)) | fail); (all_goals k_steps)))
  all_goals (refine' ret _ _ _ [] [] ?e1 ?e2 lt_tl0 ⟨rfl, rfl, ?e4⟩; (case e1 => k_asm); (case e2 => k_asm); (case e4 => first | exact rfl | exact congrArg Value.bool (decide_eq_true (by omega)) | exact congrArg (fun i => Value.int i _) (by omega)))
theorem check_depth_calls (w : World) (v : Int) (t1 : Tok) (h2 : v ≤ 60) : Pure w 484 [.int v t1] 2 24 .none := by
  intro fr
  intro prog p loose mean mg mb A env outer A₀ base h₀ L m s Q E B F X N T hh hA hf hk hd hu ret; obtain ⟨hd0, dp, frm, gd, un⟩ := A; dsimp only at hh hA hd hu; subst hh hA; have hSt := StK.mk s.gens s.drawn s.os; (try simp only [List.cons_append, List.nil_append] at N); refine wpAny_call ?_
  k_dflt (refine' code_def ?k1 ?k2 ?k3 ?k4 ?k5 ?kA ?kF ?kK ?k6 ?k7 ?k8 ?k9 ?kB ?_ ?c2 ?c3 ?c4 ?c5; (case kA => exact rfl); (case kF => first | assumption | exact rfl); (case kK => first | assumption | exact rfl); (case k1 => k_asm); (case k2 => k_asm); (case k3 => k_asm); (case k4 => k_asm); (case k5 => k_asm); (case k6 => k_is); (case k7 => k_is); (case k8 => (walk_at "my room")); (case k9 => first | exact BindsTo.of_eq rfl | exact binds_K (by k_in) rfl (by k_is) rfl rfl rfl); (case c5 => decide); (case kB => exact locs rfl); (case c2 => exact rfl); (case c3 => exact rfl); (case c4 => exact rfl); k_whole; intro g' L' h' FG' F' N' B' X' T'; (try dsimp only at N'); (try dsimp only); (try k_fold))
  (k_steps; repeat' ((with_reducible refine Halt.go ?_); (first | ((with_reducible show wpAny _ _ (call _ _) _ _ _); (first | (k_here; k_dflt (refine' CallsTo.useP (check_whole_calls _ _ _ ) ?k1v15 ?k2v15 ?k3v15 ?k4v15 ?k5v15 ?kHv15 ?kAv15 ?kFv15 ?kKv15 ?kdv15 ?kuv15 ?_; (case k1v15 => k_asm); (case k2v15 => k_asm); (case k3v15 => k_asm); (case k4v15 => k_asm); (case k5v15 => k_asm); (case kHv15 => exact rfl); (case kAv15 => exact rfl); (case kFv15 => first | assumption | exact rfl); (case kKv15 => first | assumption | exact rfl); (case kdv15 => (walk_at "my room")); (case kuv15 => (walk_at "my room"));  k_whole; (intro h'q tk'q F'q N'q); (try k_sweep); (try k_fold))) | (k_here; k_dflt (refine' CallsTo.useP (is_whole_calls _ _ _ _ _ _ _ ?p1v14 ?p2v14) ?k1v14 ?k2v14 ?k3v14 ?k4v14 ?k5v14 ?kHv14 ?kAv14 ?kFv14 ?kKv14 ?kdv14 ?kuv14 ?_; (case k1v14 => k_asm); (case k2v14 => k_asm); (case k3v14 => k_asm); (case k4v14 => k_asm); (case k5v14 => k_asm); (case kHv14 => exact rfl); (case kAv14 => exact rfl); (case kFv14 => first | assumption | exact rfl); (case kKv14 => first | assumption | exact rfl); (case kdv14 => (walk_at "my room")); (case kuv14 => (walk_at "my room")); (case p1v14 => omega); (case p2v14 => omega); k_whole; (intro h'q tk'q F'q N'q); (try k_sweep); (try k_fold))) | fail)) | fail); (all_goals k_steps)))
  all_goals (refine' ret _ _ _ [] [] ?e1 ?e2 lt_tl0 ⟨rfl, rfl, ?e4⟩; (case e1 => k_asm); (case e2 => k_asm); (case e4 => first | exact rfl | exact congrArg Value.bool (decide_eq_true (by omega)) | exact congrArg (fun i => Value.int i _) (by omega)))
end
end
section
section
open PySem.SeqAt PySem.MeetsSeq
open AutoSeq1 (wpAny_loadPart')
set_option maxHeartbeats 2000000 in
theorem tuple_idx (l : Addr) (n : Nat) (a b c d : Tok) (v : Int) (t : Tok) (i : Nat) (hi : i < 4) (hv : v = menuL.getD i 0) :
    Meets (Builtin.«tuple.index» ⟨[.ref l, .int v t], []⟩)
      (fun A R s => s.heap.get? l = some (tupO [.int 120 a, .int 0 b, .int 401 c, .int (-35) d] n) ∧ R (.ok (.ret (.int i s.toks))) { s with toks := s.toks + 1 }) :=
  .of_wp fun prog w A R s h => by
    obtain ⟨hp, g, dd, tk, os⟩ := s; obtain ⟨hl, h⟩ := h
    have hj : i = 0 ∨ i = 1 ∨ i = 2 ∨ i = 3 := by omega
    unfold Builtin.«tuple.index»
    simp only [Std.Legacy.Range.forIn_eq_forIn_range']
    have er : List.range' 0 (min 4 4 - 0 + 1 - 1) = [0, 1, 2, 3] := rfl
    rcases hj with rfl | rfl | rfl | rfl
    all_goals (have hv' : v = _ := hv.trans (by simp only [menuL, List.getD_cons_zero, List.getD_cons_succ]; rfl); subst hv')
    all_goals (wp_walk using wpAny_loadPart' hl)
    all_goals (simp only [List.range', Std.Legacy.Range.size, List.size_toArray, List.length_cons, List.length_nil, Nat.min_self, Nat.sub_zero, Nat.add_sub_cancel, Nat.div_one, Nat.zero_add, Nat.reduceAdd, List.forIn'.loop, List.getElem?_toArray, List.getElem?_cons_zero, List.getElem?_cons_succ])
    all_goals (wp_walk using wpAny_eqBool_int)
    all_goals first | exact ⟨_, rfl, h⟩
end
section
variable {prog : Program} {w : World} {A : Around} {E : Value → Shared → Prop} {s : Shared} {h₀ : Heap} {L D : Addr} {news : Led}
theorem tup_index_m {vs : List Value} {n : Nat} {pl : Sem Bool} {Q : Value × List Value → Shared → Prop} (N : News h₀ L s.heap news) (hm : (D, tupO vs n) ∈ news)
    (h : Q (.builtin "tuple.index", [.ref D]) s) : wpAny (model prog w) A (getMethod (.ref D) (Str.ofString "index") pl) Q E s :=
  getMethod_builtin ⟨_, (N _ hm).1, rfl⟩ PySem.F.plainAttrs_tuple PySem.F.slot_tuple_index PySem.F.type_tuple_index (fun a e => by cases e; exact ⟨_, (N _ hm).1, rfl⟩) h
theorem tup_index_c {n : Nat} {a b c d t : Tok} {v : Int} {i : Nat} {Q : Value → Shared → Prop} (N : News h₀ L s.heap news) (hm : (D, tupO [.int 120 a, .int 0 b, .int 401 c, .int (-35) d] n) ∈ news) (hi : i < 4) (hv : v = menuL.getD i 0)
    (h : Q (.int i s.toks) { s with toks := s.toks + 1 }) : wpAny (model prog w) A (call (.builtin "tuple.index") [.ref D, .int v t]) Q E s :=
  call_meets PySem.F.slot_tuple_index ⟨_, (N _ hm).1, rfl⟩ PySem.F.entry_tuple_index (PySem.F.args_tuple_index_2 _ _) (tuple_idx D n a b c d v t i hi hv) ⟨(N _ hm).1, h⟩
end
end
section
theorem gen_tk {M : Model} {A : Around} {α : Type} {t : Sem α} {Q : α → Shared → Prop} {E : Value → Shared → Prop} {h : Heap} {g : Array GenState} {d : Drawn} {tk : Nat} {os : OsState} (k : ∀ tk', wpAny M A t Q E ⟨h, g, d, tk', os⟩) : wpAny M A t Q E ⟨h, g, d, tk, os⟩ := k tk
inductive Ents (P : Params) : List DictEntry → List (Str × Value) → Prop
  | nil : Ents P [] []
  | cons (k : Str) (t : Tok) (v : Value) {es : List DictEntry} {fs : List (Str × Value)} : Ents P es fs → Ents P (⟨PyData.keyHash P k, .str k t, v⟩ :: es) ((k, v) :: fs)
def Inst (P : Params) (led : Led) (C : Addr) (fs : List (Str × Value)) (v : Value) : Prop :=
  ∃ x d es n, v = .ref x ∧ (x, instObj C d) ∈ led ∧ (d, dictOf es n) ∈ led ∧ Ents P es fs
theorem Inst.mono {P : Params} {l l' : Led} (s : ∀ p ∈ l, p ∈ l') {C : Addr} {fs : List (Str × Value)} {v : Value} (h : Inst P l C fs v) : Inst P l' C fs v := by
  obtain ⟨x, d, es, n, e, m1, m2, E⟩ := h
  exact ⟨x, d, es, n, e, s _ m1, s _ m2, E⟩
def GlueIn (P : Params) (led : Led) (gw st so sh ho : Int) (v : Value) : Prop :=
  ∃ t1 t2 t3 t4 t5, Inst P led 225 [("width", .int gw t1), ("stretch", .int st t2), ("stretch_order", .int so t3), ("shrink", .int sh t4), ("shrink_order", .int ho t5)] v
def RuleIn (P : Params) (led : Led) (ow od : Option Int) (v : Value) : Prop :=
  ∃ wv t2 dv, WidthV wv ow ∧ WidthV dv od ∧ Inst P led 346 [("width", wv), ("height", .int 3 t2), ("depth", dv)] v
def BoxIn (P : Params) (led : Led) (w sh sg od r1 r2 : Int) (its : List Value) (v : Value) : Prop :=
  ∃ t0 t1 t2 t3 t4 t5 t6 t7 t8 la lk ra rk, Inst P led 325 [("kind", .int 2 t0), ("width", .int w t1), ("height", .int 5 t2), ("depth", .int 0 t3), ("items", .ref la), ("shift", .int sh t4), ("sign", .int sg t5), ("order", .int od t6), ("ratio", .ref ra)] v ∧
    (la, listOf its.toArray lk) ∈ led ∧ (ra, tupO [.int r1 t7, .int r2 t8] rk) ∈ led
def CharIn (P : Params) (led : Led) (font : Addr) (c : Int) (v : Value) : Prop := ∃ t, Inst P led 284 [("font", .ref font), ("code", .int c t)] v
def LigIn (P : Params) (led : Led) (font : Addr) (c : Int) (v : Value) : Prop := ∃ t ta tb pa n, Inst P led 304 [("font", .ref font), ("code", .int c t), ("parts", .ref pa), ("left", .bool false), ("right", .bool false)] v ∧ (pa, tupO [.int 65 ta, .int 67 tb] n) ∈ led
def NodeIn (P : Params) (font : Addr) (led : Led) (v : Value) : Flat → Prop
  | .l i => i < 4 ∧ if menuL.getD i 0 = 0 then LigIn P led font (65 + (i : Int)) v else CharIn P led font (65 + (i : Int)) v
  | .g s w st so sh ho => (fits w ∧ fits st ∧ (0 ≤ so ∧ so < 4) ∧ fits sh ∧ (0 ≤ ho ∧ ho < 4)) ∧ ∃ gv lv t, GlueIn P led w st (if st = 0 then 0 else so) sh (if sh = 0 then 0 else ho) gv ∧ Inst P led 389 [("glue", gv), ("sort", .int (if s then 1 else 0) t), ("leader", lv)] v ∧ (if s then RuleIn P led none (some 0) lv else lv = .none)
  | .b w => fits w ∧ BoxIn P led w 0 0 0 0 1 [] v
  | .r ow => (∀ i, ow = some i → fits i) ∧ RuleIn P led ow none v
  | .k w => fits w ∧ ∃ t1 t2, Inst P led 367 [("width", .int w t1), ("sort", .int 1 t2)] v
  | .e w => fits w ∧ ∃ t1, Inst P led 473 [("is_on", .bool true), ("width", .int w t1)] v
  | .p => ∃ t1, Inst P led 410 [("value", .int 50 t1)] v
  | .m => ∃ ta tb n m t1 t2, Inst P led 452 [("tokens", .ref ta)] v ∧ (ta, tupO [.ref tb] n) ∈ led ∧ (tb, tupO [.int 11 t1, .int 97 t2] m) ∈ led
theorem GlueIn.mono {P : Params} {l l' : Led} (s : ∀ p ∈ l, p ∈ l') {a b c d e : Int} {v : Value} (h : GlueIn P l a b c d e v) : GlueIn P l' a b c d e v := by
  obtain ⟨t1, t2, t3, t4, t5, h⟩ := h
  exact ⟨t1, t2, t3, t4, t5, h.mono s⟩
theorem RuleIn.mono {P : Params} {l l' : Led} (s : ∀ p ∈ l, p ∈ l') {a b : Option Int} {v : Value} (h : RuleIn P l a b v) : RuleIn P l' a b v := by
  obtain ⟨t1, t2, t3, h1, h2, h⟩ := h
  exact ⟨t1, t2, t3, h1, h2, h.mono s⟩
theorem NodeIn.mono {P : Params} {font : Addr} {l l' : Led} (s : ∀ p ∈ l, p ∈ l') {v : Value} {x : Flat} (h : NodeIn P font l v x) : NodeIn P font l' v x := by
  cases x with
  | l i =>
    refine ⟨h.1, ?_⟩
    have h2 := h.2
    revert h2
    split
    · rintro ⟨t, ta, tb, pa, n, h, m⟩; exact ⟨t, ta, tb, pa, n, h.mono s, s _ m⟩
    · rintro ⟨t, h⟩; exact ⟨t, h.mono s⟩
  | g sn w st so sh ho =>
    obtain ⟨ok, gv, lv, t, h1, h2, h3⟩ := h
    refine ⟨ok, gv, lv, t, h1.mono s, h2.mono s, ?_⟩
    revert h3
    split
    · exact fun h => h.mono s
    · exact id
  | b w => obtain ⟨ok, t0, t1, t2, t3, t4, t5, t6, t7, t8, la, lk, ra, rk, h, m1, m2⟩ := h; exact ⟨ok, t0, t1, t2, t3, t4, t5, t6, t7, t8, la, lk, ra, rk, h.mono s, s _ m1, s _ m2⟩
  | r ow => exact ⟨h.1, h.2.mono s⟩
  | k w => obtain ⟨ok, t1, t2, h⟩ := h; exact ⟨ok, t1, t2, h.mono s⟩
  | e w => obtain ⟨ok, t1, h⟩ := h; exact ⟨ok, t1, h.mono s⟩
  | p => obtain ⟨t1, h⟩ := h; exact ⟨t1, h.mono s⟩
  | m => obtain ⟨ta, tb, n, m, t1, t2, h, m1, m2⟩ := h; exact ⟨ta, tb, n, m, t1, t2, h.mono s, s _ m1, s _ m2⟩
def TopIn (P : Params) (font : Addr) (led : Led) (v : Value) : Part → Prop
  | .f x => NodeIn P font led v x
  | .c xs => (∀ x ∈ xs, x.short = true) ∧ xs.length ≤ 2 ∧ ∃ a1 n1 a2 n2 a3 n3 cv vs, Inst P led 431 [("pre", .ref a1), ("post", .ref a2), ("middle", .ref a3)] v ∧ (a1, listOf [cv].toArray n1) ∈ led ∧ (a2, listOf ([] : List Value).toArray n2) ∈ led ∧ (a3, listOf vs.toArray n3) ∈ led ∧ CharIn P led font 65 cv ∧ All2 (NodeIn P font led) vs xs
theorem TopIn.mono {P : Params} {font : Addr} {l l' : Led} (s : ∀ p ∈ l, p ∈ l') {v : Value} {x : Part} (h : TopIn P font l v x) : TopIn P font l' v x := by
  cases x with
  | f x => exact NodeIn.mono s h
  | c xs =>
    obtain ⟨sh, sz, a1, n1, a2, n2, a3, n3, cv, vs, h, m1, m2, m3, ⟨t, hc⟩, W⟩ := h
    exact ⟨sh, sz, a1, n1, a2, n2, a3, n3, cv, vs, h.mono s, s _ m1, s _ m2, s _ m3, ⟨t, hc.mono s⟩, W.mono fun _ _ => NodeIn.mono s⟩
theorem Inst.mk {P : Params} {led : Led} {C x d : Addr} {es : List DictEntry} {n : Nat} {fs : List (Str × Value)} (m1 : (x, instObj C d) ∈ led) (m2 : (d, dictOf es n) ∈ led) (E : Ents P es fs) : Inst P led C fs (.ref x) := ⟨x, d, es, n, rfl, m1, m2, E⟩
theorem lt_made {x d : Addr} {a b : Obj} {fr : Led} (l1 : ∀ p ∈ fr, p.1 < d) (l2 : d < x) : ∀ q ∈ [(x, a), (d, b)], LCg.Off1 q.1 ([] ++ fr) :=
  List.forall_mem_cons.mpr ⟨Off1of fun p hp => Nat.ne_of_lt (Nat.lt_trans (l1 p hp) l2), List.forall_mem_cons.mpr ⟨Off1of fun p hp => Nat.ne_of_lt (l1 p hp), List.forall_mem_nil _⟩⟩
theorem news_tl {h₀ h : Heap} {L : Addr} {p : Addr × Obj} {l : Led} (N : News h₀ L h (p :: l)) : News h₀ L h l := fun q hq => N q (.tail _ hq)
theorem lt_made3 {D x d : Addr} {a b c : Obj} {fr : Led} (l1 : ∀ p ∈ fr, p.1 < d) (l2 : d < x) (l3 : (x : Nat) < D) : ∀ q ∈ [(D, c), (x, a), (d, b)], LCg.Off1 q.1 ([] ++ fr) :=
  List.forall_mem_cons.mpr ⟨Off1of fun p hp => Nat.ne_of_lt (Nat.lt_trans (Nat.lt_trans (l1 p hp) l2) l3), lt_made l1 l2⟩
end
section
section
variable {prog : Program} {w : World} {A : Around} {E : Value → Shared → Prop} {s : Shared} {h₀ : Heap} {L : Addr} {m : Str → Option Value} {env : Env}
def ForEnd (h₀ : Heap) (L : Addr) (J : (Str → Option Value) → Led → Prop) (I : Addr) (oI : Obj) (s₁ s₂ : Shared) : Prop :=
  ∃ h' tk m' nx, s₂ = { s₁ with heap := h', toks := tk } ∧ Fr h₀ L h' m' ∧ News h₀ L h' ((I, oI) :: nx) ∧ LCg.Off1 I nx ∧ J m' nx
def ForPost (h₀ : Heap) (L : Addr) (J : (Str → Option Value) → Led → Prop) (I : Addr) (oI : Obj) (s₁ : Shared) (Q : Flow → Shared → Prop) (f : Flow) (s₂ : Shared) : Prop :=
  match f with
  | .ret v => Q (.ret v) s₂
  | .brk => Q .next s₂
  | _ => ForEnd h₀ L J I oI s₁ s₂
theorem ForEnd.mk {J : (Str → Option Value) → Led → Prop} {I : Addr} {oI : Obj} {h' : Heap} {m' : Str → Option Value} {nx : Led} {tk : Nat} (F : Fr h₀ L h' m') (N : News h₀ L h' ((I, oI) :: nx)) (o : LCg.Off1 I nx) (j : J m' nx) : ForEnd h₀ L J I oI s { s with heap := h', toks := tk } := ⟨h', tk, m', nx, rfl, F, N, o, j⟩
theorem ForPost.next {J : (Str → Option Value) → Led → Prop} {I : Addr} {oI : Obj} {h' : Heap} {m' : Str → Option Value} {nx : Led} {tk : Nat} {Q : Flow → Shared → Prop} (F : Fr h₀ L h' m') (N : News h₀ L h' ((I, oI) :: nx)) (o : LCg.Off1 I nx) (j : J m' nx) : ForPost h₀ L J I oI s Q .next { s with heap := h', toks := tk } := ForEnd.mk F N o j
theorem for_walk {I a : Addr} {oa : Obj} {fp : List Addr} {n : Nat} {P : Nat → Value → Prop} {St : Nat → Heap → Prop} {m₀ : Str → Option Value} {news : Led} {x : Str} {body : List Stmt} {Q : Flow → Shared → Prop} (J : Nat → (Str → Option Value) → Led → Prop)
    (W : Walks prog w A I fp [I] n P St) (hfp : ∀ b ∈ fp, b = I ∨ b = a) (hI : h₀.get? I = none) (hIL : env.locals ≠ I) (haL : env.locals ≠ a) (off : LCg.Off1 I news) (hIo : ∀ i h, St i h → ∃ o, h.get? I = some o) (st : St 0 s.heap)
    (F : Fr h₀ env.locals s.heap m₀) (N : News h₀ env.locals s.heap news) (h0 : J 0 m₀ news)
    (ha : ∀ i m' m₁ nw h, J i m' nw → Fr h₀ env.locals h m₁ → News h₀ env.locals h nw → h.get? a = some oa)
    (turn : ∀ i v m₁ nw oI h tk, i < n → P i v → J i m₁ nw → LCg.Off1 I nw → Fr h₀ env.locals h (fun y => if y = x then some v else m₁ y) → News h₀ env.locals h ((I, oI) :: nw) →
      wpAny (model prog w) A (execs body env) (ForPost h₀ env.locals (J (i + 1)) I oI { s with heap := h, toks := tk } Q) E { s with heap := h, toks := tk })
    (done : ∀ m₁ nw h tk, J n m₁ nw → Fr h₀ env.locals h m₁ → News h₀ env.locals h nw → Q .next { s with heap := h, toks := tk }) :
    LoopAtV prog w A h₀ env x body Q E (.ref I) s := by
  refine ⟨I, fp, [I], n, P, St, m₀, news, J, rfl, W, ?_, ?_, ?_, st, F, N, h0, ?_, ?_⟩
  · intro hm
    rcases hfp _ hm with e | e
    · exact hIL e
    · exact haL e
  · intro b hb
    rw [List.mem_singleton.mp hb]; exact hI
  · intro p hp hm
    exact Ne.symm (Ne.symm (Off1mem off p hp)) (List.mem_singleton.mp hm)
  · intro i v m₁ nw s₁ own hri0 hin hP hJ hoff hown hat hall hst F₁ N₁
    refine hide fun Gh back => ?_
    obtain ⟨h, tk, rfl⟩ := hri0
    refine back ?_
    clear back Gh
    refine hide fun Gh back => ?_
    obtain ⟨oI, heI⟩ := hIo _ _ hst
    refine back ?_
    clear back Gh
    have hIown : (I, oI) ∈ own := hall I (W.sub I (List.mem_singleton.mpr rfl)) hI oI heI
    have o1 : LCg.Off1 I nw := Off1of fun p hp e => hoff p hp (List.mem_singleton.mpr e)
    have N2 : News h₀ env.locals h ((I, oI) :: nw) := fun p hp => N₁ p (by
      rcases List.mem_cons.mp hp with rfl | hp
      · exact List.mem_append_left _ hIown
      · exact List.mem_append_right _ hp)
    have eA := ha i m₁ _ nw h hJ F₁ fun p hp => N₁ p (List.mem_append_right _ hp)
    refine wpAny_mono (turn i v m₁ nw oI h tk hin hP hJ o1 F₁ N2) (fun f s₂ p => ?_) fun _ _ e => e
    have fin : ForEnd h₀ env.locals (J (i + 1)) I oI { s with heap := h, toks := tk } s₂ → LoopStepU h₀ env.locals [I] own (J (i + 1)) { s with heap := h, toks := tk } .next s₂ := by
      intro hri0
      refine hide fun Gh back => ?_
      obtain ⟨h', tk', m', nx, e, F', N', o', j'⟩ := hri0
      refine back ?_
      clear back Gh
      refine ⟨rfl, h', tk', m', nx, e, F', ?_, fun p hp hm => Off1mem o' p hp (List.mem_singleton.mp hm), j'⟩
      intro p hp
      rcases List.mem_append.mp hp with hp | hp
      · have z := N₁ p (List.mem_append_left _ hp)
        refine ⟨?_, z.2⟩
        rcases hfp _ (hown p hp) with e1 | e1
        · have y : h.get? I = some p.2 := e1 ▸ hat p hp
          rw [heI] at y
          rw [e1, ← Option.some.inj y]
          exact (N' _ (.head _)).1
        · have y : h.get? a = some p.2 := e1 ▸ hat p hp
          rw [eA] at y
          rw [e1, ← Option.some.inj y]
          exact ha _ _ _ nx h' j' F' fun q hq => N' q (.tail _ hq)
      · exact N' p (.tail _ hp)
    cases f with
    | ret v => exact .ret p
    | brk => exact .brk p
    | next => exact .next (fin p)
    | cont => exact .cont (fin p)
  · rintro h' tk m' nw F' N' _ hJ
    exact done m' nw h' tk hJ F' N'
theorem for_list {a : Addr} {its : Array Value} {k : Nat} {news : Led} {m₀ : Str → Option Value} {x : Str} {body : List Stmt} {Q : Flow → Shared → Prop} (J : Nat → (Str → Option Value) → Led → Prop) (hh : A.handled = none) (F : Fr h₀ env.locals s.heap m₀) (N : News h₀ env.locals s.heap news)
    (h0 : J 0 m₀ news) (hJ : ∀ i m nw, J i m nw → (a, ({ cls := .type "list", data := .seq its k } : Obj)) ∈ nw)
    (turn : ∀ i v m₁ nw I oI h tk, its[i]? = some v → J i m₁ nw → LCg.Off1 I nw → Fr h₀ env.locals h (fun y => if y = x then some v else m₁ y) → News h₀ env.locals h ((I, oI) :: nw) →
      wpAny (model prog w) A (execs body env) (ForPost h₀ env.locals (J (i + 1)) I oI { s with heap := h, toks := tk } Q) E { s with heap := h, toks := tk })
    (done : ∀ m₁ nw h tk, J its.size m₁ nw → Fr h₀ env.locals h m₁ → News h₀ env.locals h nw → Q .next { s with heap := h, toks := tk }) :
    wpAny (model prog w) A (pyIter (.ref a)) (fun it s₂ => LoopAtV prog w A h₀ env x body Q E it s₂) E s := by
  have hm := hJ _ _ _ h0
  have hls : s.heap.IsList a its := ⟨_, N.get hm, rfl, k, rfl⟩
  have hne : a ≠ s.heap.objs.size := Nat.ne_of_lt (Heap.lt_size (N.get hm))
  refine wpAny_pyIter_list hls ?_
  have up : ∀ b o, s.heap.get? b = some o → (s.heap.push { cls := .type "list_iterator", data := .fields #[.ref a, .int 0 0] }).get? b = some o := fun b o e => Heap.get?_push_of_some _ e
  exact for_walk (a := a) J (Walks.list hh s.heap.objs.size a hne its) (fun b hb => by simpa using hb) (next_is_new F) (Nat.ne_of_lt F.ns.lt) (Ne.symm (N _ hm).2.1) (Off1of fun p hp => Nat.ne_of_lt (Heap.lt_size (N p hp).1)) (fun i h st => by obtain ⟨o, e, _⟩ := st.1; exact ⟨o, e⟩)
    ⟨⟨_, Heap.get?_push_size _ rfl, rfl, rfl⟩, hls.push _⟩ (F.keeps up) (N.grown up) h0 (fun i m' m₁ nw h j _ N' => N'.get (hJ _ _ _ j)) (fun i v m₁ nw oI h tk _ hP j o F' N' => turn i v m₁ nw _ oI h tk hP j o F' N') (fun m₁ nw h tk j F' N' => done m₁ nw h tk j F' N')
theorem for_tuple {a : Addr} {its : Array Value} {k : Nat} {news : Led} {m₀ : Str → Option Value} {x : Str} {body : List Stmt} {Q : Flow → Shared → Prop} (J : Nat → (Str → Option Value) → Led → Prop) (hh : A.handled = none) (F : Fr h₀ env.locals s.heap m₀) (N : News h₀ env.locals s.heap news)
    (h0 : J 0 m₀ news) (hJ : ∀ i m nw, J i m nw → (a, ({ cls := .type "tuple", data := .seq its k } : Obj)) ∈ nw)
    (turn : ∀ i v m₁ nw I oI h tk, its[i]? = some v → J i m₁ nw → LCg.Off1 I nw → Fr h₀ env.locals h (fun y => if y = x then some v else m₁ y) → News h₀ env.locals h ((I, oI) :: nw) →
      wpAny (model prog w) A (execs body env) (ForPost h₀ env.locals (J (i + 1)) I oI { s with heap := h, toks := tk } Q) E { s with heap := h, toks := tk })
    (done : ∀ m₁ nw h tk, J its.size m₁ nw → Fr h₀ env.locals h m₁ → News h₀ env.locals h nw → Q .next { s with heap := h, toks := tk }) :
    wpAny (model prog w) A (pyIter (.ref a)) (fun it s₂ => LoopAtV prog w A h₀ env x body Q E it s₂) E s := by
  have hm := hJ _ _ _ h0
  have hls : s.heap.IsTuple a its := ⟨_, N.get hm, rfl, k, rfl⟩
  have hne : a ≠ s.heap.objs.size := Nat.ne_of_lt (Heap.lt_size (N.get hm))
  refine wpAny_pyIter_tuple hls ?_
  have up : ∀ b o, s.heap.get? b = some o → (s.heap.push { cls := .type "tuple_iterator", data := .fields #[.ref a, .int 0 0] }).get? b = some o := fun b o e => Heap.get?_push_of_some _ e
  exact for_walk (a := a) J (Walks.tuple hh s.heap.objs.size a hne its) (fun b hb => by simpa using hb) (next_is_new F) (Nat.ne_of_lt F.ns.lt) (Ne.symm (N _ hm).2.1) (Off1of fun p hp => Nat.ne_of_lt (Heap.lt_size (N p hp).1)) (fun i h st => by obtain ⟨o, e, _⟩ := st.1; exact ⟨o, e⟩)
    ⟨⟨_, Heap.get?_push_size _ rfl, rfl, rfl⟩, ⟨_, up _ _ (N.get hm), rfl, k, rfl⟩⟩ (F.keeps up) (N.grown up) h0 (fun i m' m₁ nw h j _ N' => N'.get (hJ _ _ _ j)) (fun i v m₁ nw oI h tk _ hP j o F' N' => turn i v m₁ nw _ oI h tk hP j o F' N') (fun m₁ nw h tk j F' N' => done m₁ nw h tk j F' N')
theorem for_range {r : Addr} {a b : Int} {t u v : Tok} {n : Nat} {oa : Obj} {news : Led} {m₀ : Str → Option Value} {x : Str} {body : List Stmt} {Q : Flow → Shared → Prop} (J : Nat → (Str → Option Value) → Led → Prop) (hh : A.handled = none) (F : Fr h₀ env.locals s.heap m₀) (N : News h₀ env.locals s.heap news)
    (hr : IsRange s.heap r a b 1 t u v) (hsm : Builtin.Range.small a b 1 = true) (hn : Builtin.Range.rangeSize a b 1 = ((n : Nat) : Int)) (h0 : J 0 m₀ news) {z : Addr} (hz : h₀.get? z = some oa)
    (turn : ∀ i v m₁ nw I oI h tk, i < n → (∃ t, v = .int (a + (i : Int)) t) → J i m₁ nw → LCg.Off1 I nw → Fr h₀ env.locals h (fun y => if y = x then some v else m₁ y) → News h₀ env.locals h ((I, oI) :: nw) →
      wpAny (model prog w) A (execs body env) (ForPost h₀ env.locals (J (i + 1)) I oI { s with heap := h, toks := tk } Q) E { s with heap := h, toks := tk })
    (done : ∀ m₁ nw h tk, J n m₁ nw → Fr h₀ env.locals h m₁ → News h₀ env.locals h nw → Q .next { s with heap := h, toks := tk }) :
    wpAny (model prog w) A (pyIter (.ref r)) (fun it s₂ => LoopAtV prog w A h₀ env x body Q E it s₂) E s := by
  refine wpAny_pyIter_range hr hsm ?_
  have zL : env.locals ≠ z := fun e => by
    have l1 := Heap.lt_size hz
    have l2 := F.above
    rw [← e] at l1
    exact absurd l1 (Nat.not_lt.mpr l2)
  exact for_walk (a := z) J (LCg.range_walks hh a n) (fun b hb => .inl (List.mem_singleton.mp hb)) (next_is_new F) (Nat.ne_of_lt F.ns.lt) zL (Off1of fun p hp => Nat.ne_of_lt (Heap.lt_size (N p hp).1)) (fun i h st => ⟨_, st⟩)
    (by show IsRangeIter _ _ _ _ _; rw [hn]; simpa using Heap.get?_push_size _ rfl) (F.keeps fun _ _ e => Heap.get?_push_of_some _ e) (N.grown fun _ _ e => Heap.get?_push_of_some _ e) h0 (fun i m' m₁ nw h _ F' _ => F'.keep _ _ hz) (fun i v m₁ nw oI h tk hi hP j o F' N' => turn i v m₁ nw _ oI h tk hi hP j o F' N') (fun m₁ nw h tk j F' N' => done m₁ nw h tk j F' N')
def GrowTurn {β : Type} (R : Led → Value → β → Prop) (h₀ : Heap) (L : Addr) (m : Str → Option Value) (s : Shared) (I : Addr) (oI : Obj) (C : Addr) (oC : Obj) (D : Addr) (oD : Obj) (fr : Led) (b : β) (r : Value) (s' : Shared) : Prop :=
  ∃ h' tk' tl', s' = { s with heap := h', toks := tk' } ∧ Fr h₀ L h' m ∧ News h₀ L h' (tl' ++ ((I, oI) :: (C, oC) :: (D, oD) :: fr)) ∧ (∀ q ∈ tl', LCg.Off1 q.1 ((I, oI) :: (C, oC) :: (D, oD) :: fr)) ∧ R tl' r b
theorem GrowTurn.mk {β : Type} {R : Led → Value → β → Prop} {I : Addr} {oI : Obj} {C : Addr} {oC : Obj} {D : Addr} {oD : Obj} {fr : Led} {b : β} {r : Value} {h' : Heap} {tk' : Nat} {tl' : Led}
    (F : Fr h₀ L h' m) (N : News h₀ L h' (tl' ++ ((I, oI) :: (C, oC) :: (D, oD) :: fr))) (lt : ∀ q ∈ tl', LCg.Off1 q.1 ((I, oI) :: (C, oC) :: (D, oD) :: fr)) (r0 : R tl' r b) : GrowTurn R h₀ L m s I oI C oC D oD fr b r { s with heap := h', toks := tk' } := ⟨h', tk', tl', rfl, F, N, lt, r0⟩
theorem comp_grow {β : Type} {R : Led → Value → β → Prop} (mono : ∀ {l l' : Led}, (∀ p ∈ l, p ∈ l') → ∀ {v x}, R l v x → R l' v x) {elt : Expr} {x : Str} {scope : Scope} {cl : List (Str × Addr)} {S : Led → Prop} {P : Nat → Value → Prop} {Fin : List Value → Led → Prop} {base : Led} {n : Nat}
    (src : List β) (hn : src.length = n) (hS : ∀ tl, S (tl ++ base))
    (turn : ∀ i v b ys I oI C oC D m₂ h tk (E' : Value → Shared → Prop) (fr : Led), src[i]? = some b → P i v → LCg.NsObj oC m₂ → m₂ x = some v → Fr h₀ L h m → (∀ p ∈ base, p ∈ fr) → News h₀ L h ((I, oI) :: (C, oC) :: (D, LCg.lst ys) :: fr) → LCg.Off3 I C D fr → ((@Ne Nat I C) ∧ (@Ne Nat I D) ∧ (@Ne Nat C D)) →
      wpAny (model prog w) A (eval elt (compEnvC scope cl C env)) (GrowTurn R h₀ L m { s with heap := h, toks := tk } I oI C oC D (LCg.lst ys) fr b) E' { s with heap := h, toks := tk })
    (fin : ∀ ys tl, All2 (R tl) ys src → (∀ q ∈ tl, LCg.Off1 q.1 base) → Fin ys (tl ++ base)) : LCg.CompRest prog w A h₀ L m env elt x scope cl s S P Fin n 0 [] base := by
  refine comp_inv (fun i ys nw => ∃ tl, nw = tl ++ base ∧ (∀ q ∈ tl, LCg.Off1 q.1 base) ∧ All2 (R tl) ys (src.take i)) ?_ ?_ ⟨[], rfl, (fun _ h => nomatch h), .nil⟩
  · intro i v ys nw I oI C oC D m₂ h tk E' hi hri0 hv hC hx' F N off ne
    refine hide fun Gh back => ?_
    obtain ⟨tl, rfl, lt, hx⟩ := hri0
    refine back ?_
    clear back Gh
    have hb : src[i]? = some src[i] := by simp [hn, hi]
    refine wpAny_mono (turn i v _ ys I oI C oC D m₂ h tk E' (tl ++ base) hb hv hC hx' F (fun p hp => List.mem_append_right _ hp) N off ne) ?_ fun _ _ e => e
    intro r s' hri0
    refine hide fun Gh back => ?_
    obtain ⟨h', tk', tl', rfl, F', N', lt', hr⟩ := hri0
    refine back ?_
    clear back Gh
    refine LCg.CompEnd.intro F' N' (tl' ++ tl ++ base) ?_ ?_ (hS (tl' ++ tl)) ⟨tl' ++ tl, rfl, ?_, ?_⟩
    · intro p hp
      simp only [List.mem_cons, List.mem_append] at hp ⊢
      rcases hp with h | h | h | (h | h) | h <;> simp [h]
    · rw [List.append_assoc]
      exact off3_app (off3_above lt') off
    · intro q hq
      rcases List.mem_append.mp hq with hq | hq
      · have k := Off1mem (lt' q hq)
        exact Off1of fun p hp => k p (by simp [hp])
      · exact lt q hq
    · rw [List.take_add_one, hb]
      exact (hx.mono fun _ _ => mono fun p hp => List.mem_append_right _ hp).snoc (mono (fun p hp => List.mem_append_left _ hp) hr)
  · intro ys nw hri0
    refine hide fun Gh back => ?_
    obtain ⟨tl, rfl, lt, hx⟩ := hri0
    refine back ?_
    clear back Gh
    rw [← hn, List.take_length] at hx
    exact fin ys tl hx lt
def TupSrc (prog : Program) (w : World) (A : Around) (h₀ : Heap) (L : Addr) (m : Str → Option Value) (env : Env) (elt : Expr) (x : Str) (scope : Scope) (cl : List (Str × Addr)) (Q : Value → Shared → Prop) (xv : Value) (s₁ : Shared) : Prop :=
  ∃ ax its k news, xv = .ref ax ∧ A.handled = none ∧ Fr h₀ L s₁.heap m ∧ News h₀ L s₁.heap news ∧ (ax, ({ cls := .type "tuple", data := .seq its k } : Obj)) ∈ news ∧ its.size ≤ sizeLine ∧
    ∀ g, LCg.CompRest prog w A h₀ L m env elt x scope cl { s₁ with heap := g } (fun nw => (ax, ({ cls := .type "tuple", data := .seq its k } : Obj)) ∈ nw) (fun i v => its[i]? = some v) (LCg.FinE h₀ L m { s₁ with heap := g } Q) its.size 0 [] news
theorem comp_tup {elt iter : Expr} {x : Str} {px : Pos} {scope : Scope} {cl : List (Str × Addr)} {pos : Pos} {Q : Value → Shared → Prop} (F₀ : Fr h₀ L s.heap m)
    (hclos : closureFor scope env = pure cl) (hcell : ∀ y ∈ scope.names, y.2 ≠ .cell) (hkind : scope.kind = .function)
    (hnames : ∀ y ∈ scope.names, y.2 = .local → scope.names.lookup y.1 = some .local) (hx : scope.names.lookup x = some .local)
    (h : wpAny (model prog w) A (eval iter env) (TupSrc prog w A h₀ L m env elt x scope cl Q) E s)
    (hs : ∀ x, foldedSetIterable iter env x = pure x := by intro _; rfl) :
    wpAny (model prog w) A (eval (.ListComp elt [⟨.Name x px, iter, [], 0⟩] scope pos) env) Q E s := by
  rw [eval_ListComp]
  refine wpAny_comprehension_free (use := none) rfl hs hclos hkind hnames (wpAny_mono h (fun xv s₁ h₁ => ?_) fun _ _ e => e)
  refine hide fun Gh back => ?_
  obtain ⟨ax, its, k, news, rfl, hh, F, N, hm, hsz, R⟩ := h₁
  refine back ?_
  clear back Gh
  have hl : s₁.heap.IsTuple ax its := ⟨_, N.get hm, rfl, k, rfl⟩
  have hlt : ax < s₁.heap.objs.size := Heap.lt_size (N.get hm)
  refine wpAny_pyIter_tuple hl ?_
  have up : ∀ b o, s₁.heap.get? b = some o → (s₁.heap.push { cls := .type "tuple_iterator", data := .fields #[.ref ax, .int 0 0] }).get? b = some o := fun b o e => Heap.get?_push_of_some _ e
  refine LCg.block_U (Walks.tuple hh s₁.heap.objs.size ax (Nat.ne_of_lt hlt) its) hsz (fun i h st => by obtain ⟨o, e, _⟩ := st.1; exact ⟨o, e⟩) ?_ hcell hkind hx ⟨⟨_, Heap.get?_push_size _ rfl, rfl, rfl⟩, ⟨_, up _ _ (N.get hm), rfl, k, rfl⟩⟩ (fun b hb => ?_)
    (F.keeps up) (N.grown up) (Nat.ne_of_lt F.ns.lt) (next_is_new F) (fun p hp => Nat.ne_of_lt (Heap.lt_size (N p hp).1)) hm (R _) ?_
  · intro i h h' o nw st e e' _ N' S
    exact ⟨by obtain ⟨o', q, r⟩ := st.1; rw [e] at q; cases q; exact ⟨o, e', r⟩, ⟨_, N'.get S, rfl, k, rfl⟩⟩
  · show b < (s₁.heap.push _).objs.size
    rw [Heap.size_push]
    rcases List.mem_cons.mp hb with rfl | hb
    · exact Nat.lt_succ_self _
    · rw [List.mem_singleton.mp hb]; exact Nat.lt_succ_of_lt hlt
  · intro D C h tk m' ys news' F' N' o1 hn hC₀ hD₀ hCL hDL hCD offC fin
    refine ⟨m', hn, fun h'' hs'' => fin D h'' tk (F'.change hs'' hCL hC₀) (fun p hp => ?_) o1⟩
    refine ⟨hs''.extBut _ _ ?_ (N' p hp).1, (N' p hp).2⟩
    rcases List.mem_cons.mp hp with rfl | hp
    · exact Ne.symm hCD
    · exact offC p hp
theorem TupSrc.mk {elt : Expr} {x : Str} {scope : Scope} {cl : List (Str × Addr)} {Q : Value → Shared → Prop} {ax : Addr} {its : Array Value} {k : Nat} {news : Led}
    (hh : A.handled = none) (F : Fr h₀ L s.heap m) (N : News h₀ L s.heap news) (hm : (ax, ({ cls := .type "tuple", data := .seq its k } : Obj)) ∈ news) (hsz : its.size ≤ sizeLine)
    (h : Halt (∀ g, LCg.CompRest prog w A h₀ L m env elt x scope cl { s with heap := g } (fun nw => (ax, ({ cls := .type "tuple", data := .seq its k } : Obj)) ∈ nw) (fun i v => its[i]? = some v) (LCg.FinE h₀ L m { s with heap := g } Q) its.size 0 [] news)) :
    TupSrc prog w A h₀ L m env elt x scope cl Q (.ref ax) s := ⟨ax, its, k, news, rfl, hh, F, N, hm, hsz, h⟩
end
section
variable {prog : Program} {w : World} {A : Around} {E : Value → Shared → Prop} {s : Shared} {h₀ : Heap} {L : Addr} {m : Str → Option Value} {env : Env}
abbrev KeepJ (x : Str) (m₀ : Str → Option Value) (news : Led) : (Str → Option Value) → Led → Prop := fun m' nx => nx = news ∧ ∀ y, y ≠ x → m' y = m₀ y
theorem keep_map {x : Str} {m₀ m₁ : Str → Option Value} {v : Value} (h : ∀ y, y ≠ x → m₁ y = m₀ y) : (fun y => if y = x then some v else m₁ y) = fun y => if y = x then some v else m₀ y := by
  funext y
  by_cases e : y = x
  · simp [e]
  · simp [e, h y e]
theorem keep_done {x : Str} {m₀ m₁ : Str → Option Value} (h : ∀ y, y ≠ x → m₁ y = m₀ y) : m₁ = fun y => if y = x then m₁ x else m₀ y := by
  funext y
  by_cases e : y = x
  · simp [e]
  · simp [e, h y e]
theorem for_tuple_keep {a : Addr} {its : Array Value} {k : Nat} {news : Led} {m₀ : Str → Option Value} {x : Str} {body : List Stmt} {Q : Flow → Shared → Prop} (hh : A.handled = none) (F : Fr h₀ env.locals s.heap m₀) (N : News h₀ env.locals s.heap news)
    (hm : (a, ({ cls := .type "tuple", data := .seq its k } : Obj)) ∈ news)
    (turn : ∀ (i : Nat) v I oI h tk, its[i]? = some v → LCg.Off1 I news → Fr h₀ env.locals h (fun y => if y = x then some v else m₀ y) → News h₀ env.locals h ((I, oI) :: news) →
      wpAny (model prog w) A (execs body env) (ForPost h₀ env.locals (KeepJ x m₀ news) I oI { s with heap := h, toks := tk } Q) E { s with heap := h, toks := tk })
    (done : ∀ u h tk, Fr h₀ env.locals h (fun y => if y = x then u else m₀ y) → News h₀ env.locals h news → Q .next { s with heap := h, toks := tk }) :
    wpAny (model prog w) A (pyIter (.ref a)) (fun it s₂ => LoopAtV prog w A h₀ env x body Q E it s₂) E s := by
  refine for_tuple (fun _ => KeepJ x m₀ news) hh F N ⟨rfl, fun _ _ => rfl⟩ (fun _ _ _ j => j.1 ▸ hm) ?_ ?_
  · rintro i v m₁ nw I oI h tk hv ⟨rfl, hj⟩ o F' N'
    rw [keep_map hj] at F'
    exact turn i v I oI h tk hv o F' N'
  · rintro m₁ nw h tk ⟨rfl, hj⟩ F' N'
    rw [keep_done hj] at F'
    exact done _ h tk F' N'
theorem for_list_keep {a : Addr} {its : Array Value} {k : Nat} {news : Led} {m₀ : Str → Option Value} {x : Str} {body : List Stmt} {Q : Flow → Shared → Prop} (hh : A.handled = none) (F : Fr h₀ env.locals s.heap m₀) (N : News h₀ env.locals s.heap news)
    (hm : (a, ({ cls := .type "list", data := .seq its k } : Obj)) ∈ news)
    (turn : ∀ (i : Nat) v I oI h tk, its[i]? = some v → LCg.Off1 I news → Fr h₀ env.locals h (fun y => if y = x then some v else m₀ y) → News h₀ env.locals h ((I, oI) :: news) →
      wpAny (model prog w) A (execs body env) (ForPost h₀ env.locals (KeepJ x m₀ news) I oI { s with heap := h, toks := tk } Q) E { s with heap := h, toks := tk })
    (done : ∀ u h tk, Fr h₀ env.locals h (fun y => if y = x then u else m₀ y) → News h₀ env.locals h news → Q .next { s with heap := h, toks := tk }) :
    wpAny (model prog w) A (pyIter (.ref a)) (fun it s₂ => LoopAtV prog w A h₀ env x body Q E it s₂) E s := by
  refine for_list (fun _ => KeepJ x m₀ news) hh F N ⟨rfl, fun _ _ => rfl⟩ (fun _ _ _ j => j.1 ▸ hm) ?_ ?_
  · rintro i v m₁ nw I oI h tk hv ⟨rfl, hj⟩ o F' N'
    rw [keep_map hj] at F'
    exact turn i v I oI h tk hv o F' N'
  · rintro m₁ nw h tk ⟨rfl, hj⟩ F' N'
    rw [keep_done hj] at F'
    exact done _ h tk F' N'
theorem ForPost.keep {x : Str} {m₀ m' : Str → Option Value} {news : Led} {I : Addr} {oI : Obj} {s₁ : Shared} {Q : Flow → Shared → Prop} {h' : Heap} {tk : Nat} (F : Fr h₀ L h' m') (N : News h₀ L h' ((I, oI) :: news)) (o : LCg.Off1 I news) (j : ∀ y, y ≠ x → m' y = m₀ y) :
    ForPost h₀ L (KeepJ x m₀ news) I oI s₁ Q .next { s₁ with heap := h', toks := tk } := ⟨h', tk, m', news, rfl, F, N, o, rfl, j⟩
end
section
variable {prog : Program} {w : World} {A : Around} {E : Value → Shared → Prop} {s : Shared} {h₀ : Heap} {L : Addr} {m : Str → Option Value} {env : Env}
theorem comp_keep {β : Type} {R : Value → β → Prop} {elt : Expr} {x : Str} {scope : Scope} {cl : List (Str × Addr)} {S : Led → Prop} {P : Nat → Value → Prop} {Fin : List Value → Led → Prop} {base : Led} {n : Nat}
    (src : List β) (hn : src.length = n) (hS : S base)
    (turn : ∀ i v b ys I oI C oC D m₂ h tk (E' : Value → Shared → Prop), src[i]? = some b → P i v → LCg.NsObj oC m₂ → m₂ x = some v → Fr h₀ L h m → News h₀ L h ((I, oI) :: (C, oC) :: (D, LCg.lst ys) :: base) → LCg.Off3 I C D base → ((@Ne Nat I C) ∧ (@Ne Nat I D) ∧ (@Ne Nat C D)) →
      wpAny (model prog w) A (eval elt (compEnvC scope cl C env)) (Keep h₀ L m { s with heap := h, toks := tk } ((I, oI) :: (C, oC) :: (D, LCg.lst ys) :: base) (fun y => R y b)) E' { s with heap := h, toks := tk })
    (fin : ∀ ys, All2 R ys src → Fin ys base) : LCg.CompRest prog w A h₀ L m env elt x scope cl s S P Fin n 0 [] base := by
  refine comp_inv (fun i ys nw => nw = base ∧ All2 R ys (src.take i)) ?_ ?_ ⟨rfl, .nil⟩
  · rintro i v ys nw I oI C oC D m₂ h tk E' hi ⟨rfl, hx⟩ hv hC hx' F N off ne
    have hb : src[i]? = some src[i] := by simp [hn, hi]
    refine wpAny_mono (turn i v _ ys I oI C oC D m₂ h tk E' hb hv hC hx' F N off ne) ?_ fun _ _ e => e
    rintro r s' ⟨h', tk', rfl, F', N', hr⟩
    refine ⟨h', tk', nw, rfl, F', N', off, hS, rfl, ?_⟩
    rw [List.take_add_one, hb]
    exact hx.snoc hr
  · rintro ys nw ⟨rfl, hx⟩
    rw [← hn, List.take_length] at hx
    exact fin ys hx
end
end
section
def Flat.kind : Flat → Int
  | .l i => if menuL.getD i 0 = 0 then 1 else 0
  | .g _ _ _ _ _ _ => 6
  | .b _ => 2
  | .r _ => 4
  | .k _ => 5
  | .e _ => 12
  | .p => 7
  | .m => 9
theorem getL_some {P : Params} {name : Str} {es : List DictEntry} {fs : List (Str × Value)} (E : Ents P es fs) : ∀ {v : Value}, fs.lookup name = some v → getL name es = some (some v) := by
  induction E with
  | nil => intro v h; cases h
  | cons k t u E ih =>
    intro v h
    rw [List.lookup_cons] at h
    unfold getL
    rw [List.find?_cons]
    by_cases e : name = k
    · subst e
      simp only [beq_self_eq_true] at h
      cases h
      simp [Value.isStr]
    · have e1 : (name == k) = false := by simpa using e
      rw [e1] at h
      have e2 : (Value.str k t).isStr name = false := by simpa [Value.isStr] using Ne.symm e
      simp only [e2]
      have := ih h
      unfold getL at this
      split at this
      · rename_i q; rw [q]; exact this
      · split at this <;> cases this
theorem getL_none {P : Params} {name : Str} {es : List DictEntry} {fs : List (Str × Value)} (E : Ents P es fs) : fs.lookup name = none → getL name es = some none := by
  have key : ∀ {es fs}, Ents P es fs → fs.lookup name = none → es.find? (·.key.isStr name) = none ∧ es.any (·.refKey) = false := by
    intro es fs E
    induction E with
    | nil => intro _; exact ⟨rfl, rfl⟩
    | cons k t u E ih =>
      intro h
      rw [List.lookup_cons] at h
      by_cases e : name = k
      · subst e; simp at h
      · have e1 : (name == k) = false := by simpa using e
        rw [e1] at h
        have e2 : (Value.str k t).isStr name = false := by simpa [Value.isStr] using Ne.symm e
        have q := ih h
        rw [List.find?_cons, List.any_cons]
        simp only [e2]
        exact ⟨q.1, by rw [q.2]; rfl⟩
  intro h
  have q := key E h
  unfold getL
  rw [q.1, q.2]
  rfl
section
variable {prog : Program} {w : World} {A : Around} {E : Value → Shared → Prop} {s : Shared} {h₀ : Heap} {L C : Addr} {m : Str → Option Value} {Q : Value → Shared → Prop} {news L0 : Led} {v : Value} {fs : List (Str × Value)} {name : Str} {ex : Bool}
theorem own_read {val : Value} {attr : Option Value} (F : Fr h₀ L s.heap m) (X : (K w.params).In h₀) (N : News h₀ L s.heap news) (hi : Inst w.params L0 C fs v) (sub : ∀ p ∈ L0, p ∈ news) (hf : fs.lookup name = some val) (hg : plainGet (K w.params) C name = true) (hh : hasDictIn (K w.params) C = true)
    (ha : findIn (K w.params) (.ref C) name = some attr) (hn : noGet (K w.params) attr = true) (hv : handedIn val = true) (h : Q val { s with toks := s.toks + 1 }) : wpAny (model prog w) A (getAttr v name ex) Q E s := by
  obtain ⟨x, d, es, n, rfl, m1, m2, en⟩ := hi
  exact get_own F X (InstAt.of_news N (sub _ m1) (sub _ m2)) hg hh ha hn (getL_some en hf) hv h
theorem cls_read {a : Value} (F : Fr h₀ L s.heap m) (X : (K w.params).In h₀) (N : News h₀ L s.heap news) (hi : Inst w.params L0 C fs v) (sub : ∀ p ∈ L0, p ∈ news) (hf : fs.lookup name = none) (hg : plainGet (K w.params) C name = true) (hh : hasDictIn (K w.params) C = true)
    (ha : findIn (K w.params) (.ref C) name = some (some a)) (hn : specialIn (K w.params) a "__get__" = some none) (hv : handedIn a = true) (hc : copiedNames.contains name = false) (h : Q a { s with toks := s.toks + 1 }) : wpAny (model prog w) A (getAttr v name ex) Q E s := by
  obtain ⟨x, d, es, n, rfl, m1, m2, en⟩ := hi
  exact get_cls F X (InstAt.of_news N (sub _ m1) (sub _ m2)) hg hh ha hn hv hc (getL_none en hf) h
theorem node_kind {font : Addr} {x : Flat} (F : Fr h₀ L s.heap m) (X : (K w.params).In h₀) (N : News h₀ L s.heap news) (hi : NodeIn w.params font L0 v x) (sub : ∀ p ∈ L0, p ∈ news) (h : ∀ t, Q (.int x.kind t) { s with toks := s.toks + 1 }) : wpAny (model prog w) A (getAttr v (Str.ofString "kind") ex) Q E s := by
  cases x with
  | l i =>
    have h2 := hi.2
    revert h2
    unfold Flat.kind at h
    dsimp only at h
    split <;> rename_i e
    · rintro ⟨t, ta, tb, pa, n, hi, _⟩
      rw [if_pos e] at h
      exact cls_read F X N hi sub rfl (by k_is) (by k_is) (by k_is) (by k_is) rfl (by decide +kernel) (h _)
    · rintro ⟨t, hi⟩
      rw [if_neg e] at h
      exact cls_read F X N hi sub rfl (by k_is) (by k_is) (by k_is) (by k_is) rfl (by decide +kernel) (h _)
  | g sn gw st so sh ho =>
    have h : ∀ t, Q (.int 6 t) { s with toks := s.toks + 1 } := h
    obtain ⟨_, gv, lv, t, _, hi, _⟩ := hi
    exact cls_read F X N hi sub rfl (by k_is) (by k_is) (by k_is) (by k_is) rfl (by decide +kernel) (h _)
  | b bw =>
    obtain ⟨_, t0, t1, t2, t3, t4, t5, t6, t7, t8, la, lk, ra, rk, hi, _, _⟩ := hi
    exact own_read F X N hi sub rfl (by k_is) (by k_is) (by k_is) (by k_is) rfl (h _)
  | r ow =>
    have h : ∀ t, Q (.int 4 t) { s with toks := s.toks + 1 } := h
    obtain ⟨_, wv, t2, dv, _, _, hi⟩ := hi
    exact cls_read F X N hi sub rfl (by k_is) (by k_is) (by k_is) (by k_is) rfl (by decide +kernel) (h _)
  | k kw =>
    have h : ∀ t, Q (.int 5 t) { s with toks := s.toks + 1 } := h
    obtain ⟨_, t1, t2, hi⟩ := hi
    exact cls_read F X N hi sub rfl (by k_is) (by k_is) (by k_is) (by k_is) rfl (by decide +kernel) (h _)
  | e ew =>
    have h : ∀ t, Q (.int 12 t) { s with toks := s.toks + 1 } := h
    obtain ⟨_, t1, hi⟩ := hi
    exact cls_read F X N hi sub rfl (by k_is) (by k_is) (by k_is) (by k_is) rfl (by decide +kernel) (h _)
  | p =>
    obtain ⟨t1, hi⟩ := hi
    exact cls_read F X N hi sub rfl (by k_is) (by k_is) (by k_is) (by k_is) rfl (by decide +kernel) (h _)
  | m =>
    obtain ⟨ta, tb, n, k, t1, t2, hi, _⟩ := hi
    exact cls_read F X N hi sub rfl (by k_is) (by k_is) (by k_is) (by k_is) rfl (by decide +kernel) (h _)
theorem disc_kind (F : Fr h₀ L s.heap m) (X : (K w.params).In h₀) (N : News h₀ L s.heap news) (hi : Inst w.params L0 431 fs v) (sub : ∀ p ∈ L0, p ∈ news) (hf : fs.lookup (Str.ofString "kind") = none) (h : ∀ t, Q (.int 8 t) { s with toks := s.toks + 1 }) : wpAny (model prog w) A (getAttr v (Str.ofString "kind") ex) Q E s :=
  cls_read F X N hi sub hf (by k_is) (by k_is) (by k_is) (by k_is) rfl (by decide +kernel) (h _)
end
theorem kind_short {x : Flat} (h : x.short = true) : 0 ≤ x.kind ∧ x.kind ≤ 5 := by
  cases x with
  | l i => unfold Flat.kind; dsimp only; split <;> omega
  | _ => first | (cases h; done) | (simp [Flat.kind])
theorem idLt {a b : Led} (h : ∀ q ∈ a, LCg.Off1 q.1 b) : ∀ q ∈ a, LCg.Off1 q.1 b := h
theorem idL1 {a : Led} {d : Addr} (h : ∀ p ∈ a, p.1 < d) : ∀ p ∈ a, p.1 < d := h
theorem meth_read {prog : Program} {w : World} {A : Around} {E : Value → Shared → Prop} {s : Shared} {h₀ : Heap} {L C : Addr} {m : Str → Option Value} {news L0 : Led} {v : Value} {fs : List (Str × Value)} {name : Str} {pl : Sem Bool} {Q : Value × List Value → Shared → Prop} {f : Addr} (F : Fr h₀ L s.heap m) (X : (K w.params).In h₀) (N : News h₀ L s.heap news) (hi : Inst w.params L0 C fs v) (sub : ∀ p ∈ L0, p ∈ news) (hl : fs.lookup name = none)
    (hg : plainGet (K w.params) C name = true) (hf : findIn (K w.params) (.ref C) name = some (some (.ref f))) (ht : isFn (K w.params) (.ref f) = true) (h : Q (.ref f, [v]) s) : wpAny (model prog w) A (getMethod v name pl) Q E s := by
  obtain ⟨x, d, es, n, rfl, m1, m2, en⟩ := hi
  exact method_inst F X (InstAt.of_news N (sub _ m1) (sub _ m2)) hg hf ht (getL_none en hl) h
theorem Inst.isRef {P : Params} {led : Led} {C : Addr} {fs : List (Str × Value)} {v : Value} (h : Inst P led C fs v) : ∃ g, v = .ref g := by
  obtain ⟨x, _, _, _, rfl, _⟩ := h
  exact ⟨x, rfl⟩
theorem idNews {h₀ h : Heap} {L : Addr} {l : Led} (N : News h₀ L h l) : News h₀ L h l := N
end
section
local macro_rules | `(tactic| walk_at "call ref") => `(tactic| refine halt_of ?_)
set_option maxHeartbeats 4000000 in
theorem kern_makes (w : World) (kw : Int) (tw t1 : Tok) (h1 : -1073741823 ≤ kw) (h2 : kw ≤ 1073741823) (fr : Led) : CallsTo w 367 [.int kw tw, .int 1 t1] [] fr 8 140 (fun r mu' tl => mu' = [] ∧ ∃ t1 t2, Inst w.params tl 367 [("width", .int kw t1), ("sort", .int 1 t2)] r) := by
  intro prog p loose mean mg mb A env outer A₀ base h₀ L m s Q E B F X N T hh hA hf hk hd hu ret; obtain ⟨hd0, dp, frm, gd, un⟩ := A; obtain ⟨hp0, gs0, dr0, tk0, os0⟩ := s; dsimp only at hh hA hd hu F N ret; subst hh hA; have hSt := StK.mk gs0 dr0 os0; (try simp only [List.cons_append, List.nil_append] at N)
  (k_steps; repeat' ((with_reducible refine Halt.go ?_); (first | ((with_reducible show wpAny _ _ (call _ _) _ _ _); (first | (k_here; k_dflt ((first | refine' CallsTo.useP (is_whole_calls _ _ _ _ _ _ _ ?p1v17 ?p2v17) ?k1v17 ?k2v17 ?k3v17 ?k4v17 ?k5v17 ?kHv17 ?kAv17 ?kFv17 ?kKv17 ?kdv17 ?kuv17 ?_ | refine' CallsTo.useP (check_dimen_calls _ _ _ ?p1v17 ?p2v17) ?k1v17 ?k2v17 ?k3v17 ?k4v17 ?k5v17 ?kHv17 ?kAv17 ?kFv17 ?kKv17 ?kdv17 ?kuv17 ?_ | refine' CallsTo.useP (check_code_calls _ _ _ ?p1v17 ?p2v17) ?k1v17 ?k2v17 ?k3v17 ?k4v17 ?k5v17 ?kHv17 ?kAv17 ?kFv17 ?kKv17 ?kdv17 ?kuv17 ?_ | refine' CallsTo.useP (check_number_calls _ _ _ ?p1v17 ?p2v17) ?k1v17 ?k2v17 ?k3v17 ?k4v17 ?k5v17 ?kHv17 ?kAv17 ?kFv17 ?kKv17 ?kdv17 ?kuv17 ?_); (case k1v17 => k_asm); (case k2v17 => k_asm); (case k3v17 => k_asm); (case k4v17 => k_asm); (case k5v17 => k_asm); (case kHv17 => exact rfl); (case kAv17 => exact rfl); (case kFv17 => first | assumption | exact rfl); (case kKv17 => first | assumption | exact rfl); (case kdv17 => (walk_at "my room")); (case kuv17 => (walk_at "my room")); (case p1v17 => omega); (case p2v17 => omega); k_whole; (intro h'q tk'q F'q N'q); (try k_sweep); (try k_fold))) | (k_here; k_dflt (refine' call_cls ?k1v16 ?k2v16 ?k3v16 ?k4v16 ?k5v16 ?k6v16 ?_; (case k1v16 => k_asm); (case k2v16 => k_asm); (case k3v16 => k_asm); (case k4v16 => k_is); (case k5v16 => k_is); (case k6v16 => k_is); k_whole; intro x'q d'q h'q F'q N'q l1 l2; (try k_lt l1); (try k_lt2 l2); (try k_sweep); first | k_dflt (refine' code_def ?k1v16 ?k2v16 ?k3v16 ?k4v16 ?k5v16 ?kAv16 ?kFv16 ?kKv16 ?k6v16 ?k7v16 ?k8v16 ?k9v16 ?kBv16 ?_ ?c2v16 ?c3v16 ?c4v16 ?c5v16; (case kAv16 => exact rfl); (case kFv16 => first | assumption | exact rfl); (case kKv16 => first | assumption | exact rfl); (case k1v16 => k_asm); (case k2v16 => k_asm); (case k3v16 => k_asm); (case k4v16 => k_asm); (case k5v16 => k_asm); (case k6v16 => k_is); (case k7v16 => k_is); (case k8v16 => (walk_at "my room")); (case k9v16 => first | exact BindsTo.of_eq rfl | exact binds_K (by k_in) rfl (by k_is) rfl rfl rfl); (case c5v16 => decide); (case kBv16 => exact locs rfl); (case c2v16 => exact rfl); (case c3v16 => exact rfl); (case c4v16 => exact rfl); k_whole; intro g'q L'q h'q FG'q F'q N'q B'q X'q T'q; (try dsimp only at N'q); (try k_fold)) | k_dflt (refine' code_defC ?k1v16 ?k2v16 ?k3v16 ?k4v16 ?k5v16 ?kAv16 ?kFv16 ?kKv16 ?k6v16 ?k7v16 ?k8v16 ?k9v16 ?kBv16 ?kDv16 ?_ ?c2v16 ?c3v16 ?c4v16; (case kAv16 => exact rfl); (case kFv16 => first | assumption | exact rfl); (case kKv16 => first | assumption | exact rfl); (case k1v16 => k_asm); (case k2v16 => k_asm); (case k3v16 => k_asm); (case k4v16 => k_asm); (case k5v16 => k_asm); (case k6v16 => k_is); (case k7v16 => k_is); (case k8v16 => (walk_at "my room")); (case k9v16 => first | exact BindsTo.of_eq rfl | exact binds_K (by k_in) rfl (by k_is) rfl rfl rfl); (case kBv16 => exact rfl); (case kDv16 => decide +kernel); (case c2v16 => exact rfl); (case c3v16 => exact rfl); (case c4v16 => exact rfl); k_whole; intro g'q L'q h'q tk'q cells'q FG'q F'q N'q Y'q B'q X'q T'q l1; (try k_lt l1); k_cells Y'q; (try simp only [List.cons_append, List.nil_append] at N'q); (try k_fold)))) | fail)) | fail); (all_goals k_steps)))
  all_goals ((first | (refine' ret _ _ _ [] [_, _] ?e1 ?e2 ?e3 ⟨rfl, ?e4⟩; (case e1 => k_asm); (case e2 => k_asm)) | (refine' ret _ _ _ [] [_, _, _] ?e1 ?e2 ?e3 ⟨rfl, ?e4⟩; (case e1 => k_asm); (case e2 => k_asm)) | (refine' ret _ _ _ [] [_, _, _, _] ?e1 ?e2 ?e3 ⟨rfl, ?e4⟩; (case e1 => k_asm); (case e2 => k_asm))); (case e3 => exact lt_made (by assumption) (by assumption)); (case e4 => exact ⟨_, _, Inst.mk (by first | k_mem | assumption) (by first | k_mem | assumption) (by repeat (first | exact Ents.nil | refine Ents.cons _ _ _ ?_))⟩))
set_option maxHeartbeats 4000000 in
theorem edge_makes (w : World) (kw : Int) (tw : Tok) (h1 : -1073741823 ≤ kw) (h2 : kw ≤ 1073741823) (fr : Led) : CallsTo w 473 [.bool true, .int kw tw] [] fr 8 140 (fun r mu' tl => mu' = [] ∧ ∃ t2, Inst w.params tl 473 [("is_on", .bool true), ("width", .int kw t2)] r) := by
  intro prog p loose mean mg mb A env outer A₀ base h₀ L m s Q E B F X N T hh hA hf hk hd hu ret; obtain ⟨hd0, dp, frm, gd, un⟩ := A; obtain ⟨hp0, gs0, dr0, tk0, os0⟩ := s; dsimp only at hh hA hd hu F N ret; subst hh hA; have hSt := StK.mk gs0 dr0 os0; (try simp only [List.cons_append, List.nil_append] at N)
  (k_steps; repeat' ((with_reducible refine Halt.go ?_); (first | ((with_reducible show wpAny _ _ (call _ _) _ _ _); (first | (k_here; k_dflt ((first | refine' CallsTo.useP (is_whole_calls _ _ _ _ _ _ _ ?p1v17 ?p2v17) ?k1v17 ?k2v17 ?k3v17 ?k4v17 ?k5v17 ?kHv17 ?kAv17 ?kFv17 ?kKv17 ?kdv17 ?kuv17 ?_ | refine' CallsTo.useP (check_dimen_calls _ _ _ ?p1v17 ?p2v17) ?k1v17 ?k2v17 ?k3v17 ?k4v17 ?k5v17 ?kHv17 ?kAv17 ?kFv17 ?kKv17 ?kdv17 ?kuv17 ?_ | refine' CallsTo.useP (check_code_calls _ _ _ ?p1v17 ?p2v17) ?k1v17 ?k2v17 ?k3v17 ?k4v17 ?k5v17 ?kHv17 ?kAv17 ?kFv17 ?kKv17 ?kdv17 ?kuv17 ?_ | refine' CallsTo.useP (check_number_calls _ _ _ ?p1v17 ?p2v17) ?k1v17 ?k2v17 ?k3v17 ?k4v17 ?k5v17 ?kHv17 ?kAv17 ?kFv17 ?kKv17 ?kdv17 ?kuv17 ?_); (case k1v17 => k_asm); (case k2v17 => k_asm); (case k3v17 => k_asm); (case k4v17 => k_asm); (case k5v17 => k_asm); (case kHv17 => exact rfl); (case kAv17 => exact rfl); (case kFv17 => first | assumption | exact rfl); (case kKv17 => first | assumption | exact rfl); (case kdv17 => (walk_at "my room")); (case kuv17 => (walk_at "my room")); (case p1v17 => omega); (case p2v17 => omega); k_whole; (intro h'q tk'q F'q N'q); (try k_sweep); (try k_fold))) | (k_here; k_dflt (refine' call_cls ?k1v16 ?k2v16 ?k3v16 ?k4v16 ?k5v16 ?k6v16 ?_; (case k1v16 => k_asm); (case k2v16 => k_asm); (case k3v16 => k_asm); (case k4v16 => k_is); (case k5v16 => k_is); (case k6v16 => k_is); k_whole; intro x'q d'q h'q F'q N'q l1 l2; (try k_lt l1); (try k_lt2 l2); (try k_sweep); first | k_dflt (refine' code_def ?k1v16 ?k2v16 ?k3v16 ?k4v16 ?k5v16 ?kAv16 ?kFv16 ?kKv16 ?k6v16 ?k7v16 ?k8v16 ?k9v16 ?kBv16 ?_ ?c2v16 ?c3v16 ?c4v16 ?c5v16; (case kAv16 => exact rfl); (case kFv16 => first | assumption | exact rfl); (case kKv16 => first | assumption | exact rfl); (case k1v16 => k_asm); (case k2v16 => k_asm); (case k3v16 => k_asm); (case k4v16 => k_asm); (case k5v16 => k_asm); (case k6v16 => k_is); (case k7v16 => k_is); (case k8v16 => (walk_at "my room")); (case k9v16 => first | exact BindsTo.of_eq rfl | exact binds_K (by k_in) rfl (by k_is) rfl rfl rfl); (case c5v16 => decide); (case kBv16 => exact locs rfl); (case c2v16 => exact rfl); (case c3v16 => exact rfl); (case c4v16 => exact rfl); k_whole; intro g'q L'q h'q FG'q F'q N'q B'q X'q T'q; (try dsimp only at N'q); (try k_fold)) | k_dflt (refine' code_defC ?k1v16 ?k2v16 ?k3v16 ?k4v16 ?k5v16 ?kAv16 ?kFv16 ?kKv16 ?k6v16 ?k7v16 ?k8v16 ?k9v16 ?kBv16 ?kDv16 ?_ ?c2v16 ?c3v16 ?c4v16; (case kAv16 => exact rfl); (case kFv16 => first | assumption | exact rfl); (case kKv16 => first | assumption | exact rfl); (case k1v16 => k_asm); (case k2v16 => k_asm); (case k3v16 => k_asm); (case k4v16 => k_asm); (case k5v16 => k_asm); (case k6v16 => k_is); (case k7v16 => k_is); (case k8v16 => (walk_at "my room")); (case k9v16 => first | exact BindsTo.of_eq rfl | exact binds_K (by k_in) rfl (by k_is) rfl rfl rfl); (case kBv16 => exact rfl); (case kDv16 => decide +kernel); (case c2v16 => exact rfl); (case c3v16 => exact rfl); (case c4v16 => exact rfl); k_whole; intro g'q L'q h'q tk'q cells'q FG'q F'q N'q Y'q B'q X'q T'q l1; (try k_lt l1); k_cells Y'q; (try simp only [List.cons_append, List.nil_append] at N'q); (try k_fold)))) | fail)) | fail); (all_goals k_steps)))
  all_goals ((first | (refine' ret _ _ _ [] [_, _] ?e1 ?e2 ?e3 ⟨rfl, ?e4⟩; (case e1 => k_asm); (case e2 => k_asm)) | (refine' ret _ _ _ [] [_, _, _] ?e1 ?e2 ?e3 ⟨rfl, ?e4⟩; (case e1 => k_asm); (case e2 => k_asm)) | (refine' ret _ _ _ [] [_, _, _, _] ?e1 ?e2 ?e3 ⟨rfl, ?e4⟩; (case e1 => k_asm); (case e2 => k_asm))); (case e3 => exact lt_made (by assumption) (by assumption)); (case e4 => exact ⟨_, Inst.mk (by first | k_mem | assumption) (by first | k_mem | assumption) (by repeat (first | exact Ents.nil | refine Ents.cons _ _ _ ?_))⟩))
set_option maxHeartbeats 4000000 in
theorem penalty_makes (w : World) (tw : Tok) (fr : Led) : CallsTo w 410 [.int 50 tw] [] fr 8 140 (fun r mu' tl => mu' = [] ∧ ∃ t2, Inst w.params tl 410 [("value", .int 50 t2)] r) := by
  intro prog p loose mean mg mb A env outer A₀ base h₀ L m s Q E B F X N T hh hA hf hk hd hu ret; obtain ⟨hd0, dp, frm, gd, un⟩ := A; obtain ⟨hp0, gs0, dr0, tk0, os0⟩ := s; dsimp only at hh hA hd hu F N ret; subst hh hA; have hSt := StK.mk gs0 dr0 os0; (try simp only [List.cons_append, List.nil_append] at N)
  (k_steps; repeat' ((with_reducible refine Halt.go ?_); (first | ((with_reducible show wpAny _ _ (call _ _) _ _ _); (first | (k_here; k_dflt ((first | refine' CallsTo.useP (is_whole_calls _ _ _ _ _ _ _ ?p1v17 ?p2v17) ?k1v17 ?k2v17 ?k3v17 ?k4v17 ?k5v17 ?kHv17 ?kAv17 ?kFv17 ?kKv17 ?kdv17 ?kuv17 ?_ | refine' CallsTo.useP (check_dimen_calls _ _ _ ?p1v17 ?p2v17) ?k1v17 ?k2v17 ?k3v17 ?k4v17 ?k5v17 ?kHv17 ?kAv17 ?kFv17 ?kKv17 ?kdv17 ?kuv17 ?_ | refine' CallsTo.useP (check_code_calls _ _ _ ?p1v17 ?p2v17) ?k1v17 ?k2v17 ?k3v17 ?k4v17 ?k5v17 ?kHv17 ?kAv17 ?kFv17 ?kKv17 ?kdv17 ?kuv17 ?_ | refine' CallsTo.useP (check_number_calls _ _ _ ?p1v17 ?p2v17) ?k1v17 ?k2v17 ?k3v17 ?k4v17 ?k5v17 ?kHv17 ?kAv17 ?kFv17 ?kKv17 ?kdv17 ?kuv17 ?_); (case k1v17 => k_asm); (case k2v17 => k_asm); (case k3v17 => k_asm); (case k4v17 => k_asm); (case k5v17 => k_asm); (case kHv17 => exact rfl); (case kAv17 => exact rfl); (case kFv17 => first | assumption | exact rfl); (case kKv17 => first | assumption | exact rfl); (case kdv17 => (walk_at "my room")); (case kuv17 => (walk_at "my room")); (case p1v17 => omega); (case p2v17 => omega); k_whole; (intro h'q tk'q F'q N'q); (try k_sweep); (try k_fold))) | (k_here; k_dflt (refine' call_cls ?k1v16 ?k2v16 ?k3v16 ?k4v16 ?k5v16 ?k6v16 ?_; (case k1v16 => k_asm); (case k2v16 => k_asm); (case k3v16 => k_asm); (case k4v16 => k_is); (case k5v16 => k_is); (case k6v16 => k_is); k_whole; intro x'q d'q h'q F'q N'q l1 l2; (try k_lt l1); (try k_lt2 l2); (try k_sweep); first | k_dflt (refine' code_def ?k1v16 ?k2v16 ?k3v16 ?k4v16 ?k5v16 ?kAv16 ?kFv16 ?kKv16 ?k6v16 ?k7v16 ?k8v16 ?k9v16 ?kBv16 ?_ ?c2v16 ?c3v16 ?c4v16 ?c5v16; (case kAv16 => exact rfl); (case kFv16 => first | assumption | exact rfl); (case kKv16 => first | assumption | exact rfl); (case k1v16 => k_asm); (case k2v16 => k_asm); (case k3v16 => k_asm); (case k4v16 => k_asm); (case k5v16 => k_asm); (case k6v16 => k_is); (case k7v16 => k_is); (case k8v16 => (walk_at "my room")); (case k9v16 => first | exact BindsTo.of_eq rfl | exact binds_K (by k_in) rfl (by k_is) rfl rfl rfl); (case c5v16 => decide); (case kBv16 => exact locs rfl); (case c2v16 => exact rfl); (case c3v16 => exact rfl); (case c4v16 => exact rfl); k_whole; intro g'q L'q h'q FG'q F'q N'q B'q X'q T'q; (try dsimp only at N'q); (try k_fold)) | k_dflt (refine' code_defC ?k1v16 ?k2v16 ?k3v16 ?k4v16 ?k5v16 ?kAv16 ?kFv16 ?kKv16 ?k6v16 ?k7v16 ?k8v16 ?k9v16 ?kBv16 ?kDv16 ?_ ?c2v16 ?c3v16 ?c4v16; (case kAv16 => exact rfl); (case kFv16 => first | assumption | exact rfl); (case kKv16 => first | assumption | exact rfl); (case k1v16 => k_asm); (case k2v16 => k_asm); (case k3v16 => k_asm); (case k4v16 => k_asm); (case k5v16 => k_asm); (case k6v16 => k_is); (case k7v16 => k_is); (case k8v16 => (walk_at "my room")); (case k9v16 => first | exact BindsTo.of_eq rfl | exact binds_K (by k_in) rfl (by k_is) rfl rfl rfl); (case kBv16 => exact rfl); (case kDv16 => decide +kernel); (case c2v16 => exact rfl); (case c3v16 => exact rfl); (case c4v16 => exact rfl); k_whole; intro g'q L'q h'q tk'q cells'q FG'q F'q N'q Y'q B'q X'q T'q l1; (try k_lt l1); k_cells Y'q; (try simp only [List.cons_append, List.nil_append] at N'q); (try k_fold)))) | fail)) | fail); (all_goals k_steps)))
  all_goals ((first | (refine' ret _ _ _ [] [_, _] ?e1 ?e2 ?e3 ⟨rfl, ?e4⟩; (case e1 => k_asm); (case e2 => k_asm)) | (refine' ret _ _ _ [] [_, _, _] ?e1 ?e2 ?e3 ⟨rfl, ?e4⟩; (case e1 => k_asm); (case e2 => k_asm)) | (refine' ret _ _ _ [] [_, _, _, _] ?e1 ?e2 ?e3 ⟨rfl, ?e4⟩; (case e1 => k_asm); (case e2 => k_asm))); (case e3 => exact lt_made (by assumption) (by assumption)); (case e4 => exact ⟨_, Inst.mk (by first | k_mem | assumption) (by first | k_mem | assumption) (by repeat (first | exact Ents.nil | refine Ents.cons _ _ _ ?_))⟩))
set_option maxHeartbeats 4000000 in
theorem char_makes (w : World) (font : Addr) (c : Int) (tw : Tok) (h1 : 0 ≤ c) (h2 : c ≤ 255) (fr : Led) : CallsTo w 284 [.ref font, .int c tw] [] fr 8 140 (fun r mu' tl => mu' = [] ∧ CharIn w.params tl font c r) := by
  intro prog p loose mean mg mb A env outer A₀ base h₀ L m s Q E B F X N T hh hA hf hk hd hu ret; obtain ⟨hd0, dp, frm, gd, un⟩ := A; obtain ⟨hp0, gs0, dr0, tk0, os0⟩ := s; dsimp only at hh hA hd hu F N ret; subst hh hA; have hSt := StK.mk gs0 dr0 os0; (try simp only [List.cons_append, List.nil_append] at N)
  (k_steps; repeat' ((with_reducible refine Halt.go ?_); (first | ((with_reducible show wpAny _ _ (call _ _) _ _ _); (first | (k_here; k_dflt ((first | refine' CallsTo.useP (is_whole_calls _ _ _ _ _ _ _ ?p1v17 ?p2v17) ?k1v17 ?k2v17 ?k3v17 ?k4v17 ?k5v17 ?kHv17 ?kAv17 ?kFv17 ?kKv17 ?kdv17 ?kuv17 ?_ | refine' CallsTo.useP (check_dimen_calls _ _ _ ?p1v17 ?p2v17) ?k1v17 ?k2v17 ?k3v17 ?k4v17 ?k5v17 ?kHv17 ?kAv17 ?kFv17 ?kKv17 ?kdv17 ?kuv17 ?_ | refine' CallsTo.useP (check_code_calls _ _ _ ?p1v17 ?p2v17) ?k1v17 ?k2v17 ?k3v17 ?k4v17 ?k5v17 ?kHv17 ?kAv17 ?kFv17 ?kKv17 ?kdv17 ?kuv17 ?_ | refine' CallsTo.useP (check_number_calls _ _ _ ?p1v17 ?p2v17) ?k1v17 ?k2v17 ?k3v17 ?k4v17 ?k5v17 ?kHv17 ?kAv17 ?kFv17 ?kKv17 ?kdv17 ?kuv17 ?_); (case k1v17 => k_asm); (case k2v17 => k_asm); (case k3v17 => k_asm); (case k4v17 => k_asm); (case k5v17 => k_asm); (case kHv17 => exact rfl); (case kAv17 => exact rfl); (case kFv17 => first | assumption | exact rfl); (case kKv17 => first | assumption | exact rfl); (case kdv17 => (walk_at "my room")); (case kuv17 => (walk_at "my room")); (case p1v17 => omega); (case p2v17 => omega); k_whole; (intro h'q tk'q F'q N'q); (try k_sweep); (try k_fold))) | (k_here; k_dflt (refine' call_cls ?k1v16 ?k2v16 ?k3v16 ?k4v16 ?k5v16 ?k6v16 ?_; (case k1v16 => k_asm); (case k2v16 => k_asm); (case k3v16 => k_asm); (case k4v16 => k_is); (case k5v16 => k_is); (case k6v16 => k_is); k_whole; intro x'q d'q h'q F'q N'q l1 l2; (try k_lt l1); (try k_lt2 l2); (try k_sweep); first | k_dflt (refine' code_def ?k1v16 ?k2v16 ?k3v16 ?k4v16 ?k5v16 ?kAv16 ?kFv16 ?kKv16 ?k6v16 ?k7v16 ?k8v16 ?k9v16 ?kBv16 ?_ ?c2v16 ?c3v16 ?c4v16 ?c5v16; (case kAv16 => exact rfl); (case kFv16 => first | assumption | exact rfl); (case kKv16 => first | assumption | exact rfl); (case k1v16 => k_asm); (case k2v16 => k_asm); (case k3v16 => k_asm); (case k4v16 => k_asm); (case k5v16 => k_asm); (case k6v16 => k_is); (case k7v16 => k_is); (case k8v16 => (walk_at "my room")); (case k9v16 => first | exact BindsTo.of_eq rfl | exact binds_K (by k_in) rfl (by k_is) rfl rfl rfl); (case c5v16 => decide); (case kBv16 => exact locs rfl); (case c2v16 => exact rfl); (case c3v16 => exact rfl); (case c4v16 => exact rfl); k_whole; intro g'q L'q h'q FG'q F'q N'q B'q X'q T'q; (try dsimp only at N'q); (try k_fold)) | k_dflt (refine' code_defC ?k1v16 ?k2v16 ?k3v16 ?k4v16 ?k5v16 ?kAv16 ?kFv16 ?kKv16 ?k6v16 ?k7v16 ?k8v16 ?k9v16 ?kBv16 ?kDv16 ?_ ?c2v16 ?c3v16 ?c4v16; (case kAv16 => exact rfl); (case kFv16 => first | assumption | exact rfl); (case kKv16 => first | assumption | exact rfl); (case k1v16 => k_asm); (case k2v16 => k_asm); (case k3v16 => k_asm); (case k4v16 => k_asm); (case k5v16 => k_asm); (case k6v16 => k_is); (case k7v16 => k_is); (case k8v16 => (walk_at "my room")); (case k9v16 => first | exact BindsTo.of_eq rfl | exact binds_K (by k_in) rfl (by k_is) rfl rfl rfl); (case kBv16 => exact rfl); (case kDv16 => decide +kernel); (case c2v16 => exact rfl); (case c3v16 => exact rfl); (case c4v16 => exact rfl); k_whole; intro g'q L'q h'q tk'q cells'q FG'q F'q N'q Y'q B'q X'q T'q l1; (try k_lt l1); k_cells Y'q; (try simp only [List.cons_append, List.nil_append] at N'q); (try k_fold)))) | fail)) | fail); (all_goals k_steps)))
  all_goals ((first | (refine' ret _ _ _ [] [_, _] ?e1 ?e2 ?e3 ⟨rfl, ?e4⟩; (case e1 => k_asm); (case e2 => k_asm)) | (refine' ret _ _ _ [] [_, _, _] ?e1 ?e2 ?e3 ⟨rfl, ?e4⟩; (case e1 => k_asm); (case e2 => k_asm)) | (refine' ret _ _ _ [] [_, _, _, _] ?e1 ?e2 ?e3 ⟨rfl, ?e4⟩; (case e1 => k_asm); (case e2 => k_asm))); (case e3 => exact lt_made (by assumption) (by assumption)); (case e4 => exact ⟨_, Inst.mk (by first | k_mem | assumption) (by first | k_mem | assumption) (by repeat (first | exact Ents.nil | refine Ents.cons _ _ _ ?_))⟩))
set_option maxHeartbeats 4000000 in
theorem glue_makes (w : World) (gw st so sh ho : Int) (u1 u2 u3 u4 u5 : Tok) (h1 : -1073741823 ≤ gw ∧ gw ≤ 1073741823) (h2 : -1073741823 ≤ st ∧ st ≤ 1073741823) (h3 : 0 ≤ so ∧ so < 4) (h4 : -1073741823 ≤ sh ∧ sh ≤ 1073741823) (h5 : 0 ≤ ho ∧ ho < 4) (fr : Led) :
    CallsTo w 225 [.int gw u1, .int st u2, .int so u3, .int sh u4, .int ho u5] [] fr 8 140 (fun r mu' tl => mu' = [] ∧ GlueIn w.params tl gw st (if st = 0 then 0 else so) sh (if sh = 0 then 0 else ho) r) := by
  intro prog p loose mean mg mb A env outer A₀ base h₀ L m s Q E B F X N T hh hA hf hk hd hu ret; obtain ⟨hd0, dp, frm, gd, un⟩ := A; obtain ⟨hp0, gs0, dr0, tk0, os0⟩ := s; dsimp only at hh hA hd hu F N ret; subst hh hA; have hSt := StK.mk gs0 dr0 os0; (try simp only [List.cons_append, List.nil_append] at N)
  (k_steps; repeat' ((with_reducible refine Halt.go ?_); (first | ((with_reducible show wpAny _ _ (call _ _) _ _ _); (first | (k_here; k_dflt ((first | refine' CallsTo.useP (is_whole_calls _ _ _ _ _ _ _ ?p1v17 ?p2v17) ?k1v17 ?k2v17 ?k3v17 ?k4v17 ?k5v17 ?kHv17 ?kAv17 ?kFv17 ?kKv17 ?kdv17 ?kuv17 ?_ | refine' CallsTo.useP (check_dimen_calls _ _ _ ?p1v17 ?p2v17) ?k1v17 ?k2v17 ?k3v17 ?k4v17 ?k5v17 ?kHv17 ?kAv17 ?kFv17 ?kKv17 ?kdv17 ?kuv17 ?_ | refine' CallsTo.useP (check_code_calls _ _ _ ?p1v17 ?p2v17) ?k1v17 ?k2v17 ?k3v17 ?k4v17 ?k5v17 ?kHv17 ?kAv17 ?kFv17 ?kKv17 ?kdv17 ?kuv17 ?_ | refine' CallsTo.useP (check_number_calls _ _ _ ?p1v17 ?p2v17) ?k1v17 ?k2v17 ?k3v17 ?k4v17 ?k5v17 ?kHv17 ?kAv17 ?kFv17 ?kKv17 ?kdv17 ?kuv17 ?_); (case k1v17 => k_asm); (case k2v17 => k_asm); (case k3v17 => k_asm); (case k4v17 => k_asm); (case k5v17 => k_asm); (case kHv17 => exact rfl); (case kAv17 => exact rfl); (case kFv17 => first | assumption | exact rfl); (case kKv17 => first | assumption | exact rfl); (case kdv17 => (walk_at "my room")); (case kuv17 => (walk_at "my room")); (case p1v17 => omega); (case p2v17 => omega); k_whole; (intro h'q tk'q F'q N'q); (try k_sweep); (try k_fold))) | (k_here; k_dflt (refine' call_cls ?k1v16 ?k2v16 ?k3v16 ?k4v16 ?k5v16 ?k6v16 ?_; (case k1v16 => k_asm); (case k2v16 => k_asm); (case k3v16 => k_asm); (case k4v16 => k_is); (case k5v16 => k_is); (case k6v16 => k_is); k_whole; intro x'q d'q h'q F'q N'q l1 l2; (try k_lt l1); (try k_lt2 l2); (try k_sweep); first | k_dflt (refine' code_def ?k1v16 ?k2v16 ?k3v16 ?k4v16 ?k5v16 ?kAv16 ?kFv16 ?kKv16 ?k6v16 ?k7v16 ?k8v16 ?k9v16 ?kBv16 ?_ ?c2v16 ?c3v16 ?c4v16 ?c5v16; (case kAv16 => exact rfl); (case kFv16 => first | assumption | exact rfl); (case kKv16 => first | assumption | exact rfl); (case k1v16 => k_asm); (case k2v16 => k_asm); (case k3v16 => k_asm); (case k4v16 => k_asm); (case k5v16 => k_asm); (case k6v16 => k_is); (case k7v16 => k_is); (case k8v16 => (walk_at "my room")); (case k9v16 => first | exact BindsTo.of_eq rfl | exact binds_K (by k_in) rfl (by k_is) rfl rfl rfl); (case c5v16 => decide); (case kBv16 => exact locs rfl); (case c2v16 => exact rfl); (case c3v16 => exact rfl); (case c4v16 => exact rfl); k_whole; intro g'q L'q h'q FG'q F'q N'q B'q X'q T'q; (try dsimp only at N'q); (try k_fold)) | k_dflt (refine' code_defC ?k1v16 ?k2v16 ?k3v16 ?k4v16 ?k5v16 ?kAv16 ?kFv16 ?kKv16 ?k6v16 ?k7v16 ?k8v16 ?k9v16 ?kBv16 ?kDv16 ?_ ?c2v16 ?c3v16 ?c4v16; (case kAv16 => exact rfl); (case kFv16 => first | assumption | exact rfl); (case kKv16 => first | assumption | exact rfl); (case k1v16 => k_asm); (case k2v16 => k_asm); (case k3v16 => k_asm); (case k4v16 => k_asm); (case k5v16 => k_asm); (case k6v16 => k_is); (case k7v16 => k_is); (case k8v16 => (walk_at "my room")); (case k9v16 => first | exact BindsTo.of_eq rfl | exact binds_K (by k_in) rfl (by k_is) rfl rfl rfl); (case kBv16 => exact rfl); (case kDv16 => decide +kernel); (case c2v16 => exact rfl); (case c3v16 => exact rfl); (case c4v16 => exact rfl); k_whole; intro g'q L'q h'q tk'q cells'q FG'q F'q N'q Y'q B'q X'q T'q l1; (try k_lt l1); k_cells Y'q; (try simp only [List.cons_append, List.nil_append] at N'q); (try k_fold)))) | fail)) | fail); (all_goals k_steps)))
  all_goals ((first | (refine' ret _ _ _ [] [_, _] ?e1 ?e2 ?e3 ⟨rfl, ?e4⟩; (case e1 => k_asm); (case e2 => k_asm)) | (refine' ret _ _ _ [] [_, _, _] ?e1 ?e2 ?e3 ⟨rfl, ?e4⟩; (case e1 => k_asm); (case e2 => k_asm)) | (refine' ret _ _ _ [] [_, _, _, _] ?e1 ?e2 ?e3 ⟨rfl, ?e4⟩; (case e1 => k_asm); (case e2 => k_asm))); (case e3 => exact lt_made (by assumption) (by assumption)); (case e4 => (simp only [*, if_true, if_false]; exact ex5 _ _ _ _ _ (Inst.mk (by first | k_mem | assumption) (by first | k_mem | assumption) (by repeat (first | exact Ents.nil | refine Ents.cons _ _ _ ?_))))))
end
section
local macro_rules | `(tactic| walk_at "call ref") => `(tactic| refine halt_of ?_)
local macro_rules | `(tactic| walk_at "exec For Name Tuple cons nil") => `(tactic| refine halt_of ?_)
local macro_rules | `(tactic| walk_at "pyIter ref") => `(tactic| refine halt_it ?_)
theorem three {wv dv : Value} {ow od : Option Int} {th : Tok} {i : Nat} {v : Value} (W : WidthV wv ow) (ok : ∀ i, ow = some i → -1073741823 ≤ i ∧ i ≤ 1073741823) (D : WidthV dv od) (okd : ∀ i, od = some i → i = 0) (hv : #[wv, .int 3 th, dv][i]? = some v) :
    v = .none ∨ ∃ k t, v = .int k t ∧ -1073741823 ≤ k ∧ k ≤ 1073741823 := by
  have key : ∀ {u : Value} {o : Option Int}, WidthV u o → (∀ i, o = some i → -1073741823 ≤ i ∧ i ≤ 1073741823) → u = .none ∨ ∃ k t, u = .int k t ∧ -1073741823 ≤ k ∧ k ≤ 1073741823 := by
    intro u o hu ho
    cases o with
    | none => exact .inl hu
    | some k =>
      obtain ⟨t, e⟩ := hu
      exact .inr ⟨k, t, e, ho k rfl⟩
  match i, hv with
  | 0, hv => cases hv; exact key W ok
  | 1, hv => cases hv; exact .inr ⟨3, th, rfl, by omega, by omega⟩
  | 2, hv => cases hv; exact key D fun i e => by rw [okd i e]; omega
  | i + 3, hv => simp at hv
set_option maxHeartbeats 4000000 in
theorem rule_makes (w : World) (wv : Value) (ow : Option Int) (W : WidthV wv ow) (ok : ∀ i, ow = some i → -1073741823 ≤ i ∧ i ≤ 1073741823) (th : Tok) (dv : Value) (od : Option Int) (D : WidthV dv od) (okd : ∀ i, od = some i → i = 0) (fr : Led) :
    CallsTo w 346 [wv, .int 3 th, dv] [] fr 8 140 (fun r mu' tl => mu' = [] ∧ RuleIn w.params tl ow od r) := by
  intro prog p loose mean mg mb A env outer A₀ base h₀ L m s Q E B F X N T hh hA hf hk hd hu ret; obtain ⟨hd0, dp, frm, gd, un⟩ := A; obtain ⟨hp0, gs0, dr0, tk0, os0⟩ := s; dsimp only at hh hA hd hu F N ret; subst hh hA; have hSt := StK.mk gs0 dr0 os0; (try simp only [List.cons_append, List.nil_append] at N)
  (k_steps; repeat' ((with_reducible refine Halt.go ?_); (first | ((with_reducible show wpAny _ _ (exec _ _) _ _ _); (k_here; (rename Fr _ _ _ _ => lF'q); (with_unfolding_all refine' For_invVF lF'q ?k1v20 ?k2v20 ?_; (case k1v20 => exact rfl); (case k2v20 => exact rfl); k_whole))) | ((with_reducible show wpAny _ _ (call _ _) _ _ _); (first | (k_here; k_dflt ((first | refine' CallsTo.useP (is_whole_calls _ _ _ _ _ _ _ ?p1v19 ?p2v19) ?k1v19 ?k2v19 ?k3v19 ?k4v19 ?k5v19 ?kHv19 ?kAv19 ?kFv19 ?kKv19 ?kdv19 ?kuv19 ?_ | refine' CallsTo.useP (check_dimen_calls _ _ _ ?p1v19 ?p2v19) ?k1v19 ?k2v19 ?k3v19 ?k4v19 ?k5v19 ?kHv19 ?kAv19 ?kFv19 ?kKv19 ?kdv19 ?kuv19 ?_ | refine' CallsTo.useP (check_code_calls _ _ _ ?p1v19 ?p2v19) ?k1v19 ?k2v19 ?k3v19 ?k4v19 ?k5v19 ?kHv19 ?kAv19 ?kFv19 ?kKv19 ?kdv19 ?kuv19 ?_ | refine' CallsTo.useP (check_number_calls _ _ _ ?p1v19 ?p2v19) ?k1v19 ?k2v19 ?k3v19 ?k4v19 ?k5v19 ?kHv19 ?kAv19 ?kFv19 ?kKv19 ?kdv19 ?kuv19 ?_); (case k1v19 => k_asm); (case k2v19 => k_asm); (case k3v19 => k_asm); (case k4v19 => k_asm); (case k5v19 => k_asm); (case kHv19 => exact rfl); (case kAv19 => exact rfl); (case kFv19 => first | assumption | exact rfl); (case kKv19 => first | assumption | exact rfl); (case kdv19 => (walk_at "my room")); (case kuv19 => (walk_at "my room")); (case p1v19 => omega); (case p2v19 => omega); k_whole; (intro h'q tk'q F'q N'q); (try k_sweep); (try k_fold))) | (k_here; k_dflt (refine' call_cls ?k1v18 ?k2v18 ?k3v18 ?k4v18 ?k5v18 ?k6v18 ?_; (case k1v18 => k_asm); (case k2v18 => k_asm); (case k3v18 => k_asm); (case k4v18 => k_is); (case k5v18 => k_is); (case k6v18 => k_is); k_whole; intro x'q d'q h'q F'q N'q l1 l2; (try k_lt l1); (try k_lt2 l2); (try k_sweep); first | k_dflt (refine' code_def ?k1v18 ?k2v18 ?k3v18 ?k4v18 ?k5v18 ?kAv18 ?kFv18 ?kKv18 ?k6v18 ?k7v18 ?k8v18 ?k9v18 ?kBv18 ?_ ?c2v18 ?c3v18 ?c4v18 ?c5v18; (case kAv18 => exact rfl); (case kFv18 => first | assumption | exact rfl); (case kKv18 => first | assumption | exact rfl); (case k1v18 => k_asm); (case k2v18 => k_asm); (case k3v18 => k_asm); (case k4v18 => k_asm); (case k5v18 => k_asm); (case k6v18 => k_is); (case k7v18 => k_is); (case k8v18 => (walk_at "my room")); (case k9v18 => first | exact BindsTo.of_eq rfl | exact binds_K (by k_in) rfl (by k_is) rfl rfl rfl); (case c5v18 => decide); (case kBv18 => exact locs rfl); (case c2v18 => exact rfl); (case c3v18 => exact rfl); (case c4v18 => exact rfl); k_whole; intro g'q L'q h'q FG'q F'q N'q B'q X'q T'q; (try dsimp only at N'q); (try k_fold)) | k_dflt (refine' code_defC ?k1v18 ?k2v18 ?k3v18 ?k4v18 ?k5v18 ?kAv18 ?kFv18 ?kKv18 ?k6v18 ?k7v18 ?k8v18 ?k9v18 ?kBv18 ?kDv18 ?_ ?c2v18 ?c3v18 ?c4v18; (case kAv18 => exact rfl); (case kFv18 => first | assumption | exact rfl); (case kKv18 => first | assumption | exact rfl); (case k1v18 => k_asm); (case k2v18 => k_asm); (case k3v18 => k_asm); (case k4v18 => k_asm); (case k5v18 => k_asm); (case k6v18 => k_is); (case k7v18 => k_is); (case k8v18 => (walk_at "my room")); (case k9v18 => first | exact BindsTo.of_eq rfl | exact binds_K (by k_in) rfl (by k_is) rfl rfl rfl); (case kBv18 => exact rfl); (case kDv18 => decide +kernel); (case c2v18 => exact rfl); (case c3v18 => exact rfl); (case c4v18 => exact rfl); k_whole; intro g'q L'q h'q tk'q cells'q FG'q F'q N'q Y'q B'q X'q T'q l1; (try k_lt l1); k_cells Y'q; (try simp only [List.cons_append, List.nil_append] at N'q); (try k_fold)))) | fail)) | fail); (all_goals k_steps)))
  refine Halt.go ?_
  refine for_tuple_keep (by rfl) (by k_asm) (by k_asm) (by k_mem) ?turn ?done
  case turn =>
    intro i v I oI h tk hv o F1 N1
    simp only [LCg.Off1, and_true] at o
    rcases three W ok D okd hv with rfl | ⟨k, t, rfl, hl, hu⟩
    all_goals ((k_steps; repeat' ((with_reducible refine Halt.go ?_); (first | ((with_reducible show wpAny _ _ (exec _ _) _ _ _); (k_here; (rename Fr _ _ _ _ => lF'q); (with_unfolding_all refine' For_invVF lF'q ?k1v20 ?k2v20 ?_; (case k1v20 => exact rfl); (case k2v20 => exact rfl); k_whole))) | ((with_reducible show wpAny _ _ (call _ _) _ _ _); (first | (k_here; k_dflt ((first | refine' CallsTo.useP (is_whole_calls _ _ _ _ _ _ _ ?p1v19 ?p2v19) ?k1v19 ?k2v19 ?k3v19 ?k4v19 ?k5v19 ?kHv19 ?kAv19 ?kFv19 ?kKv19 ?kdv19 ?kuv19 ?_ | refine' CallsTo.useP (check_dimen_calls _ _ _ ?p1v19 ?p2v19) ?k1v19 ?k2v19 ?k3v19 ?k4v19 ?k5v19 ?kHv19 ?kAv19 ?kFv19 ?kKv19 ?kdv19 ?kuv19 ?_ | refine' CallsTo.useP (check_code_calls _ _ _ ?p1v19 ?p2v19) ?k1v19 ?k2v19 ?k3v19 ?k4v19 ?k5v19 ?kHv19 ?kAv19 ?kFv19 ?kKv19 ?kdv19 ?kuv19 ?_ | refine' CallsTo.useP (check_number_calls _ _ _ ?p1v19 ?p2v19) ?k1v19 ?k2v19 ?k3v19 ?k4v19 ?k5v19 ?kHv19 ?kAv19 ?kFv19 ?kKv19 ?kdv19 ?kuv19 ?_); (case k1v19 => k_asm); (case k2v19 => k_asm); (case k3v19 => k_asm); (case k4v19 => k_asm); (case k5v19 => k_asm); (case kHv19 => exact rfl); (case kAv19 => exact rfl); (case kFv19 => first | assumption | exact rfl); (case kKv19 => first | assumption | exact rfl); (case kdv19 => (walk_at "my room")); (case kuv19 => (walk_at "my room")); (case p1v19 => omega); (case p2v19 => omega); k_whole; (intro h'q tk'q F'q N'q); (try k_sweep); (try k_fold))) | (k_here; k_dflt (refine' call_cls ?k1v18 ?k2v18 ?k3v18 ?k4v18 ?k5v18 ?k6v18 ?_; (case k1v18 => k_asm); (case k2v18 => k_asm); (case k3v18 => k_asm); (case k4v18 => k_is); (case k5v18 => k_is); (case k6v18 => k_is); k_whole; intro x'q d'q h'q F'q N'q l1 l2; (try k_lt l1); (try k_lt2 l2); (try k_sweep); first | k_dflt (refine' code_def ?k1v18 ?k2v18 ?k3v18 ?k4v18 ?k5v18 ?kAv18 ?kFv18 ?kKv18 ?k6v18 ?k7v18 ?k8v18 ?k9v18 ?kBv18 ?_ ?c2v18 ?c3v18 ?c4v18 ?c5v18; (case kAv18 => exact rfl); (case kFv18 => first | assumption | exact rfl); (case kKv18 => first | assumption | exact rfl); (case k1v18 => k_asm); (case k2v18 => k_asm); (case k3v18 => k_asm); (case k4v18 => k_asm); (case k5v18 => k_asm); (case k6v18 => k_is); (case k7v18 => k_is); (case k8v18 => (walk_at "my room")); (case k9v18 => first | exact BindsTo.of_eq rfl | exact binds_K (by k_in) rfl (by k_is) rfl rfl rfl); (case c5v18 => decide); (case kBv18 => exact locs rfl); (case c2v18 => exact rfl); (case c3v18 => exact rfl); (case c4v18 => exact rfl); k_whole; intro g'q L'q h'q FG'q F'q N'q B'q X'q T'q; (try dsimp only at N'q); (try k_fold)) | k_dflt (refine' code_defC ?k1v18 ?k2v18 ?k3v18 ?k4v18 ?k5v18 ?kAv18 ?kFv18 ?kKv18 ?k6v18 ?k7v18 ?k8v18 ?k9v18 ?kBv18 ?kDv18 ?_ ?c2v18 ?c3v18 ?c4v18; (case kAv18 => exact rfl); (case kFv18 => first | assumption | exact rfl); (case kKv18 => first | assumption | exact rfl); (case k1v18 => k_asm); (case k2v18 => k_asm); (case k3v18 => k_asm); (case k4v18 => k_asm); (case k5v18 => k_asm); (case k6v18 => k_is); (case k7v18 => k_is); (case k8v18 => (walk_at "my room")); (case k9v18 => first | exact BindsTo.of_eq rfl | exact binds_K (by k_in) rfl (by k_is) rfl rfl rfl); (case kBv18 => exact rfl); (case kDv18 => decide +kernel); (case c2v18 => exact rfl); (case c3v18 => exact rfl); (case c4v18 => exact rfl); k_whole; intro g'q L'q h'q tk'q cells'q FG'q F'q N'q Y'q B'q X'q T'q l1; (try k_lt l1); k_cells Y'q; (try simp only [List.cons_append, List.nil_append] at N'q); (try k_fold)))) | fail)) | fail); (all_goals k_steps))); exact ForPost.keep (by k_asm) (by k_asm) (by simp only [LCg.Off1, and_true]; exact o) (fun y hy => if_neg hy))
  case done =>
    intro u h tk F1 N1
    (k_steps; repeat' ((with_reducible refine Halt.go ?_); (first | ((with_reducible show wpAny _ _ (exec _ _) _ _ _); (k_here; (rename Fr _ _ _ _ => lF'q); (with_unfolding_all refine' For_invVF lF'q ?k1v20 ?k2v20 ?_; (case k1v20 => exact rfl); (case k2v20 => exact rfl); k_whole))) | ((with_reducible show wpAny _ _ (call _ _) _ _ _); (first | (k_here; k_dflt ((first | refine' CallsTo.useP (is_whole_calls _ _ _ _ _ _ _ ?p1v19 ?p2v19) ?k1v19 ?k2v19 ?k3v19 ?k4v19 ?k5v19 ?kHv19 ?kAv19 ?kFv19 ?kKv19 ?kdv19 ?kuv19 ?_ | refine' CallsTo.useP (check_dimen_calls _ _ _ ?p1v19 ?p2v19) ?k1v19 ?k2v19 ?k3v19 ?k4v19 ?k5v19 ?kHv19 ?kAv19 ?kFv19 ?kKv19 ?kdv19 ?kuv19 ?_ | refine' CallsTo.useP (check_code_calls _ _ _ ?p1v19 ?p2v19) ?k1v19 ?k2v19 ?k3v19 ?k4v19 ?k5v19 ?kHv19 ?kAv19 ?kFv19 ?kKv19 ?kdv19 ?kuv19 ?_ | refine' CallsTo.useP (check_number_calls _ _ _ ?p1v19 ?p2v19) ?k1v19 ?k2v19 ?k3v19 ?k4v19 ?k5v19 ?kHv19 ?kAv19 ?kFv19 ?kKv19 ?kdv19 ?kuv19 ?_); (case k1v19 => k_asm); (case k2v19 => k_asm); (case k3v19 => k_asm); (case k4v19 => k_asm); (case k5v19 => k_asm); (case kHv19 => exact rfl); (case kAv19 => exact rfl); (case kFv19 => first | assumption | exact rfl); (case kKv19 => first | assumption | exact rfl); (case kdv19 => (walk_at "my room")); (case kuv19 => (walk_at "my room")); (case p1v19 => omega); (case p2v19 => omega); k_whole; (intro h'q tk'q F'q N'q); (try k_sweep); (try k_fold))) | (k_here; k_dflt (refine' call_cls ?k1v18 ?k2v18 ?k3v18 ?k4v18 ?k5v18 ?k6v18 ?_; (case k1v18 => k_asm); (case k2v18 => k_asm); (case k3v18 => k_asm); (case k4v18 => k_is); (case k5v18 => k_is); (case k6v18 => k_is); k_whole; intro x'q d'q h'q F'q N'q l1 l2; (try k_lt l1); (try k_lt2 l2); (try k_sweep); first | k_dflt (refine' code_def ?k1v18 ?k2v18 ?k3v18 ?k4v18 ?k5v18 ?kAv18 ?kFv18 ?kKv18 ?k6v18 ?k7v18 ?k8v18 ?k9v18 ?kBv18 ?_ ?c2v18 ?c3v18 ?c4v18 ?c5v18; (case kAv18 => exact rfl); (case kFv18 => first | assumption | exact rfl); (case kKv18 => first | assumption | exact rfl); (case k1v18 => k_asm); (case k2v18 => k_asm); (case k3v18 => k_asm); (case k4v18 => k_asm); (case k5v18 => k_asm); (case k6v18 => k_is); (case k7v18 => k_is); (case k8v18 => (walk_at "my room")); (case k9v18 => first | exact BindsTo.of_eq rfl | exact binds_K (by k_in) rfl (by k_is) rfl rfl rfl); (case c5v18 => decide); (case kBv18 => exact locs rfl); (case c2v18 => exact rfl); (case c3v18 => exact rfl); (case c4v18 => exact rfl); k_whole; intro g'q L'q h'q FG'q F'q N'q B'q X'q T'q; (try dsimp only at N'q); (try k_fold)) | k_dflt (refine' code_defC ?k1v18 ?k2v18 ?k3v18 ?k4v18 ?k5v18 ?kAv18 ?kFv18 ?kKv18 ?k6v18 ?k7v18 ?k8v18 ?k9v18 ?kBv18 ?kDv18 ?_ ?c2v18 ?c3v18 ?c4v18; (case kAv18 => exact rfl); (case kFv18 => first | assumption | exact rfl); (case kKv18 => first | assumption | exact rfl); (case k1v18 => k_asm); (case k2v18 => k_asm); (case k3v18 => k_asm); (case k4v18 => k_asm); (case k5v18 => k_asm); (case k6v18 => k_is); (case k7v18 => k_is); (case k8v18 => (walk_at "my room")); (case k9v18 => first | exact BindsTo.of_eq rfl | exact binds_K (by k_in) rfl (by k_is) rfl rfl rfl); (case kBv18 => exact rfl); (case kDv18 => decide +kernel); (case c2v18 => exact rfl); (case c3v18 => exact rfl); (case c4v18 => exact rfl); k_whole; intro g'q L'q h'q tk'q cells'q FG'q F'q N'q Y'q B'q X'q T'q l1; (try k_lt l1); k_cells Y'q; (try simp only [List.cons_append, List.nil_append] at N'q); (try k_fold)))) | fail)) | fail); (all_goals k_steps)))
    all_goals ((refine' ret _ _ _ [] [_, _] ?e1 (news_tl ?e2) ?e3 ⟨rfl, ?e4⟩; (case e1 => k_asm); (case e2 => k_asm)); (case e3 => exact lt_made (by assumption) (by assumption)); (case e4 => exact ⟨_, _, _, W, D, Inst.mk (by first | k_mem | assumption) (by first | k_mem | assumption) (by repeat (first | exact Ents.nil | refine Ents.cons _ _ _ ?_))⟩))
end
section
local macro_rules | `(tactic| walk_at "call ref") => `(tactic| refine halt_of ?_)
abbrev boxEs (P : Params) (k0 k1 k2 k3 k4 k5 k6 k7 k8 : Tok) (v0 v1 v2 v3 v4 v5 v6 v7 v8 : Value) : List DictEntry := [⟨PyData.keyHash P (Str.ofString "kind"), .str (Str.ofString "kind") k0, v0⟩, ⟨PyData.keyHash P (Str.ofString "width"), .str (Str.ofString "width") k1, v1⟩, ⟨PyData.keyHash P (Str.ofString "height"), .str (Str.ofString "height") k2, v2⟩, ⟨PyData.keyHash P (Str.ofString "depth"), .str (Str.ofString "depth") k3, v3⟩, ⟨PyData.keyHash P (Str.ofString "items"), .str (Str.ofString "items") k4, v4⟩, ⟨PyData.keyHash P (Str.ofString "shift"), .str (Str.ofString "shift") k5, v5⟩, ⟨PyData.keyHash P (Str.ofString "sign"), .str (Str.ofString "sign") k6, v6⟩, ⟨PyData.keyHash P (Str.ofString "order"), .str (Str.ofString "order") k7, v7⟩, ⟨PyData.keyHash P (Str.ofString "ratio"), .str (Str.ofString "ratio") k8, v8⟩]
theorem CallsTo.mono {w : World} {f : Addr} {args : List Value} {mu fr : Led} {dd uu : Nat} {post post' : Value → Led → Led → Prop} (C : CallsTo w f args mu fr dd uu post) (h : ∀ r mu' tl, post r mu' tl → post' r mu' tl) : CallsTo w f args mu fr dd uu post' := by
  intro prog p loose mean mg mb A env outer A₀ base h₀ L m s Q E B F X N T hh hA hf hk hd hu ret
  exact C prog p loose mean mg mb A env outer A₀ base h₀ L m s Q E B F X N T hh hA hf hk hd hu fun r h' tk' mu' tl F N o hp => ret r h' tk' mu' tl F N o (h _ _ _ hp)
def BoxRaw (P : Params) (la : Addr) (kw : Int) (r : Value) (tl : Led) : Prop :=
  ∃ x d ra rk k0 k1 k2 k3 k4 k5 k6 k7 k8 t0 t1 t2 t3 t4 t5 t6 t7 t8, r = .ref x ∧ tl = [(ra, tupO [.int 0 t7, .int 1 t8] rk), (x, instObj 325 d), (d, dictOf (boxEs P k0 k1 k2 k3 k4 k5 k6 k7 k8 (.int 2 t0) (.int kw t1) (.int 5 t2) (.int 0 t3) (.ref la) (.int 0 t4) (.int 0 t5) (.int 0 t6) (.ref ra)) 9)] ∧ @LT.lt Nat _ d x ∧ @LT.lt Nat _ x ra
set_option maxHeartbeats 4000000 in
theorem box_raw (w : World) (kw : Int) (tw t1 t2 t3 : Tok) (la : Addr) (h1 : -1073741823 ≤ kw) (h2 : kw ≤ 1073741823) (fr : Led) : CallsTo w 325 [.int 2 t1, .int kw tw, .int 5 t2, .int 0 t3, .ref la] [] fr 8 140 (fun r mu' tl => mu' = [] ∧ BoxRaw w.params la kw r tl) := by
  intro prog p loose mean mg mb A env outer A₀ base h₀ L m s Q E B F X N T hh hA hf hk hd hu ret; obtain ⟨hd0, dp, frm, gd, un⟩ := A; obtain ⟨hp0, gs0, dr0, tk0, os0⟩ := s; dsimp only at hh hA hd hu F N ret; subst hh hA; have hSt := StK.mk gs0 dr0 os0; (try simp only [List.cons_append, List.nil_append] at N)
  (k_steps; repeat' ((with_reducible refine Halt.go ?_); (first | ((with_reducible show wpAny _ _ (call _ _) _ _ _); (first | (k_here; k_dflt ((first | refine' CallsTo.useP (is_whole_calls _ _ _ _ _ _ _ ?p1v22 ?p2v22) ?k1v22 ?k2v22 ?k3v22 ?k4v22 ?k5v22 ?kHv22 ?kAv22 ?kFv22 ?kKv22 ?kdv22 ?kuv22 ?_ | refine' CallsTo.useP (check_dimen_calls _ _ _ ?p1v22 ?p2v22) ?k1v22 ?k2v22 ?k3v22 ?k4v22 ?k5v22 ?kHv22 ?kAv22 ?kFv22 ?kKv22 ?kdv22 ?kuv22 ?_ | refine' CallsTo.useP (check_code_calls _ _ _ ?p1v22 ?p2v22) ?k1v22 ?k2v22 ?k3v22 ?k4v22 ?k5v22 ?kHv22 ?kAv22 ?kFv22 ?kKv22 ?kdv22 ?kuv22 ?_ | refine' CallsTo.useP (check_number_calls _ _ _ ?p1v22 ?p2v22) ?k1v22 ?k2v22 ?k3v22 ?k4v22 ?k5v22 ?kHv22 ?kAv22 ?kFv22 ?kKv22 ?kdv22 ?kuv22 ?_); (case k1v22 => k_asm); (case k2v22 => k_asm); (case k3v22 => k_asm); (case k4v22 => k_asm); (case k5v22 => k_asm); (case kHv22 => exact rfl); (case kAv22 => exact rfl); (case kFv22 => first | assumption | exact rfl); (case kKv22 => first | assumption | exact rfl); (case kdv22 => (walk_at "my room")); (case kuv22 => (walk_at "my room")); (case p1v22 => omega); (case p2v22 => omega); k_whole; (intro h'q tk'q F'q N'q); (try k_sweep); (try k_fold))) | (k_here; k_dflt (refine' call_cls ?k1v21 ?k2v21 ?k3v21 ?k4v21 ?k5v21 ?k6v21 ?_; (case k1v21 => k_asm); (case k2v21 => k_asm); (case k3v21 => k_asm); (case k4v21 => k_is); (case k5v21 => k_is); (case k6v21 => k_is); k_whole; intro x'q d'q h'q F'q N'q l1 l2; (try k_lt l1); (try k_lt2 l2); (try k_sweep); first | k_dflt (refine' code_def ?k1v21 ?k2v21 ?k3v21 ?k4v21 ?k5v21 ?kAv21 ?kFv21 ?kKv21 ?k6v21 ?k7v21 ?k8v21 ?k9v21 ?kBv21 ?_ ?c2v21 ?c3v21 ?c4v21 ?c5v21; (case kAv21 => exact rfl); (case kFv21 => first | assumption | exact rfl); (case kKv21 => first | assumption | exact rfl); (case k1v21 => k_asm); (case k2v21 => k_asm); (case k3v21 => k_asm); (case k4v21 => k_asm); (case k5v21 => k_asm); (case k6v21 => k_is); (case k7v21 => k_is); (case k8v21 => (walk_at "my room")); (case k9v21 => first | exact BindsTo.of_eq rfl | exact binds_K (by k_in) rfl (by k_is) rfl rfl rfl); (case c5v21 => decide); (case kBv21 => exact locs rfl); (case c2v21 => exact rfl); (case c3v21 => exact rfl); (case c4v21 => exact rfl); k_whole; intro g'q L'q h'q FG'q F'q N'q B'q X'q T'q; (try dsimp only at N'q); (try k_fold)) | k_dflt (refine' code_defC ?k1v21 ?k2v21 ?k3v21 ?k4v21 ?k5v21 ?kAv21 ?kFv21 ?kKv21 ?k6v21 ?k7v21 ?k8v21 ?k9v21 ?kBv21 ?kDv21 ?_ ?c2v21 ?c3v21 ?c4v21; (case kAv21 => exact rfl); (case kFv21 => first | assumption | exact rfl); (case kKv21 => first | assumption | exact rfl); (case k1v21 => k_asm); (case k2v21 => k_asm); (case k3v21 => k_asm); (case k4v21 => k_asm); (case k5v21 => k_asm); (case k6v21 => k_is); (case k7v21 => k_is); (case k8v21 => (walk_at "my room")); (case k9v21 => first | exact BindsTo.of_eq rfl | exact binds_K (by k_in) rfl (by k_is) rfl rfl rfl); (case kBv21 => exact rfl); (case kDv21 => decide +kernel); (case c2v21 => exact rfl); (case c3v21 => exact rfl); (case c4v21 => exact rfl); k_whole; intro g'q L'q h'q tk'q cells'q FG'q F'q N'q Y'q B'q X'q T'q l1; (try k_lt l1); k_cells Y'q; (try simp only [List.cons_append, List.nil_append] at N'q); (try k_fold)))) | fail)) | fail); (all_goals k_steps)))
  all_goals ((refine' ret _ _ _ [] [_, _, _] ?e1 ?e2 ?e3 ⟨rfl, ?e4⟩; (case e1 => k_asm); (case e2 => k_asm); (case e3 => exact lt_made3 (by assumption) (by assumption) (by assumption : _ ∧ _ ∧ AllLt _ _).1); (case e4 => exact ex8 _ _ _ _ _ _ _ _ (ex8 _ _ _ _ _ _ _ _ (ex4 _ _ _ _ (ex2 _ _ ⟨rfl, rfl, by assumption, (by assumption : _ ∧ _ ∧ AllLt _ _).1⟩))))))
theorem box_makes (w : World) (kw : Int) (tw t1 t2 t3 : Tok) (la : Addr) (h1 : -1073741823 ≤ kw) (h2 : kw ≤ 1073741823) (fr : Led) : CallsTo w 325 [.int 2 t1, .int kw tw, .int 5 t2, .int 0 t3, .ref la] [] fr 8 140 (fun r mu' tl => mu' = [] ∧ ∀ its lk l', (∀ p ∈ tl, p ∈ l') → (la, listOf its.toArray lk) ∈ l' → BoxIn w.params l' kw 0 0 0 0 1 its r) :=
  (box_raw w kw tw t1 t2 t3 la h1 h2 fr).mono fun r mu' tl h => ⟨h.1, fun its lk l' s m => by
    refine el8 h.2 fun x d ra rk k0 k1 k2 k3 h => el8 h fun k4 k5 k6 k7 k8 u0 u1 u2 h => el4 h fun u3 u4 u5 u6 h => el2 h fun u7 u8 h => ?_
    have e1 := h.1
    have e2 := h.2.1
    subst e1 e2
    exact ex8 _ _ _ _ _ _ _ _ (ex5 _ _ _ _ _ ⟨Inst.mono s (Inst.mk (by first | k_mem | assumption) (by first | k_mem | assumption) (by repeat (first | exact Ents.nil | refine Ents.cons _ _ _ ?_))), m, s _ (.head _)⟩)⟩
local macro_rules | `(tactic| walk_at "eval ListComp") => `(tactic| refine halt_of ?_)
set_option maxHeartbeats 4000000 in
theorem lig_makes (w : World) (font la : Addr) (c : Int) (tw ta tb : Tok) (n : Nat) (h1 : 0 ≤ c) (h2 : c ≤ 255) (fr : Led) (hm : (la, tupO [.int 65 ta, .int 67 tb] n) ∈ fr) : CallsTo w 304 [.ref font, .int c tw, .ref la] [] fr 8 140 (fun r mu' tl => mu' = [] ∧ LigIn w.params tl font c r) := by
  intro prog p loose mean mg mb A env outer A₀ base h₀ L m s Q E B F X N T hh hA hf hk hd hu ret; obtain ⟨hd0, dp, frm, gd, un⟩ := A; obtain ⟨hp0, gs0, dr0, tk0, os0⟩ := s; dsimp only at hh hA hd hu F N ret; subst hh hA; have hSt := StK.mk gs0 dr0 os0; (try simp only [List.cons_append, List.nil_append] at N)
  (k_steps; repeat' (first | ((with_reducible refine Halt.go ?_); (first | (k_here; (with_reducible show wpAny _ _ (eval (Expr.ListComp _ [⟨_, _, [], _⟩] _ _) _) _ _ _); k_dflt (refine comp_tup (F₀ := by k_asm) (by with_unfolding_all rfl) (by decide) (by rfl) (by decide) (by rfl) ?_)) | ((with_reducible show wpAny _ _ (call _ _) _ _ _); (first | (k_here; k_dflt ((first | refine' CallsTo.useP (is_whole_calls _ _ _ _ _ _ _ ?p1v22 ?p2v22) ?k1v22 ?k2v22 ?k3v22 ?k4v22 ?k5v22 ?kHv22 ?kAv22 ?kFv22 ?kKv22 ?kdv22 ?kuv22 ?_ | refine' CallsTo.useP (check_dimen_calls _ _ _ ?p1v22 ?p2v22) ?k1v22 ?k2v22 ?k3v22 ?k4v22 ?k5v22 ?kHv22 ?kAv22 ?kFv22 ?kKv22 ?kdv22 ?kuv22 ?_ | refine' CallsTo.useP (check_code_calls _ _ _ ?p1v22 ?p2v22) ?k1v22 ?k2v22 ?k3v22 ?k4v22 ?k5v22 ?kHv22 ?kAv22 ?kFv22 ?kKv22 ?kdv22 ?kuv22 ?_ | refine' CallsTo.useP (check_number_calls _ _ _ ?p1v22 ?p2v22) ?k1v22 ?k2v22 ?k3v22 ?k4v22 ?k5v22 ?kHv22 ?kAv22 ?kFv22 ?kKv22 ?kdv22 ?kuv22 ?_); (case k1v22 => k_asm); (case k2v22 => k_asm); (case k3v22 => k_asm); (case k4v22 => k_asm); (case k5v22 => k_asm); (case kHv22 => exact rfl); (case kAv22 => exact rfl); (case kFv22 => first | assumption | exact rfl); (case kKv22 => first | assumption | exact rfl); (case kdv22 => (walk_at "my room")); (case kuv22 => (walk_at "my room")); (case p1v22 => omega); (case p2v22 => omega); k_whole; (intro h'q tk'q F'q N'q); (try k_sweep); (try k_fold))) | (k_here; k_dflt (refine' call_cls ?k1v21 ?k2v21 ?k3v21 ?k4v21 ?k5v21 ?k6v21 ?_; (case k1v21 => k_asm); (case k2v21 => k_asm); (case k3v21 => k_asm); (case k4v21 => k_is); (case k5v21 => k_is); (case k6v21 => k_is); k_whole; intro x'q d'q h'q F'q N'q l1 l2; (try k_lt l1); (try k_lt2 l2); (try k_sweep); first | k_dflt (refine' code_def ?k1v21 ?k2v21 ?k3v21 ?k4v21 ?k5v21 ?kAv21 ?kFv21 ?kKv21 ?k6v21 ?k7v21 ?k8v21 ?k9v21 ?kBv21 ?_ ?c2v21 ?c3v21 ?c4v21 ?c5v21; (case kAv21 => exact rfl); (case kFv21 => first | assumption | exact rfl); (case kKv21 => first | assumption | exact rfl); (case k1v21 => k_asm); (case k2v21 => k_asm); (case k3v21 => k_asm); (case k4v21 => k_asm); (case k5v21 => k_asm); (case k6v21 => k_is); (case k7v21 => k_is); (case k8v21 => (walk_at "my room")); (case k9v21 => first | exact BindsTo.of_eq rfl | exact binds_K (by k_in) rfl (by k_is) rfl rfl rfl); (case c5v21 => decide); (case kBv21 => exact locs rfl); (case c2v21 => exact rfl); (case c3v21 => exact rfl); (case c4v21 => exact rfl); k_whole; intro g'q L'q h'q FG'q F'q N'q B'q X'q T'q; (try dsimp only at N'q); (try k_fold)) | k_dflt (refine' code_defC ?k1v21 ?k2v21 ?k3v21 ?k4v21 ?k5v21 ?kAv21 ?kFv21 ?kKv21 ?k6v21 ?k7v21 ?k8v21 ?k9v21 ?kBv21 ?kDv21 ?_ ?c2v21 ?c3v21 ?c4v21; (case kAv21 => exact rfl); (case kFv21 => first | assumption | exact rfl); (case kKv21 => first | assumption | exact rfl); (case k1v21 => k_asm); (case k2v21 => k_asm); (case k3v21 => k_asm); (case k4v21 => k_asm); (case k5v21 => k_asm); (case k6v21 => k_is); (case k7v21 => k_is); (case k8v21 => (walk_at "my room")); (case k9v21 => first | exact BindsTo.of_eq rfl | exact binds_K (by k_in) rfl (by k_is) rfl rfl rfl); (case kBv21 => exact rfl); (case kDv21 => decide +kernel); (case c2v21 => exact rfl); (case c3v21 => exact rfl); (case c4v21 => exact rfl); k_whole; intro g'q L'q h'q tk'q cells'q FG'q F'q N'q Y'q B'q X'q T'q l1; (try k_lt l1); k_cells Y'q; (try simp only [List.cons_append, List.nil_append] at N'q); (try k_fold)))) | fail)) | fail); (all_goals k_steps)) | ((fail_if_success (with_reducible refine Halt.go ?_)); (first | (k_here; k_dflt (refine TupSrc.mk (by rfl) (by k_asm) (by k_asm) (by first | k_mem | repeat (first | assumption | apply List.Mem.tail)) (by rw [PySem.sizeLine_eq]; simp) ?_)) | fail); (all_goals k_steps))))
  refine Halt.go (fun g' => ?_)
  refine comp_keep (R := fun v (k : Int) => ∃ t, v = .int k t) (src := [65, 67]) rfl (by first | k_mem | repeat (first | assumption | apply List.Mem.tail)) ?turn ?fin
  case turn =>
    intro i v b ys I oI C oC D m₂ h tk E' hb hv hC hx F2 N2 off3 ne3
    have hv2 : ∃ t, v = .int b t ∧ 0 ≤ b ∧ b ≤ 255 := by
      match i, hb, hv with
      | 0, hb, hv => cases hb; cases hv; exact ⟨_, rfl, by omega, by omega⟩
      | 1, hb, hv => cases hb; cases hv; exact ⟨_, rfl, by omega, by omega⟩
      | i + 2, hb, hv => simp at hb
    obtain ⟨t, rfl, hb0, hb1⟩ := hv2
    (try simp only [LCg.Off3, and_true] at off3)
    (k_steps; repeat' (first | ((with_reducible refine Halt.go ?_); (first | (k_here; (with_reducible show wpAny _ _ (eval (Expr.ListComp _ [⟨_, _, [], _⟩] _ _) _) _ _ _); k_dflt (refine comp_tup (F₀ := by k_asm) (by with_unfolding_all rfl) (by decide) (by rfl) (by decide) (by rfl) ?_)) | ((with_reducible show wpAny _ _ (call _ _) _ _ _); (first | (k_here; k_dflt ((first | refine' CallsTo.useP (is_whole_calls _ _ _ _ _ _ _ ?p1v22 ?p2v22) ?k1v22 ?k2v22 ?k3v22 ?k4v22 ?k5v22 ?kHv22 ?kAv22 ?kFv22 ?kKv22 ?kdv22 ?kuv22 ?_ | refine' CallsTo.useP (check_dimen_calls _ _ _ ?p1v22 ?p2v22) ?k1v22 ?k2v22 ?k3v22 ?k4v22 ?k5v22 ?kHv22 ?kAv22 ?kFv22 ?kKv22 ?kdv22 ?kuv22 ?_ | refine' CallsTo.useP (check_code_calls _ _ _ ?p1v22 ?p2v22) ?k1v22 ?k2v22 ?k3v22 ?k4v22 ?k5v22 ?kHv22 ?kAv22 ?kFv22 ?kKv22 ?kdv22 ?kuv22 ?_ | refine' CallsTo.useP (check_number_calls _ _ _ ?p1v22 ?p2v22) ?k1v22 ?k2v22 ?k3v22 ?k4v22 ?k5v22 ?kHv22 ?kAv22 ?kFv22 ?kKv22 ?kdv22 ?kuv22 ?_); (case k1v22 => k_asm); (case k2v22 => k_asm); (case k3v22 => k_asm); (case k4v22 => k_asm); (case k5v22 => k_asm); (case kHv22 => exact rfl); (case kAv22 => exact rfl); (case kFv22 => first | assumption | exact rfl); (case kKv22 => first | assumption | exact rfl); (case kdv22 => (walk_at "my room")); (case kuv22 => (walk_at "my room")); (case p1v22 => omega); (case p2v22 => omega); k_whole; (intro h'q tk'q F'q N'q); (try k_sweep); (try k_fold))) | (k_here; k_dflt (refine' call_cls ?k1v21 ?k2v21 ?k3v21 ?k4v21 ?k5v21 ?k6v21 ?_; (case k1v21 => k_asm); (case k2v21 => k_asm); (case k3v21 => k_asm); (case k4v21 => k_is); (case k5v21 => k_is); (case k6v21 => k_is); k_whole; intro x'q d'q h'q F'q N'q l1 l2; (try k_lt l1); (try k_lt2 l2); (try k_sweep); first | k_dflt (refine' code_def ?k1v21 ?k2v21 ?k3v21 ?k4v21 ?k5v21 ?kAv21 ?kFv21 ?kKv21 ?k6v21 ?k7v21 ?k8v21 ?k9v21 ?kBv21 ?_ ?c2v21 ?c3v21 ?c4v21 ?c5v21; (case kAv21 => exact rfl); (case kFv21 => first | assumption | exact rfl); (case kKv21 => first | assumption | exact rfl); (case k1v21 => k_asm); (case k2v21 => k_asm); (case k3v21 => k_asm); (case k4v21 => k_asm); (case k5v21 => k_asm); (case k6v21 => k_is); (case k7v21 => k_is); (case k8v21 => (walk_at "my room")); (case k9v21 => first | exact BindsTo.of_eq rfl | exact binds_K (by k_in) rfl (by k_is) rfl rfl rfl); (case c5v21 => decide); (case kBv21 => exact locs rfl); (case c2v21 => exact rfl); (case c3v21 => exact rfl); (case c4v21 => exact rfl); k_whole; intro g'q L'q h'q FG'q F'q N'q B'q X'q T'q; (try dsimp only at N'q); (try k_fold)) | k_dflt (refine' code_defC ?k1v21 ?k2v21 ?k3v21 ?k4v21 ?k5v21 ?kAv21 ?kFv21 ?kKv21 ?k6v21 ?k7v21 ?k8v21 ?k9v21 ?kBv21 ?kDv21 ?_ ?c2v21 ?c3v21 ?c4v21; (case kAv21 => exact rfl); (case kFv21 => first | assumption | exact rfl); (case kKv21 => first | assumption | exact rfl); (case k1v21 => k_asm); (case k2v21 => k_asm); (case k3v21 => k_asm); (case k4v21 => k_asm); (case k5v21 => k_asm); (case k6v21 => k_is); (case k7v21 => k_is); (case k8v21 => (walk_at "my room")); (case k9v21 => first | exact BindsTo.of_eq rfl | exact binds_K (by k_in) rfl (by k_is) rfl rfl rfl); (case kBv21 => exact rfl); (case kDv21 => decide +kernel); (case c2v21 => exact rfl); (case c3v21 => exact rfl); (case c4v21 => exact rfl); k_whole; intro g'q L'q h'q tk'q cells'q FG'q F'q N'q Y'q B'q X'q T'q l1; (try k_lt l1); k_cells Y'q; (try simp only [List.cons_append, List.nil_append] at N'q); (try k_fold)))) | fail)) | fail); (all_goals k_steps)) | ((fail_if_success (with_reducible refine Halt.go ?_)); (first | (k_here; k_dflt (refine TupSrc.mk (by rfl) (by k_asm) (by k_asm) (by first | k_mem | repeat (first | assumption | apply List.Mem.tail)) (by rw [PySem.sizeLine_eq]; simp) ?_)) | fail); (all_goals k_steps))))
    exact Keep.mk (by k_asm) (by k_asm) ⟨_, rfl⟩
  case fin =>
    intro ys hx
    unfold LCg.FinE
    intro Dm hm tkm Fm Nm om
    obtain _ | ⟨⟨ta2, rfl⟩, hx⟩ := hx
    obtain _ | ⟨⟨tb2, rfl⟩, hx⟩ := hx
    obtain _ | _ := hx
    dsimp only
    (try simp only [LCg.Off1, and_true] at om)
    (k_steps; repeat' (first | ((with_reducible refine Halt.go ?_); (first | (k_here; (with_reducible show wpAny _ _ (eval (Expr.ListComp _ [⟨_, _, [], _⟩] _ _) _) _ _ _); k_dflt (refine comp_tup (F₀ := by k_asm) (by with_unfolding_all rfl) (by decide) (by rfl) (by decide) (by rfl) ?_)) | ((with_reducible show wpAny _ _ (call _ _) _ _ _); (first | (k_here; k_dflt ((first | refine' CallsTo.useP (is_whole_calls _ _ _ _ _ _ _ ?p1v22 ?p2v22) ?k1v22 ?k2v22 ?k3v22 ?k4v22 ?k5v22 ?kHv22 ?kAv22 ?kFv22 ?kKv22 ?kdv22 ?kuv22 ?_ | refine' CallsTo.useP (check_dimen_calls _ _ _ ?p1v22 ?p2v22) ?k1v22 ?k2v22 ?k3v22 ?k4v22 ?k5v22 ?kHv22 ?kAv22 ?kFv22 ?kKv22 ?kdv22 ?kuv22 ?_ | refine' CallsTo.useP (check_code_calls _ _ _ ?p1v22 ?p2v22) ?k1v22 ?k2v22 ?k3v22 ?k4v22 ?k5v22 ?kHv22 ?kAv22 ?kFv22 ?kKv22 ?kdv22 ?kuv22 ?_ | refine' CallsTo.useP (check_number_calls _ _ _ ?p1v22 ?p2v22) ?k1v22 ?k2v22 ?k3v22 ?k4v22 ?k5v22 ?kHv22 ?kAv22 ?kFv22 ?kKv22 ?kdv22 ?kuv22 ?_); (case k1v22 => k_asm); (case k2v22 => k_asm); (case k3v22 => k_asm); (case k4v22 => k_asm); (case k5v22 => k_asm); (case kHv22 => exact rfl); (case kAv22 => exact rfl); (case kFv22 => first | assumption | exact rfl); (case kKv22 => first | assumption | exact rfl); (case kdv22 => (walk_at "my room")); (case kuv22 => (walk_at "my room")); (case p1v22 => omega); (case p2v22 => omega); k_whole; (intro h'q tk'q F'q N'q); (try k_sweep); (try k_fold))) | (k_here; k_dflt (refine' call_cls ?k1v21 ?k2v21 ?k3v21 ?k4v21 ?k5v21 ?k6v21 ?_; (case k1v21 => k_asm); (case k2v21 => k_asm); (case k3v21 => k_asm); (case k4v21 => k_is); (case k5v21 => k_is); (case k6v21 => k_is); k_whole; intro x'q d'q h'q F'q N'q l1 l2; (try k_lt l1); (try k_lt2 l2); (try k_sweep); first | k_dflt (refine' code_def ?k1v21 ?k2v21 ?k3v21 ?k4v21 ?k5v21 ?kAv21 ?kFv21 ?kKv21 ?k6v21 ?k7v21 ?k8v21 ?k9v21 ?kBv21 ?_ ?c2v21 ?c3v21 ?c4v21 ?c5v21; (case kAv21 => exact rfl); (case kFv21 => first | assumption | exact rfl); (case kKv21 => first | assumption | exact rfl); (case k1v21 => k_asm); (case k2v21 => k_asm); (case k3v21 => k_asm); (case k4v21 => k_asm); (case k5v21 => k_asm); (case k6v21 => k_is); (case k7v21 => k_is); (case k8v21 => (walk_at "my room")); (case k9v21 => first | exact BindsTo.of_eq rfl | exact binds_K (by k_in) rfl (by k_is) rfl rfl rfl); (case c5v21 => decide); (case kBv21 => exact locs rfl); (case c2v21 => exact rfl); (case c3v21 => exact rfl); (case c4v21 => exact rfl); k_whole; intro g'q L'q h'q FG'q F'q N'q B'q X'q T'q; (try dsimp only at N'q); (try k_fold)) | k_dflt (refine' code_defC ?k1v21 ?k2v21 ?k3v21 ?k4v21 ?k5v21 ?kAv21 ?kFv21 ?kKv21 ?k6v21 ?k7v21 ?k8v21 ?k9v21 ?kBv21 ?kDv21 ?_ ?c2v21 ?c3v21 ?c4v21; (case kAv21 => exact rfl); (case kFv21 => first | assumption | exact rfl); (case kKv21 => first | assumption | exact rfl); (case k1v21 => k_asm); (case k2v21 => k_asm); (case k3v21 => k_asm); (case k4v21 => k_asm); (case k5v21 => k_asm); (case k6v21 => k_is); (case k7v21 => k_is); (case k8v21 => (walk_at "my room")); (case k9v21 => first | exact BindsTo.of_eq rfl | exact binds_K (by k_in) rfl (by k_is) rfl rfl rfl); (case kBv21 => exact rfl); (case kDv21 => decide +kernel); (case c2v21 => exact rfl); (case c3v21 => exact rfl); (case c4v21 => exact rfl); k_whole; intro g'q L'q h'q tk'q cells'q FG'q F'q N'q Y'q B'q X'q T'q l1; (try k_lt l1); k_cells Y'q; (try simp only [List.cons_append, List.nil_append] at N'q); (try k_fold)))) | fail)) | fail); (all_goals k_steps)) | ((fail_if_success (with_reducible refine Halt.go ?_)); (first | (k_here; k_dflt (refine TupSrc.mk (by rfl) (by k_asm) (by k_asm) (by first | k_mem | repeat (first | assumption | apply List.Mem.tail)) (by rw [PySem.sizeLine_eq]; simp) ?_)) | fail); (all_goals k_steps))))
    all_goals ((refine' ret _ _ _ [] [_, _, _, _] ?e1 ?e2 ?e3 ⟨rfl, ?e4⟩; (case e1 => k_asm); (case e2 => k_asm)); (case e3 => exact List.forall_mem_cons.mpr ⟨off1_lt (by assumption : _ ∧ _ ∧ _ ∧ AllLt _ _).2.2.2, List.forall_mem_cons.mpr ⟨om.2.2, lt_made (by assumption) (by assumption)⟩⟩); (case e4 => exact ex5 _ _ _ _ _ ⟨Inst.mk (by first | k_mem | assumption) (by first | k_mem | assumption) (by repeat (first | exact Ents.nil | refine Ents.cons _ _ _ ?_)), by k_mem⟩))
end
section
section
local macro_rules | `(tactic| walk_at "exec For Name Name cons nil") => `(tactic| refine halt_of ?_)
local macro_rules | `(tactic| walk_at "pyIter ref") => `(tactic| refine halt_it ?_)
local macro_rules | `(tactic| walk_at "-") => `(tactic| fail)
set_option maxHeartbeats 4000000 in
theorem short_calls (w : World) (font la : Addr) (lk : Nat) (vs : List Value) (xs : List Flat) (sh : ∀ x ∈ xs, x.short = true) (fr : Led) (hm : (la, listOf vs.toArray lk) ∈ fr) (hx : All2 (NodeIn w.params font fr) vs xs) :
    CallsTo w 267 [.ref la] [] fr 2 30 (fun r mu' tl => mu' = [] ∧ tl = [] ∧ r = .ref la) := by
  intro prog p loose mean mg mb A env outer A₀ base h₀ L m s Q E B F X N T hh hA hf hk hd hu ret; obtain ⟨hd0, dp, frm, gd, un⟩ := A; obtain ⟨hp0, gs0, dr0, tk0, os0⟩ := s; dsimp only at hh hA hd hu F N ret; subst hh hA; have hSt := StK.mk gs0 dr0 os0; (try simp only [List.cons_append, List.nil_append] at N)
  refine wpAny_call ?_; k_dflt (refine' code_def (binds := [(Str.ofString "items", .ref la)]) ?k1 ?k2 ?k3 ?k4 ?k5 ?kA ?kF ?kK ?k6 ?k7 ?k8 ?k9 ?kB ?_ ?c2 ?c3 ?c4 ?c5; (case kA => exact rfl); (case kF => first | assumption | exact rfl); (case kK => first | assumption | exact rfl); (case k1 => k_asm); (case k2 => k_asm); (case k3 => k_asm); (case k4 => k_asm); (case k5 => k_asm); (case k6 => k_is); (case k7 => k_is); (case k8 => (walk_at "my room")); (case k9 => first | exact BindsTo.of_eq rfl | exact binds_K (by k_in) rfl (by k_is) rfl rfl rfl); (case c5 => decide); (case kB => exact locs rfl); (case c2 => exact rfl); (case c3 => exact rfl); (case c4 => exact rfl); k_whole; intro g' L' h' FG' F' N' B' X' T'; (refine gen_tk fun tk1 => ?_); (try dsimp only at N'); (try dsimp only); (try k_fold))
  (k_steps; repeat' ((with_reducible refine Halt.go ?_); (first | ((with_reducible show wpAny _ _ (exec _ _) _ _ _); (k_here; (rename Fr _ _ _ _ => lF'q); (with_unfolding_all refine' For_invVF lF'q ?k1v25 ?k2v25 ?_; (case k1v25 => exact rfl); (case k2v25 => exact rfl); k_whole))) | fail); (all_goals k_steps)))
  refine Halt.go ?_
  refine for_list_keep (by rfl) (by k_asm) (by k_asm) hm ?turn ?done
  case turn =>
    intro i v I oI h tk hv o F1 N1
    obtain ⟨x, hxi, hn⟩ := hx.get (by simpa using hv)
    have hk := kind_short (sh x (List.mem_of_getElem? hxi))
    (k_steps; repeat' ((with_reducible refine Halt.go ?_); (first | ((with_reducible show wpAny _ _ (exec _ _) _ _ _); (k_here; (rename Fr _ _ _ _ => lF'q); (with_unfolding_all refine' For_invVF lF'q ?k1v25 ?k2v25 ?_; (case k1v25 => exact rfl); (case k2v25 => exact rfl); k_whole))) | fail); (all_goals k_steps)))
    refine node_kind (by k_asm) (by k_asm) (by k_asm) hn (fun p hp => .tail _ hp) (fun t => ?_)
    (k_steps; repeat' ((with_reducible refine Halt.go ?_); (first | ((with_reducible show wpAny _ _ (exec _ _) _ _ _); (k_here; (rename Fr _ _ _ _ => lF'q); (with_unfolding_all refine' For_invVF lF'q ?k1v25 ?k2v25 ?_; (case k1v25 => exact rfl); (case k2v25 => exact rfl); k_whole))) | fail); (all_goals k_steps)))
    exact ForPost.keep (by k_asm) (by k_asm) o (fun y hy => if_neg hy)
  case done =>
    intro u h tk F1 N1
    (k_steps; repeat' ((with_reducible refine Halt.go ?_); (first | ((with_reducible show wpAny _ _ (exec _ _) _ _ _); (k_here; (rename Fr _ _ _ _ => lF'q); (with_unfolding_all refine' For_invVF lF'q ?k1v25 ?k2v25 ?_; (case k1v25 => exact rfl); (case k2v25 => exact rfl); k_whole))) | fail); (all_goals k_steps)))
    all_goals (refine' ret _ _ _ [] [] ?e1 ?e2 lt_tl0 ⟨rfl, rfl, rfl⟩; (case e1 => k_asm); (case e2 => k_asm))
end
local macro_rules | `(tactic| walk_at "call ref") => `(tactic| refine halt_of ?_)
set_option maxHeartbeats 4000000 in
theorem disc_makes (w : World) (font a1 a2 a3 : Addr) (n1 n2 n3 : Nat) (cv : Value) (vs : List Value) (xs : List Flat) (sh : ∀ x ∈ xs, x.short = true) (fr : Led) (m1 : (a1, listOf [cv].toArray n1) ∈ fr) (m2 : (a2, listOf ([] : List Value).toArray n2) ∈ fr) (m3 : (a3, listOf vs.toArray n3) ∈ fr)
    (hc : CharIn w.params fr font 65 cv) (hx : All2 (NodeIn w.params font fr) vs xs) : CallsTo w 431 [.ref a1, .ref a2, .ref a3] [] fr 8 140 (fun r mu' tl => mu' = [] ∧ Inst w.params tl 431 [("pre", .ref a1), ("post", .ref a2), ("middle", .ref a3)] r) := by
  have h1 : All2 (NodeIn w.params font fr) [cv] [.l 0] := .cons ⟨by decide, by simpa [menuL] using hc⟩ .nil
  have s1 : ∀ x ∈ [Flat.l 0], x.short = true := by simp [Flat.short]
  have h2 : All2 (NodeIn w.params font fr) [] [] := .nil
  have s2 : ∀ x ∈ ([] : List Flat), x.short = true := fun _ h => nomatch h
  intro prog p loose mean mg mb A env outer A₀ base h₀ L m s Q E B F X N T hh hA hf hk hd hu ret; obtain ⟨hd0, dp, frm, gd, un⟩ := A; obtain ⟨hp0, gs0, dr0, tk0, os0⟩ := s; dsimp only at hh hA hd hu F N ret; subst hh hA; have hSt := StK.mk gs0 dr0 os0; (try simp only [List.cons_append, List.nil_append] at N)
  (k_steps; repeat' ((with_reducible refine Halt.go ?_); (first | ((with_reducible show wpAny _ _ (call _ _) _ _ _); (first | (k_here; k_dflt (refine' CallsTo.use0 (short_calls _ _ _ _ _ _ ?p1v28 _ ?p2v28 ?p3v28) ?k1v28 ?k2v28 ?k3v28 ?k4v28 ?k5v28 ?kHv28 ?kAv28 ?kFv28 ?kKv28 ?kdv28 ?kuv28 ?_; (case k1v28 => k_asm); (case k2v28 => k_asm); (case k3v28 => k_asm); (case k4v28 => k_asm); (case k5v28 => k_asm); (case p2v28 => first | assumption | repeat (first | assumption | apply List.Mem.tail)); (case p3v28 => refine All2.mono (fun _ _ => NodeIn.mono ?subv28) (by assumption); (case subv28 => (intro p hp; repeat (first | exact hp | refine List.Mem.tail _ ?_)))); (case p1v28 => assumption); (case kHv28 => exact rfl); (case kAv28 => exact rfl); (case kFv28 => first | assumption | exact rfl); (case kKv28 => first | assumption | exact rfl); (case kdv28 => (walk_at "my room")); (case kuv28 => (walk_at "my room")); k_whole; (intro r'q h'q tk'q mu'q tl'q F'q N'q lt'q post'q); (obtain ⟨e1'q, e2'q, e3'q⟩ := post'q); subst e1'q e2'q e3'q; clear lt'q; (try simp only [List.cons_append, List.nil_append] at N'q); (try k_sweep); (try k_fold))) | (k_here; k_dflt ((first | refine' CallsTo.useP (is_whole_calls _ _ _ _ _ _ _ ?p1v27 ?p2v27) ?k1v27 ?k2v27 ?k3v27 ?k4v27 ?k5v27 ?kHv27 ?kAv27 ?kFv27 ?kKv27 ?kdv27 ?kuv27 ?_ | refine' CallsTo.useP (check_dimen_calls _ _ _ ?p1v27 ?p2v27) ?k1v27 ?k2v27 ?k3v27 ?k4v27 ?k5v27 ?kHv27 ?kAv27 ?kFv27 ?kKv27 ?kdv27 ?kuv27 ?_ | refine' CallsTo.useP (check_code_calls _ _ _ ?p1v27 ?p2v27) ?k1v27 ?k2v27 ?k3v27 ?k4v27 ?k5v27 ?kHv27 ?kAv27 ?kFv27 ?kKv27 ?kdv27 ?kuv27 ?_ | refine' CallsTo.useP (check_number_calls _ _ _ ?p1v27 ?p2v27) ?k1v27 ?k2v27 ?k3v27 ?k4v27 ?k5v27 ?kHv27 ?kAv27 ?kFv27 ?kKv27 ?kdv27 ?kuv27 ?_); (case k1v27 => k_asm); (case k2v27 => k_asm); (case k3v27 => k_asm); (case k4v27 => k_asm); (case k5v27 => k_asm); (case kHv27 => exact rfl); (case kAv27 => exact rfl); (case kFv27 => first | assumption | exact rfl); (case kKv27 => first | assumption | exact rfl); (case kdv27 => (walk_at "my room")); (case kuv27 => (walk_at "my room")); (case p1v27 => omega); (case p2v27 => omega); k_whole; (intro h'q tk'q F'q N'q); (try k_sweep); (try k_fold))) | (k_here; k_dflt (refine' call_cls ?k1v26 ?k2v26 ?k3v26 ?k4v26 ?k5v26 ?k6v26 ?_; (case k1v26 => k_asm); (case k2v26 => k_asm); (case k3v26 => k_asm); (case k4v26 => k_is); (case k5v26 => k_is); (case k6v26 => k_is); k_whole; intro x'q d'q h'q F'q N'q l1 l2; (try k_lt l1); (try k_lt2 l2); (try k_sweep); first | k_dflt (refine' code_def ?k1v26 ?k2v26 ?k3v26 ?k4v26 ?k5v26 ?kAv26 ?kFv26 ?kKv26 ?k6v26 ?k7v26 ?k8v26 ?k9v26 ?kBv26 ?_ ?c2v26 ?c3v26 ?c4v26 ?c5v26; (case kAv26 => exact rfl); (case kFv26 => first | assumption | exact rfl); (case kKv26 => first | assumption | exact rfl); (case k1v26 => k_asm); (case k2v26 => k_asm); (case k3v26 => k_asm); (case k4v26 => k_asm); (case k5v26 => k_asm); (case k6v26 => k_is); (case k7v26 => k_is); (case k8v26 => (walk_at "my room")); (case k9v26 => first | exact BindsTo.of_eq rfl | exact binds_K (by k_in) rfl (by k_is) rfl rfl rfl); (case c5v26 => decide); (case kBv26 => exact locs rfl); (case c2v26 => exact rfl); (case c3v26 => exact rfl); (case c4v26 => exact rfl); k_whole; intro g'q L'q h'q FG'q F'q N'q B'q X'q T'q; (try dsimp only at N'q); (try k_fold)) | k_dflt (refine' code_defC ?k1v26 ?k2v26 ?k3v26 ?k4v26 ?k5v26 ?kAv26 ?kFv26 ?kKv26 ?k6v26 ?k7v26 ?k8v26 ?k9v26 ?kBv26 ?kDv26 ?_ ?c2v26 ?c3v26 ?c4v26; (case kAv26 => exact rfl); (case kFv26 => first | assumption | exact rfl); (case kKv26 => first | assumption | exact rfl); (case k1v26 => k_asm); (case k2v26 => k_asm); (case k3v26 => k_asm); (case k4v26 => k_asm); (case k5v26 => k_asm); (case k6v26 => k_is); (case k7v26 => k_is); (case k8v26 => (walk_at "my room")); (case k9v26 => first | exact BindsTo.of_eq rfl | exact binds_K (by k_in) rfl (by k_is) rfl rfl rfl); (case kBv26 => exact rfl); (case kDv26 => decide +kernel); (case c2v26 => exact rfl); (case c3v26 => exact rfl); (case c4v26 => exact rfl); k_whole; intro g'q L'q h'q tk'q cells'q FG'q F'q N'q Y'q B'q X'q T'q l1; (try k_lt l1); k_cells Y'q; (try simp only [List.cons_append, List.nil_append] at N'q); (try k_fold)))) | fail)) | fail); (all_goals k_steps)))
  all_goals ((first | (refine' ret _ _ _ [] [_, _] ?e1 ?e2 ?e3 ⟨rfl, ?e4⟩; (case e1 => k_asm); (case e2 => k_asm)) | (refine' ret _ _ _ [] [_, _, _] ?e1 ?e2 ?e3 ⟨rfl, ?e4⟩; (case e1 => k_asm); (case e2 => k_asm)) | (refine' ret _ _ _ [] [_, _, _, _] ?e1 ?e2 ?e3 ⟨rfl, ?e4⟩; (case e1 => k_asm); (case e2 => k_asm))); (case e3 => exact lt_made (by assumption) (by assumption)); (case e4 => exact Inst.mk (by first | k_mem | assumption) (by first | k_mem | assumption) (by repeat (first | exact Ents.nil | refine Ents.cons _ _ _ ?_))))
set_option maxHeartbeats 4000000 in
theorem mark_makes (w : World) (ta tb : Addr) (n : Nat) (fr : Led) : CallsTo w 452 [.ref ta] [] ((ta, tupO [.ref tb] n) :: fr) 8 140 (fun r mu' tl => mu' = [] ∧ Inst w.params tl 452 [("tokens", .ref ta)] r) := by
  intro prog p loose mean mg mb A env outer A₀ base h₀ L m s Q E B F X N T hh hA hf hk hd hu ret; obtain ⟨hd0, dp, frm, gd, un⟩ := A; obtain ⟨hp0, gs0, dr0, tk0, os0⟩ := s; dsimp only at hh hA hd hu F N ret; subst hh hA; have hSt := StK.mk gs0 dr0 os0; (try simp only [List.cons_append, List.nil_append] at N)
  (k_steps; repeat' ((with_reducible refine Halt.go ?_); (first | ((with_reducible show wpAny _ _ (call _ _) _ _ _); (first | (k_here; k_dflt (refine' CallsTo.use0 (short_calls _ _ _ _ _ _ ?p1v28 _ ?p2v28 ?p3v28) ?k1v28 ?k2v28 ?k3v28 ?k4v28 ?k5v28 ?kHv28 ?kAv28 ?kFv28 ?kKv28 ?kdv28 ?kuv28 ?_; (case k1v28 => k_asm); (case k2v28 => k_asm); (case k3v28 => k_asm); (case k4v28 => k_asm); (case k5v28 => k_asm); (case p2v28 => first | assumption | repeat (first | assumption | apply List.Mem.tail)); (case p3v28 => refine All2.mono (fun _ _ => NodeIn.mono ?subv28) (by assumption); (case subv28 => (intro p hp; repeat (first | exact hp | refine List.Mem.tail _ ?_)))); (case p1v28 => assumption); (case kHv28 => exact rfl); (case kAv28 => exact rfl); (case kFv28 => first | assumption | exact rfl); (case kKv28 => first | assumption | exact rfl); (case kdv28 => (walk_at "my room")); (case kuv28 => (walk_at "my room")); k_whole; (intro r'q h'q tk'q mu'q tl'q F'q N'q lt'q post'q); (obtain ⟨e1'q, e2'q, e3'q⟩ := post'q); subst e1'q e2'q e3'q; clear lt'q; (try simp only [List.cons_append, List.nil_append] at N'q); (try k_sweep); (try k_fold))) | (k_here; k_dflt ((first | refine' CallsTo.useP (is_whole_calls _ _ _ _ _ _ _ ?p1v27 ?p2v27) ?k1v27 ?k2v27 ?k3v27 ?k4v27 ?k5v27 ?kHv27 ?kAv27 ?kFv27 ?kKv27 ?kdv27 ?kuv27 ?_ | refine' CallsTo.useP (check_dimen_calls _ _ _ ?p1v27 ?p2v27) ?k1v27 ?k2v27 ?k3v27 ?k4v27 ?k5v27 ?kHv27 ?kAv27 ?kFv27 ?kKv27 ?kdv27 ?kuv27 ?_ | refine' CallsTo.useP (check_code_calls _ _ _ ?p1v27 ?p2v27) ?k1v27 ?k2v27 ?k3v27 ?k4v27 ?k5v27 ?kHv27 ?kAv27 ?kFv27 ?kKv27 ?kdv27 ?kuv27 ?_ | refine' CallsTo.useP (check_number_calls _ _ _ ?p1v27 ?p2v27) ?k1v27 ?k2v27 ?k3v27 ?k4v27 ?k5v27 ?kHv27 ?kAv27 ?kFv27 ?kKv27 ?kdv27 ?kuv27 ?_); (case k1v27 => k_asm); (case k2v27 => k_asm); (case k3v27 => k_asm); (case k4v27 => k_asm); (case k5v27 => k_asm); (case kHv27 => exact rfl); (case kAv27 => exact rfl); (case kFv27 => first | assumption | exact rfl); (case kKv27 => first | assumption | exact rfl); (case kdv27 => (walk_at "my room")); (case kuv27 => (walk_at "my room")); (case p1v27 => omega); (case p2v27 => omega); k_whole; (intro h'q tk'q F'q N'q); (try k_sweep); (try k_fold))) | (k_here; k_dflt (refine' call_cls ?k1v26 ?k2v26 ?k3v26 ?k4v26 ?k5v26 ?k6v26 ?_; (case k1v26 => k_asm); (case k2v26 => k_asm); (case k3v26 => k_asm); (case k4v26 => k_is); (case k5v26 => k_is); (case k6v26 => k_is); k_whole; intro x'q d'q h'q F'q N'q l1 l2; (try k_lt l1); (try k_lt2 l2); (try k_sweep); first | k_dflt (refine' code_def ?k1v26 ?k2v26 ?k3v26 ?k4v26 ?k5v26 ?kAv26 ?kFv26 ?kKv26 ?k6v26 ?k7v26 ?k8v26 ?k9v26 ?kBv26 ?_ ?c2v26 ?c3v26 ?c4v26 ?c5v26; (case kAv26 => exact rfl); (case kFv26 => first | assumption | exact rfl); (case kKv26 => first | assumption | exact rfl); (case k1v26 => k_asm); (case k2v26 => k_asm); (case k3v26 => k_asm); (case k4v26 => k_asm); (case k5v26 => k_asm); (case k6v26 => k_is); (case k7v26 => k_is); (case k8v26 => (walk_at "my room")); (case k9v26 => first | exact BindsTo.of_eq rfl | exact binds_K (by k_in) rfl (by k_is) rfl rfl rfl); (case c5v26 => decide); (case kBv26 => exact locs rfl); (case c2v26 => exact rfl); (case c3v26 => exact rfl); (case c4v26 => exact rfl); k_whole; intro g'q L'q h'q FG'q F'q N'q B'q X'q T'q; (try dsimp only at N'q); (try k_fold)) | k_dflt (refine' code_defC ?k1v26 ?k2v26 ?k3v26 ?k4v26 ?k5v26 ?kAv26 ?kFv26 ?kKv26 ?k6v26 ?k7v26 ?k8v26 ?k9v26 ?kBv26 ?kDv26 ?_ ?c2v26 ?c3v26 ?c4v26; (case kAv26 => exact rfl); (case kFv26 => first | assumption | exact rfl); (case kKv26 => first | assumption | exact rfl); (case k1v26 => k_asm); (case k2v26 => k_asm); (case k3v26 => k_asm); (case k4v26 => k_asm); (case k5v26 => k_asm); (case k6v26 => k_is); (case k7v26 => k_is); (case k8v26 => (walk_at "my room")); (case k9v26 => first | exact BindsTo.of_eq rfl | exact binds_K (by k_in) rfl (by k_is) rfl rfl rfl); (case kBv26 => exact rfl); (case kDv26 => decide +kernel); (case c2v26 => exact rfl); (case c3v26 => exact rfl); (case c4v26 => exact rfl); k_whole; intro g'q L'q h'q tk'q cells'q FG'q F'q N'q Y'q B'q X'q T'q l1; (try k_lt l1); k_cells Y'q; (try simp only [List.cons_append, List.nil_append] at N'q); (try k_fold)))) | fail)) | fail); (all_goals k_steps)))
  all_goals ((first | (refine' ret _ _ _ [] [_, _] ?e1 ?e2 ?e3 ⟨rfl, ?e4⟩; (case e1 => k_asm); (case e2 => k_asm)) | (refine' ret _ _ _ [] [_, _, _] ?e1 ?e2 ?e3 ⟨rfl, ?e4⟩; (case e1 => k_asm); (case e2 => k_asm)) | (refine' ret _ _ _ [] [_, _, _, _] ?e1 ?e2 ?e3 ⟨rfl, ?e4⟩; (case e1 => k_asm); (case e2 => k_asm))); (case e3 => exact lt_made (fun p hp => ktn_ltOf (show AllLt _ (_ :: _) from (by assumption : _ ∧ AllLt _ fr)) p hp) (by assumption)); (case e4 => exact Inst.mk (by first | k_mem | assumption) (by first | k_mem | assumption) (by repeat (first | exact Ents.nil | refine Ents.cons _ _ _ ?_))))
set_option maxHeartbeats 4000000 in
theorem skip_plain (w : World) (g : Addr) (t1 : Tok) (fr : Led) : CallsTo w 389 [.ref g, .int 0 t1, .none] [] fr 8 140 (fun r mu' tl => mu' = [] ∧ Inst w.params tl 389 [("glue", .ref g), ("sort", .int 0 t1), ("leader", .none)] r) := by
  intro prog p loose mean mg mb A env outer A₀ base h₀ L m s Q E B F X N T hh hA hf hk hd hu ret; obtain ⟨hd0, dp, frm, gd, un⟩ := A; obtain ⟨hp0, gs0, dr0, tk0, os0⟩ := s; dsimp only at hh hA hd hu F N ret; subst hh hA; have hSt := StK.mk gs0 dr0 os0; (try simp only [List.cons_append, List.nil_append] at N)
  (k_steps; repeat' ((with_reducible refine Halt.go ?_); (first | ((with_reducible show wpAny _ _ (call _ _) _ _ _); (first | (k_here; k_dflt (refine' CallsTo.use0 (short_calls _ _ _ _ _ _ ?p1v28 _ ?p2v28 ?p3v28) ?k1v28 ?k2v28 ?k3v28 ?k4v28 ?k5v28 ?kHv28 ?kAv28 ?kFv28 ?kKv28 ?kdv28 ?kuv28 ?_; (case k1v28 => k_asm); (case k2v28 => k_asm); (case k3v28 => k_asm); (case k4v28 => k_asm); (case k5v28 => k_asm); (case p2v28 => first | assumption | repeat (first | assumption | apply List.Mem.tail)); (case p3v28 => refine All2.mono (fun _ _ => NodeIn.mono ?subv28) (by assumption); (case subv28 => (intro p hp; repeat (first | exact hp | refine List.Mem.tail _ ?_)))); (case p1v28 => assumption); (case kHv28 => exact rfl); (case kAv28 => exact rfl); (case kFv28 => first | assumption | exact rfl); (case kKv28 => first | assumption | exact rfl); (case kdv28 => (walk_at "my room")); (case kuv28 => (walk_at "my room")); k_whole; (intro r'q h'q tk'q mu'q tl'q F'q N'q lt'q post'q); (obtain ⟨e1'q, e2'q, e3'q⟩ := post'q); subst e1'q e2'q e3'q; clear lt'q; (try simp only [List.cons_append, List.nil_append] at N'q); (try k_sweep); (try k_fold))) | (k_here; k_dflt ((first | refine' CallsTo.useP (is_whole_calls _ _ _ _ _ _ _ ?p1v27 ?p2v27) ?k1v27 ?k2v27 ?k3v27 ?k4v27 ?k5v27 ?kHv27 ?kAv27 ?kFv27 ?kKv27 ?kdv27 ?kuv27 ?_ | refine' CallsTo.useP (check_dimen_calls _ _ _ ?p1v27 ?p2v27) ?k1v27 ?k2v27 ?k3v27 ?k4v27 ?k5v27 ?kHv27 ?kAv27 ?kFv27 ?kKv27 ?kdv27 ?kuv27 ?_ | refine' CallsTo.useP (check_code_calls _ _ _ ?p1v27 ?p2v27) ?k1v27 ?k2v27 ?k3v27 ?k4v27 ?k5v27 ?kHv27 ?kAv27 ?kFv27 ?kKv27 ?kdv27 ?kuv27 ?_ | refine' CallsTo.useP (check_number_calls _ _ _ ?p1v27 ?p2v27) ?k1v27 ?k2v27 ?k3v27 ?k4v27 ?k5v27 ?kHv27 ?kAv27 ?kFv27 ?kKv27 ?kdv27 ?kuv27 ?_); (case k1v27 => k_asm); (case k2v27 => k_asm); (case k3v27 => k_asm); (case k4v27 => k_asm); (case k5v27 => k_asm); (case kHv27 => exact rfl); (case kAv27 => exact rfl); (case kFv27 => first | assumption | exact rfl); (case kKv27 => first | assumption | exact rfl); (case kdv27 => (walk_at "my room")); (case kuv27 => (walk_at "my room")); (case p1v27 => omega); (case p2v27 => omega); k_whole; (intro h'q tk'q F'q N'q); (try k_sweep); (try k_fold))) | (k_here; k_dflt (refine' call_cls ?k1v26 ?k2v26 ?k3v26 ?k4v26 ?k5v26 ?k6v26 ?_; (case k1v26 => k_asm); (case k2v26 => k_asm); (case k3v26 => k_asm); (case k4v26 => k_is); (case k5v26 => k_is); (case k6v26 => k_is); k_whole; intro x'q d'q h'q F'q N'q l1 l2; (try k_lt l1); (try k_lt2 l2); (try k_sweep); first | k_dflt (refine' code_def ?k1v26 ?k2v26 ?k3v26 ?k4v26 ?k5v26 ?kAv26 ?kFv26 ?kKv26 ?k6v26 ?k7v26 ?k8v26 ?k9v26 ?kBv26 ?_ ?c2v26 ?c3v26 ?c4v26 ?c5v26; (case kAv26 => exact rfl); (case kFv26 => first | assumption | exact rfl); (case kKv26 => first | assumption | exact rfl); (case k1v26 => k_asm); (case k2v26 => k_asm); (case k3v26 => k_asm); (case k4v26 => k_asm); (case k5v26 => k_asm); (case k6v26 => k_is); (case k7v26 => k_is); (case k8v26 => (walk_at "my room")); (case k9v26 => first | exact BindsTo.of_eq rfl | exact binds_K (by k_in) rfl (by k_is) rfl rfl rfl); (case c5v26 => decide); (case kBv26 => exact locs rfl); (case c2v26 => exact rfl); (case c3v26 => exact rfl); (case c4v26 => exact rfl); k_whole; intro g'q L'q h'q FG'q F'q N'q B'q X'q T'q; (try dsimp only at N'q); (try k_fold)) | k_dflt (refine' code_defC ?k1v26 ?k2v26 ?k3v26 ?k4v26 ?k5v26 ?kAv26 ?kFv26 ?kKv26 ?k6v26 ?k7v26 ?k8v26 ?k9v26 ?kBv26 ?kDv26 ?_ ?c2v26 ?c3v26 ?c4v26; (case kAv26 => exact rfl); (case kFv26 => first | assumption | exact rfl); (case kKv26 => first | assumption | exact rfl); (case k1v26 => k_asm); (case k2v26 => k_asm); (case k3v26 => k_asm); (case k4v26 => k_asm); (case k5v26 => k_asm); (case k6v26 => k_is); (case k7v26 => k_is); (case k8v26 => (walk_at "my room")); (case k9v26 => first | exact BindsTo.of_eq rfl | exact binds_K (by k_in) rfl (by k_is) rfl rfl rfl); (case kBv26 => exact rfl); (case kDv26 => decide +kernel); (case c2v26 => exact rfl); (case c3v26 => exact rfl); (case c4v26 => exact rfl); k_whole; intro g'q L'q h'q tk'q cells'q FG'q F'q N'q Y'q B'q X'q T'q l1; (try k_lt l1); k_cells Y'q; (try simp only [List.cons_append, List.nil_append] at N'q); (try k_fold)))) | fail)) | fail); (all_goals k_steps)))
  all_goals ((first | (refine' ret _ _ _ [] [_, _] ?e1 ?e2 ?e3 ⟨rfl, ?e4⟩; (case e1 => k_asm); (case e2 => k_asm)) | (refine' ret _ _ _ [] [_, _, _] ?e1 ?e2 ?e3 ⟨rfl, ?e4⟩; (case e1 => k_asm); (case e2 => k_asm)) | (refine' ret _ _ _ [] [_, _, _, _] ?e1 ?e2 ?e3 ⟨rfl, ?e4⟩; (case e1 => k_asm); (case e2 => k_asm))); (case e3 => exact lt_made (by assumption) (by assumption)); (case e4 => exact Inst.mk (by first | k_mem | assumption) (by first | k_mem | assumption) (by repeat (first | exact Ents.nil | refine Ents.cons _ _ _ ?_))))
set_option maxHeartbeats 4000000 in
theorem skip_leader (w : World) (g l : Addr) (t1 : Tok) (fr : Led) (hl : RuleIn w.params fr none (some 0) (.ref l)) : CallsTo w 389 [.ref g, .int 1 t1, .ref l] [] fr 8 140 (fun r mu' tl => mu' = [] ∧ Inst w.params tl 389 [("glue", .ref g), ("sort", .int 1 t1), ("leader", .ref l)] r) := by
  obtain ⟨wv, t2, dv, _, _, hi⟩ := hl
  intro prog p loose mean mg mb A env outer A₀ base h₀ L m s Q E B F X N T hh hA hf hk hd hu ret; obtain ⟨hd0, dp, frm, gd, un⟩ := A; obtain ⟨hp0, gs0, dr0, tk0, os0⟩ := s; dsimp only at hh hA hd hu F N ret; subst hh hA; have hSt := StK.mk gs0 dr0 os0; (try simp only [List.cons_append, List.nil_append] at N)
  (k_steps; repeat' ((with_reducible refine Halt.go ?_); (first | ((with_reducible show wpAny _ _ (call _ _) _ _ _); (first | (k_here; k_dflt (refine' CallsTo.use0 (short_calls _ _ _ _ _ _ ?p1v28 _ ?p2v28 ?p3v28) ?k1v28 ?k2v28 ?k3v28 ?k4v28 ?k5v28 ?kHv28 ?kAv28 ?kFv28 ?kKv28 ?kdv28 ?kuv28 ?_; (case k1v28 => k_asm); (case k2v28 => k_asm); (case k3v28 => k_asm); (case k4v28 => k_asm); (case k5v28 => k_asm); (case p2v28 => first | assumption | repeat (first | assumption | apply List.Mem.tail)); (case p3v28 => refine All2.mono (fun _ _ => NodeIn.mono ?subv28) (by assumption); (case subv28 => (intro p hp; repeat (first | exact hp | refine List.Mem.tail _ ?_)))); (case p1v28 => assumption); (case kHv28 => exact rfl); (case kAv28 => exact rfl); (case kFv28 => first | assumption | exact rfl); (case kKv28 => first | assumption | exact rfl); (case kdv28 => (walk_at "my room")); (case kuv28 => (walk_at "my room")); k_whole; (intro r'q h'q tk'q mu'q tl'q F'q N'q lt'q post'q); (obtain ⟨e1'q, e2'q, e3'q⟩ := post'q); subst e1'q e2'q e3'q; clear lt'q; (try simp only [List.cons_append, List.nil_append] at N'q); (try k_sweep); (try k_fold))) | (k_here; k_dflt ((first | refine' CallsTo.useP (is_whole_calls _ _ _ _ _ _ _ ?p1v27 ?p2v27) ?k1v27 ?k2v27 ?k3v27 ?k4v27 ?k5v27 ?kHv27 ?kAv27 ?kFv27 ?kKv27 ?kdv27 ?kuv27 ?_ | refine' CallsTo.useP (check_dimen_calls _ _ _ ?p1v27 ?p2v27) ?k1v27 ?k2v27 ?k3v27 ?k4v27 ?k5v27 ?kHv27 ?kAv27 ?kFv27 ?kKv27 ?kdv27 ?kuv27 ?_ | refine' CallsTo.useP (check_code_calls _ _ _ ?p1v27 ?p2v27) ?k1v27 ?k2v27 ?k3v27 ?k4v27 ?k5v27 ?kHv27 ?kAv27 ?kFv27 ?kKv27 ?kdv27 ?kuv27 ?_ | refine' CallsTo.useP (check_number_calls _ _ _ ?p1v27 ?p2v27) ?k1v27 ?k2v27 ?k3v27 ?k4v27 ?k5v27 ?kHv27 ?kAv27 ?kFv27 ?kKv27 ?kdv27 ?kuv27 ?_); (case k1v27 => k_asm); (case k2v27 => k_asm); (case k3v27 => k_asm); (case k4v27 => k_asm); (case k5v27 => k_asm); (case kHv27 => exact rfl); (case kAv27 => exact rfl); (case kFv27 => first | assumption | exact rfl); (case kKv27 => first | assumption | exact rfl); (case kdv27 => (walk_at "my room")); (case kuv27 => (walk_at "my room")); (case p1v27 => omega); (case p2v27 => omega); k_whole; (intro h'q tk'q F'q N'q); (try k_sweep); (try k_fold))) | (k_here; k_dflt (refine' call_cls ?k1v26 ?k2v26 ?k3v26 ?k4v26 ?k5v26 ?k6v26 ?_; (case k1v26 => k_asm); (case k2v26 => k_asm); (case k3v26 => k_asm); (case k4v26 => k_is); (case k5v26 => k_is); (case k6v26 => k_is); k_whole; intro x'q d'q h'q F'q N'q l1 l2; (try k_lt l1); (try k_lt2 l2); (try k_sweep); first | k_dflt (refine' code_def ?k1v26 ?k2v26 ?k3v26 ?k4v26 ?k5v26 ?kAv26 ?kFv26 ?kKv26 ?k6v26 ?k7v26 ?k8v26 ?k9v26 ?kBv26 ?_ ?c2v26 ?c3v26 ?c4v26 ?c5v26; (case kAv26 => exact rfl); (case kFv26 => first | assumption | exact rfl); (case kKv26 => first | assumption | exact rfl); (case k1v26 => k_asm); (case k2v26 => k_asm); (case k3v26 => k_asm); (case k4v26 => k_asm); (case k5v26 => k_asm); (case k6v26 => k_is); (case k7v26 => k_is); (case k8v26 => (walk_at "my room")); (case k9v26 => first | exact BindsTo.of_eq rfl | exact binds_K (by k_in) rfl (by k_is) rfl rfl rfl); (case c5v26 => decide); (case kBv26 => exact locs rfl); (case c2v26 => exact rfl); (case c3v26 => exact rfl); (case c4v26 => exact rfl); k_whole; intro g'q L'q h'q FG'q F'q N'q B'q X'q T'q; (try dsimp only at N'q); (try k_fold)) | k_dflt (refine' code_defC ?k1v26 ?k2v26 ?k3v26 ?k4v26 ?k5v26 ?kAv26 ?kFv26 ?kKv26 ?k6v26 ?k7v26 ?k8v26 ?k9v26 ?kBv26 ?kDv26 ?_ ?c2v26 ?c3v26 ?c4v26; (case kAv26 => exact rfl); (case kFv26 => first | assumption | exact rfl); (case kKv26 => first | assumption | exact rfl); (case k1v26 => k_asm); (case k2v26 => k_asm); (case k3v26 => k_asm); (case k4v26 => k_asm); (case k5v26 => k_asm); (case k6v26 => k_is); (case k7v26 => k_is); (case k8v26 => (walk_at "my room")); (case k9v26 => first | exact BindsTo.of_eq rfl | exact binds_K (by k_in) rfl (by k_is) rfl rfl rfl); (case kBv26 => exact rfl); (case kDv26 => decide +kernel); (case c2v26 => exact rfl); (case c3v26 => exact rfl); (case c4v26 => exact rfl); k_whole; intro g'q L'q h'q tk'q cells'q FG'q F'q N'q Y'q B'q X'q T'q l1; (try k_lt l1); k_cells Y'q; (try simp only [List.cons_append, List.nil_append] at N'q); (try k_fold)))) | fail)) | fail); (all_goals k_steps)))
  refine cls_read (by k_asm) (by k_asm) (by k_asm) hi (fun p hp => .tail _ (.tail _ hp)) rfl (by k_is) (by k_is) (by k_is) (by k_is) rfl (by decide +kernel) ?_
  (k_steps; repeat' ((with_reducible refine Halt.go ?_); (first | ((with_reducible show wpAny _ _ (call _ _) _ _ _); (first | (k_here; k_dflt (refine' CallsTo.use0 (short_calls _ _ _ _ _ _ ?p1v28 _ ?p2v28 ?p3v28) ?k1v28 ?k2v28 ?k3v28 ?k4v28 ?k5v28 ?kHv28 ?kAv28 ?kFv28 ?kKv28 ?kdv28 ?kuv28 ?_; (case k1v28 => k_asm); (case k2v28 => k_asm); (case k3v28 => k_asm); (case k4v28 => k_asm); (case k5v28 => k_asm); (case p2v28 => first | assumption | repeat (first | assumption | apply List.Mem.tail)); (case p3v28 => refine All2.mono (fun _ _ => NodeIn.mono ?subv28) (by assumption); (case subv28 => (intro p hp; repeat (first | exact hp | refine List.Mem.tail _ ?_)))); (case p1v28 => assumption); (case kHv28 => exact rfl); (case kAv28 => exact rfl); (case kFv28 => first | assumption | exact rfl); (case kKv28 => first | assumption | exact rfl); (case kdv28 => (walk_at "my room")); (case kuv28 => (walk_at "my room")); k_whole; (intro r'q h'q tk'q mu'q tl'q F'q N'q lt'q post'q); (obtain ⟨e1'q, e2'q, e3'q⟩ := post'q); subst e1'q e2'q e3'q; clear lt'q; (try simp only [List.cons_append, List.nil_append] at N'q); (try k_sweep); (try k_fold))) | (k_here; k_dflt ((first | refine' CallsTo.useP (is_whole_calls _ _ _ _ _ _ _ ?p1v27 ?p2v27) ?k1v27 ?k2v27 ?k3v27 ?k4v27 ?k5v27 ?kHv27 ?kAv27 ?kFv27 ?kKv27 ?kdv27 ?kuv27 ?_ | refine' CallsTo.useP (check_dimen_calls _ _ _ ?p1v27 ?p2v27) ?k1v27 ?k2v27 ?k3v27 ?k4v27 ?k5v27 ?kHv27 ?kAv27 ?kFv27 ?kKv27 ?kdv27 ?kuv27 ?_ | refine' CallsTo.useP (check_code_calls _ _ _ ?p1v27 ?p2v27) ?k1v27 ?k2v27 ?k3v27 ?k4v27 ?k5v27 ?kHv27 ?kAv27 ?kFv27 ?kKv27 ?kdv27 ?kuv27 ?_ | refine' CallsTo.useP (check_number_calls _ _ _ ?p1v27 ?p2v27) ?k1v27 ?k2v27 ?k3v27 ?k4v27 ?k5v27 ?kHv27 ?kAv27 ?kFv27 ?kKv27 ?kdv27 ?kuv27 ?_); (case k1v27 => k_asm); (case k2v27 => k_asm); (case k3v27 => k_asm); (case k4v27 => k_asm); (case k5v27 => k_asm); (case kHv27 => exact rfl); (case kAv27 => exact rfl); (case kFv27 => first | assumption | exact rfl); (case kKv27 => first | assumption | exact rfl); (case kdv27 => (walk_at "my room")); (case kuv27 => (walk_at "my room")); (case p1v27 => omega); (case p2v27 => omega); k_whole; (intro h'q tk'q F'q N'q); (try k_sweep); (try k_fold))) | (k_here; k_dflt (refine' call_cls ?k1v26 ?k2v26 ?k3v26 ?k4v26 ?k5v26 ?k6v26 ?_; (case k1v26 => k_asm); (case k2v26 => k_asm); (case k3v26 => k_asm); (case k4v26 => k_is); (case k5v26 => k_is); (case k6v26 => k_is); k_whole; intro x'q d'q h'q F'q N'q l1 l2; (try k_lt l1); (try k_lt2 l2); (try k_sweep); first | k_dflt (refine' code_def ?k1v26 ?k2v26 ?k3v26 ?k4v26 ?k5v26 ?kAv26 ?kFv26 ?kKv26 ?k6v26 ?k7v26 ?k8v26 ?k9v26 ?kBv26 ?_ ?c2v26 ?c3v26 ?c4v26 ?c5v26; (case kAv26 => exact rfl); (case kFv26 => first | assumption | exact rfl); (case kKv26 => first | assumption | exact rfl); (case k1v26 => k_asm); (case k2v26 => k_asm); (case k3v26 => k_asm); (case k4v26 => k_asm); (case k5v26 => k_asm); (case k6v26 => k_is); (case k7v26 => k_is); (case k8v26 => (walk_at "my room")); (case k9v26 => first | exact BindsTo.of_eq rfl | exact binds_K (by k_in) rfl (by k_is) rfl rfl rfl); (case c5v26 => decide); (case kBv26 => exact locs rfl); (case c2v26 => exact rfl); (case c3v26 => exact rfl); (case c4v26 => exact rfl); k_whole; intro g'q L'q h'q FG'q F'q N'q B'q X'q T'q; (try dsimp only at N'q); (try k_fold)) | k_dflt (refine' code_defC ?k1v26 ?k2v26 ?k3v26 ?k4v26 ?k5v26 ?kAv26 ?kFv26 ?kKv26 ?k6v26 ?k7v26 ?k8v26 ?k9v26 ?kBv26 ?kDv26 ?_ ?c2v26 ?c3v26 ?c4v26; (case kAv26 => exact rfl); (case kFv26 => first | assumption | exact rfl); (case kKv26 => first | assumption | exact rfl); (case k1v26 => k_asm); (case k2v26 => k_asm); (case k3v26 => k_asm); (case k4v26 => k_asm); (case k5v26 => k_asm); (case k6v26 => k_is); (case k7v26 => k_is); (case k8v26 => (walk_at "my room")); (case k9v26 => first | exact BindsTo.of_eq rfl | exact binds_K (by k_in) rfl (by k_is) rfl rfl rfl); (case kBv26 => exact rfl); (case kDv26 => decide +kernel); (case c2v26 => exact rfl); (case c3v26 => exact rfl); (case c4v26 => exact rfl); k_whole; intro g'q L'q h'q tk'q cells'q FG'q F'q N'q Y'q B'q X'q T'q l1; (try k_lt l1); k_cells Y'q; (try simp only [List.cons_append, List.nil_append] at N'q); (try k_fold)))) | fail)) | fail); (all_goals k_steps)))
  all_goals ((first | (refine' ret _ _ _ [] [_, _] ?e1 ?e2 ?e3 ⟨rfl, ?e4⟩; (case e1 => k_asm); (case e2 => k_asm)) | (refine' ret _ _ _ [] [_, _, _] ?e1 ?e2 ?e3 ⟨rfl, ?e4⟩; (case e1 => k_asm); (case e2 => k_asm)) | (refine' ret _ _ _ [] [_, _, _, _] ?e1 ?e2 ?e3 ⟨rfl, ?e4⟩; (case e1 => k_asm); (case e2 => k_asm))); (case e3 => exact lt_made (by assumption) (by assumption)); (case e4 => exact Inst.mk (by first | k_mem | assumption) (by first | k_mem | assumption) (by repeat (first | exact Ents.nil | refine Ents.cons _ _ _ ?_))))
end
section
theorem GlueIn.isRef {P : Params} {led : Led} {a b c d e : Int} {v : Value} (h : GlueIn P led a b c d e v) : ∃ g, v = .ref g := by
  obtain ⟨_, _, _, _, _, x, _, _, _, rfl, _⟩ := h
  exact ⟨x, rfl⟩
theorem RuleIn.isRef {P : Params} {led : Led} {a b : Option Int} {v : Value} (h : RuleIn P led a b v) : ∃ g, v = .ref g := by
  obtain ⟨_, _, _, _, _, x, _, _, _, rfl, _⟩ := h
  exact ⟨x, rfl⟩
section
variable {w : World} {fr : Led} {t1 t2 t3 t4 t5 th tw : Tok} {kw gw st so sh ho c : Int} {la font g l tb : Addr} {n lk : Nat}
theorem node_ref {P : Params} {font : Addr} {l : Led} {v : Value} {x : Flat} (h : NodeIn P font l v x) : ∃ y, v = .ref y := by
  cases x with
  | l i =>
    have h2 := h.2
    revert h2
    split
    · rintro ⟨t, ta, tb, pa, n, h, _⟩; exact h.isRef
    · rintro ⟨t, h⟩; exact h.isRef
  | g sn gw st so sh ho => obtain ⟨_, gv, lv, t, _, h, _⟩ := h; exact h.isRef
  | b bw => obtain ⟨_, _, _, _, _, _, _, _, _, _, _, _, _, _, h, _⟩ := h; exact h.isRef
  | r ow => obtain ⟨_, _, _, _, _, _, h⟩ := h; exact h.isRef
  | k kw => obtain ⟨_, _, _, h⟩ := h; exact h.isRef
  | e ew => obtain ⟨_, _, h⟩ := h; exact h.isRef
  | p => obtain ⟨_, h⟩ := h; exact h.isRef
  | m => obtain ⟨_, _, _, _, _, _, h, _⟩ := h; exact h.isRef
theorem glue_u (h1 : -1073741823 ≤ gw ∧ gw ≤ 1073741823) (h2 : -1073741823 ≤ st ∧ st ≤ 1073741823) (h3 : 0 ≤ so ∧ so < 4) (h4 : -1073741823 ≤ sh ∧ sh ≤ 1073741823) (h5 : 0 ≤ ho ∧ ho < 4) :
    CallsTo w 225 [.int gw t1, .int st t2, .int so t3, .int sh t4, .int ho t5] [] fr 8 140 (fun r mu' tl => mu' = [] ∧ GlueIn w.params tl gw st (if st = 0 then 0 else so) sh (if sh = 0 then 0 else ho) r) := glue_makes w gw st so sh ho t1 t2 t3 t4 t5 h1 h2 h3 h4 h5 fr
theorem rule_n : CallsTo w 346 [.none, .int 3 th, .none] [] fr 8 140 (fun r mu' tl => mu' = [] ∧ RuleIn w.params tl none none r) := rule_makes w .none none rfl (fun _ h => nomatch h) th .none none rfl (fun _ h => nomatch h) fr
theorem rule_s (h1 : -1073741823 ≤ kw) (h2 : kw ≤ 1073741823) : CallsTo w 346 [.int kw tw, .int 3 th, .none] [] fr 8 140 (fun r mu' tl => mu' = [] ∧ RuleIn w.params tl (some kw) none r) :=
  rule_makes w (.int kw tw) (some kw) ⟨_, rfl⟩ (fun _ h => by cases h; exact ⟨h1, h2⟩) th .none none rfl (fun _ h => nomatch h) fr
theorem rule_l : CallsTo w 346 [.none, .int 3 th, .int 0 tw] [] fr 8 140 (fun r mu' tl => mu' = [] ∧ RuleIn w.params tl none (some 0) r) := rule_makes w .none none rfl (fun _ h => nomatch h) th (.int 0 tw) (some 0) ⟨_, rfl⟩ (fun _ h => by cases h; rfl) fr
theorem box_u (h1 : -1073741823 ≤ kw) (h2 : kw ≤ 1073741823) : CallsTo w 325 [.int 2 t1, .int kw tw, .int 5 t2, .int 0 t3, .ref la] [] fr 8 140 (fun r mu' tl => mu' = [] ∧ ∀ its lk l', (∀ p ∈ tl, p ∈ l') → (la, listOf its.toArray lk) ∈ l' → BoxIn w.params l' kw 0 0 0 0 1 its r) := box_makes w kw tw t1 t2 t3 la h1 h2 fr
theorem mark_u : CallsTo w 452 [.ref la] [] ((la, tupO [.ref tb] n) :: fr) 8 140 (fun r mu' tl => mu' = [] ∧ Inst w.params tl 452 [("tokens", .ref la)] r) := mark_makes w la tb n fr
theorem lig_u (h1 : 0 ≤ c) (h2 : c ≤ 255) (hm : (la, tupO [.int 65 t1, .int 67 t2] n) ∈ fr) : CallsTo w 304 [.ref font, .int c tw, .ref la] [] fr 8 140 (fun r mu' tl => mu' = [] ∧ LigIn w.params tl font c r) := lig_makes w font la c tw t1 t2 n h1 h2 fr hm
theorem skip_u (hl : RuleIn w.params fr none (some 0) (.ref l)) : CallsTo w 389 [.ref g, .int 1 t1, .ref l] [] fr 8 140 (fun r mu' tl => mu' = [] ∧ Inst w.params tl 389 [("glue", .ref g), ("sort", .int 1 t1), ("leader", .ref l)] r) := skip_leader w g l t1 fr hl
end
theorem box_at {P : Params} {tl : Led} {la : Addr} {kw : Int} {r : Value} (h : ∀ its lk l', (∀ p ∈ tl, p ∈ l') → (la, listOf its.toArray lk) ∈ l' → BoxIn P l' kw 0 0 0 0 1 its r) : BoxIn P (tl ++ [(la, listOf ([] : List Value).toArray 0)]) kw 0 0 0 0 1 [] r :=
  h [] 0 _ (fun _ h => List.mem_append_left _ h) (List.mem_append_right _ (.head _))
abbrev Ret (h₀ : Heap) (L : Addr) (m : Str → Option Value) (fr : Led) (post : Value → Led → Led → Prop) (gs0 : Array GenState) (dr0 : Drawn) (os0 : OsState) (Q : Value → Shared → Prop) : Prop :=
  ∀ r h' tk' mu' tl, Fr h₀ L h' m → News h₀ L h' (tl ++ (mu' ++ fr)) → (∀ q ∈ tl, LCg.Off1 q.1 ([] ++ fr)) → post r mu' tl → Q r { heap := h', gens := gs0, drawn := dr0, toks := tk', os := os0 }
section
variable {h₀ h' : Heap} {L : Addr} {m : Str → Option Value} {fr tl tl1 tl2 tl3 rest : Led} {post : Value → Led → Led → Prop} {gs0 : Array GenState} {dr0 : Drawn} {os0 : OsState} {Q : Value → Shared → Prop} {r : Value} {tk' : Nat} {a b c : Addr × Obj}
theorem node_fin (ret : Ret h₀ L m fr post gs0 dr0 os0 Q) (F : Fr h₀ L h' m) (N : News h₀ L h' (tl ++ rest)) (lt : ∀ q ∈ tl, LCg.Off1 q.1 rest) (sub : ∀ p ∈ fr, p ∈ rest) (hp : post r [] tl) : Q r { heap := h', gens := gs0, drawn := dr0, toks := tk', os := os0 } :=
  ret r h' tk' [] tl F (news_sub N fun p hp => (List.mem_append.mp hp).elim (fun h => List.mem_append_left _ h) fun h => List.mem_append_right _ (sub p h)) (fun q hq => off1_sub (lt q hq) sub) hp
theorem lt_app {x y z : Led} (h1 : ∀ q ∈ x, LCg.Off1 q.1 (y ++ z)) (h2 : ∀ q ∈ y, LCg.Off1 q.1 z) : ∀ q ∈ x ++ y, LCg.Off1 q.1 z := fun q hq =>
  (List.mem_append.mp hq).elim (fun h => off1_sub (h1 q h) fun p hp => List.mem_append_right _ hp) (h2 q)
theorem node_fin_g (ret : Ret h₀ L m fr post gs0 dr0 os0 Q) (F : Fr h₀ L h' m) (N : News h₀ L h' (tl2 ++ (tl1 ++ (c :: fr)))) (l1 : ∀ q ∈ tl1, LCg.Off1 q.1 (c :: fr)) (l2 : ∀ q ∈ tl2, LCg.Off1 q.1 (tl1 ++ (c :: fr))) (hp : post r [] (tl2 ++ tl1)) : Q r { heap := h', gens := gs0, drawn := dr0, toks := tk', os := os0 } :=
  node_fin ret F (rest := c :: fr) (List.append_assoc _ _ _ ▸ N) (lt_app l2 l1) (fun _ h => .tail _ h) hp
theorem node_fin_d (ret : Ret h₀ L m fr post gs0 dr0 os0 Q) (F : Fr h₀ L h' m) (N : News h₀ L h' (tl3 ++ (tl2 ++ (tl1 ++ (c :: fr))))) (l1 : ∀ q ∈ tl1, LCg.Off1 q.1 (c :: fr)) (l2 : ∀ q ∈ tl2, LCg.Off1 q.1 (tl1 ++ (c :: fr))) (l3 : ∀ q ∈ tl3, LCg.Off1 q.1 (tl2 ++ (tl1 ++ (c :: fr)))) (hp : post r [] (tl3 ++ (tl2 ++ tl1))) : Q r { heap := h', gens := gs0, drawn := dr0, toks := tk', os := os0 } :=
  node_fin ret F (rest := c :: fr) (by simpa only [List.append_assoc] using N) (lt_app (by simpa only [List.append_assoc] using l3) (lt_app l2 l1)) (fun _ h => .tail _ h) hp
theorem node_fin_b (ret : Ret h₀ L m fr post gs0 dr0 os0 Q) (F : Fr h₀ L h' m) (N : News h₀ L h' (tl ++ (a :: c :: fr))) (l1 : ∀ q ∈ tl, LCg.Off1 q.1 (a :: c :: fr)) (l2 : LCg.Off1 a.1 fr) (hp : post r [] (tl ++ [a])) : Q r { heap := h', gens := gs0, drawn := dr0, toks := tk', os := os0 } :=
  ret r h' tk' [] (tl ++ [a]) F (news_sub N fun p hp => by simp only [List.mem_append, List.mem_cons, List.nil_append] at hp ⊢; rcases hp with (h | h | h) | h <;> simp_all) (fun q hq => (List.mem_append.mp hq).elim (fun h => off1_sub (l1 q h) fun p hp => .tail _ (.tail _ hp)) fun h => by rw [List.mem_singleton.mp h]; exact l2) hp
theorem node_fin_m (ret : Ret h₀ L m fr post gs0 dr0 os0 Q) (F : Fr h₀ L h' m) (N : News h₀ L h' (tl ++ (a :: b :: c :: fr))) (l1 : ∀ q ∈ tl, LCg.Off1 q.1 (a :: b :: c :: fr)) (l2 : LCg.Off1 a.1 fr) (l3 : LCg.Off1 b.1 fr) (hp : post r [] (tl ++ [a, b])) : Q r { heap := h', gens := gs0, drawn := dr0, toks := tk', os := os0 } :=
  ret r h' tk' [] (tl ++ [a, b]) F (news_sub N fun p hp => by simp only [List.mem_append, List.mem_cons, List.nil_append] at hp ⊢; rcases hp with (h | h | h | h) | h <;> simp_all) (fun q hq => (List.mem_append.mp hq).elim (fun h => off1_sub (l1 q h) fun p hp => .tail _ (.tail _ (.tail _ hp))) fun h => by
    rcases List.mem_cons.mp h with rfl | h
    · exact l2
    · rw [List.mem_singleton.mp h]; exact l3) hp
end
theorem so_l {x : Flat} (h : (x.sort == Str.ofString "l") = true) : ∃ i, x = .l i := by
  rcases x with i | ⟨_ | _, gw, st, so, sh, ho⟩ | bw | ow | kw | ew | _ | _ <;> first | exact ⟨_, rfl⟩ | exact Bool.noConfusion (show false = true from h)
theorem so_g {x : Flat} (h : (x.sort == Str.ofString "g") = true) : ∃ gw st so sh ho, x = .g false gw st so sh ho := by
  rcases x with i | ⟨_ | _, gw, st, so, sh, ho⟩ | bw | ow | kw | ew | _ | _ <;> first | exact ⟨_, _, _, _, _, rfl⟩ | exact Bool.noConfusion (show false = true from h)
theorem so_d {x : Flat} (h : (x.sort == Str.ofString "d") = true) : ∃ gw st so sh ho, x = .g true gw st so sh ho := by
  rcases x with i | ⟨_ | _, gw, st, so, sh, ho⟩ | bw | ow | kw | ew | _ | _ <;> first | exact ⟨_, _, _, _, _, rfl⟩ | exact Bool.noConfusion (show false = true from h)
theorem so_b {x : Flat} (h : (x.sort == Str.ofString "b") = true) : ∃ w, x = .b w := by
  rcases x with i | ⟨_ | _, gw, st, so, sh, ho⟩ | bw | ow | kw | ew | _ | _ <;> first | exact ⟨_, rfl⟩ | exact Bool.noConfusion (show false = true from h)
theorem so_r {x : Flat} (h : (x.sort == Str.ofString "r") = true) : x = .r none ∨ ∃ w, x = .r (some w) := by
  rcases x with i | ⟨_ | _, gw, st, so, sh, ho⟩ | bw | (_ | ow) | kw | ew | _ | _ <;> first | exact .inl rfl | exact .inr ⟨_, rfl⟩ | exact Bool.noConfusion (show false = true from h)
theorem so_k {x : Flat} (h : (x.sort == Str.ofString "k") = true) : ∃ w, x = .k w := by
  rcases x with i | ⟨_ | _, gw, st, so, sh, ho⟩ | bw | ow | kw | ew | _ | _ <;> first | exact ⟨_, rfl⟩ | exact Bool.noConfusion (show false = true from h)
theorem so_e {x : Flat} (h : (x.sort == Str.ofString "e") = true) : ∃ w, x = .e w := by
  rcases x with i | ⟨_ | _, gw, st, so, sh, ho⟩ | bw | ow | kw | ew | _ | _ <;> first | exact ⟨_, rfl⟩ | exact Bool.noConfusion (show false = true from h)
theorem so_p {x : Flat} (h : (x.sort == Str.ofString "p") = true) : x = .p := by
  rcases x with i | ⟨_ | _, gw, st, so, sh, ho⟩ | bw | ow | kw | ew | _ | _ <;> first | exact rfl | exact Bool.noConfusion (show false = true from h)
theorem so_m {x : Flat} (h1 : (x.sort == Str.ofString "l") = false) (h2 : (x.sort == Str.ofString "g") = false) (h3 : (x.sort == Str.ofString "d") = false) (h4 : (x.sort == Str.ofString "b") = false) (h5 : (x.sort == Str.ofString "r") = false) (h6 : (x.sort == Str.ofString "k") = false) (h7 : (x.sort == Str.ofString "e") = false) (h8 : (x.sort == Str.ofString "p") = false) : x = .m := by
  rcases x with i | ⟨_ | _, gw, st, so, sh, ho⟩ | bw | ow | kw | ew | _ | _ <;> first | exact rfl | exact Bool.noConfusion (show true = false from h1) | exact Bool.noConfusion (show true = false from h2) | exact Bool.noConfusion (show true = false from h3) | exact Bool.noConfusion (show true = false from h4) | exact Bool.noConfusion (show true = false from h5) | exact Bool.noConfusion (show true = false from h6) | exact Bool.noConfusion (show true = false from h7) | exact Bool.noConfusion (show true = false from h8)
theorem so_no {x : Flat} (h9 : (x.sort == Str.ofString "m") = false) (e : x = .m) : False := Bool.noConfusion (show true = false from (e ▸ h9 : (Flat.m.sort == Str.ofString "m") = false))
theorem wid {x y : Flat} {v : Value} (e : x = y) (W : WidthV v x.w) : WidthV v y.w := e ▸ W
theorem glv {x y : Flat} {l : Led} {v : Value} (e : x = y) (G : GlueV l v x.mv) : GlueV l v y.mv := e ▸ G
theorem okv {x y : Flat} (e : x = y) (h : x.ok) : y.ok := e ▸ h
theorem nodeAt {P : Params} {font : Addr} {l : Led} {v : Value} {x y : Flat} (e : x = y) (h : NodeIn P font l v y) : NodeIn P font l v x := e ▸ h
theorem ints5 {vs : List Value} {a b c d e : Int} (h : IntsAre vs [a, b, c, d, e]) : ∃ t1 t2 t3 t4 t5, vs = [.int a t1, .int b t2, .int c t3, .int d t4, .int e t5] := by
  (obtain _ | ⟨_, _, h⟩ := h); (obtain _ | ⟨_, _, h⟩ := h); (obtain _ | ⟨_, _, h⟩ := h); (obtain _ | ⟨_, _, h⟩ := h); (obtain _ | ⟨_, _, h⟩ := h); (obtain _ | _ := h)
  exact ⟨_, _, _, _, _, rfl⟩
section
local macro_rules | `(tactic| walk_at "getMethod ref") => `(tactic| refine halt_of ?_)
local macro_rules | `(tactic| walk_at "eval ListComp") => `(tactic| (k_here; (with_reducible show wpAny _ _ (eval (Expr.ListComp _ [⟨_, _, [], _⟩] _ _) _) _ _ _); refine halt_of ?_))
local macro_rules | `(tactic| walk_at "call ref") => `(tactic| refine halt_of ?_)
set_option maxHeartbeats 8000000 in
theorem node_flat (w : World) (x : Flat) (v : Value) (font : Addr) (fr : Led) (hx : FlatIn fr v x) : CallsTo w 743 [v, .ref font] [] fr 12 220 (fun r mu' tl => mu' = [] ∧ NodeIn w.params font tl r x) := by
  obtain ⟨ok, a, la, n, k, t0, wv, dv, rfl, m1, m2, W, G⟩ := hx
  intro prog p loose mean mg mb A env outer A₀ base h₀ L m s Q E B F X N T hh hA hf hk hd hu ret; obtain ⟨hd0, dp, frm, gd, un⟩ := A; obtain ⟨hp0, gs0, dr0, tk0, os0⟩ := s; dsimp only at hh hA hd hu F N ret; subst hh hA; have hSt := StK.mk gs0 dr0 os0; (try simp only [List.cons_append, List.nil_append] at N)
  refine wpAny_call ?_; k_dflt (refine' code_defC (binds := [(Str.ofString "part", .ref a), (Str.ofString "font", .ref font)]) ?k1 ?k2 ?k3 ?k4 ?k5 ?kA ?kF ?kK ?k6 ?k7 ?k8 ?k9 ?kB ?kD ?_ ?c2 ?c3 ?c4; (case kA => exact rfl); (case kF => first | assumption | exact rfl); (case kK => first | assumption | exact rfl); (case k1 => k_asm); (case k2 => k_asm); (case k3 => k_asm); (case k4 => k_asm); (case k5 => k_asm); (case k6 => k_is); (case k7 => k_is); (case k8 => (walk_at "my room")); (case k9 => first | exact BindsTo.of_eq rfl | exact binds_K (by k_in) rfl (by k_is) rfl rfl rfl); (case kB => exact rfl); (case kD => decide +kernel); (case c2 => exact rfl); (case c3 => exact rfl); (case c4 => exact rfl); k_whole; intro g' L' h' tk' cells' FG' F' N' Y' B' X' T' l1; (try k_lt l1); k_cells Y'; (try simp only [List.cons_append, List.nil_append] at N'); (try dsimp only); (try k_fold))
  (k_steps; repeat' (first | ((with_reducible refine Halt.go ?_); (first | (k_here; (with_reducible show wpAny _ _ (getMethod (Value.ref _) (Str.ofString "index") _) _ _ _); k_dflt (refine' tup_index_m ?Nv29 ?mv29 ?_; (case Nv29 => k_asm); (case mv29 => k_mem))) | ((with_reducible show wpAny _ _ (call _ _) _ _ _); (first | (k_here; k_dflt ((first | refine' CallsTo.use0e (char_makes _ _ _ _ ?p1v31 ?p2v31 _) ?k1v31 ?k2v31 ?k3v31 ?k4v31 ?k5v31 ?kHv31 ?kAv31 ?kFv31 ?kKv31 ?kdv31 ?kuv31 ?_ | refine' CallsTo.use0e (kern_makes _ _ _ _ ?p1v31 ?p2v31 _) ?k1v31 ?k2v31 ?k3v31 ?k4v31 ?k5v31 ?kHv31 ?kAv31 ?kFv31 ?kKv31 ?kdv31 ?kuv31 ?_ | refine' CallsTo.use0e (edge_makes _ _ _ ?p1v31 ?p2v31 _) ?k1v31 ?k2v31 ?k3v31 ?k4v31 ?k5v31 ?kHv31 ?kAv31 ?kFv31 ?kKv31 ?kdv31 ?kuv31 ?_ | refine' CallsTo.use0e (penalty_makes _ _ _) ?k1v31 ?k2v31 ?k3v31 ?k4v31 ?k5v31 ?kHv31 ?kAv31 ?kFv31 ?kKv31 ?kdv31 ?kuv31 ?_ | refine' CallsTo.use0e (glue_u ?p1v31 ?p2v31 ?p3v31 ?p4v31 ?p5v31) ?k1v31 ?k2v31 ?k3v31 ?k4v31 ?k5v31 ?kHv31 ?kAv31 ?kFv31 ?kKv31 ?kdv31 ?kuv31 ?_ | refine' CallsTo.use0e (rule_n) ?k1v31 ?k2v31 ?k3v31 ?k4v31 ?k5v31 ?kHv31 ?kAv31 ?kFv31 ?kKv31 ?kdv31 ?kuv31 ?_ | refine' CallsTo.use0e (rule_s ?p1v31 ?p2v31) ?k1v31 ?k2v31 ?k3v31 ?k4v31 ?k5v31 ?kHv31 ?kAv31 ?kFv31 ?kKv31 ?kdv31 ?kuv31 ?_ | refine' CallsTo.use0e (rule_l) ?k1v31 ?k2v31 ?k3v31 ?k4v31 ?k5v31 ?kHv31 ?kAv31 ?kFv31 ?kKv31 ?kdv31 ?kuv31 ?_ | refine' CallsTo.use0e (box_u ?p1v31 ?p2v31) ?k1v31 ?k2v31 ?k3v31 ?k4v31 ?k5v31 ?kHv31 ?kAv31 ?kFv31 ?kKv31 ?kdv31 ?kuv31 ?_ | refine' CallsTo.use0e (mark_u) ?k1v31 ?k2v31 ?k3v31 ?k4v31 ?k5v31 ?kHv31 ?kAv31 ?kFv31 ?kKv31 ?kdv31 ?kuv31 ?_ | refine' CallsTo.use0e (lig_u ?p1v31 ?p2v31 ?q1v31) ?k1v31 ?k2v31 ?k3v31 ?k4v31 ?k5v31 ?kHv31 ?kAv31 ?kFv31 ?kKv31 ?kdv31 ?kuv31 ?_ | refine' CallsTo.use0e (skip_plain _ _ _ _) ?k1v31 ?k2v31 ?k3v31 ?k4v31 ?k5v31 ?kHv31 ?kAv31 ?kFv31 ?kKv31 ?kdv31 ?kuv31 ?_ | refine' CallsTo.use0e (skip_u ?q2v31) ?k1v31 ?k2v31 ?k3v31 ?k4v31 ?k5v31 ?kHv31 ?kAv31 ?kFv31 ?kKv31 ?kdv31 ?kuv31 ?_); (case k1v31 => k_asm); (case k2v31 => k_asm); (case k3v31 => k_asm); (case k4v31 => k_asm); (case k5v31 => k_asm); (case kHv31 => exact rfl); (case kAv31 => exact rfl); (case kFv31 => first | assumption | exact rfl); (case kKv31 => first | assumption | exact rfl); (case kdv31 => (walk_at "my room")); (case kuv31 => (walk_at "my room")); (try (case p1v31 => omega)); (try (case p2v31 => omega)); (try (case p3v31 => omega)); (try (case p4v31 => omega)); (try (case p5v31 => omega)); (try (case q1v31 => k_mem)); (try (case q2v31 => exact RuleIn.mono (fun _ h => List.mem_append_left _ h) (by assumption))); k_whole; (intro r'q h'q tk'q tl'q F'q N'q lt'q hp'q); (try simp only [List.cons_append, List.nil_append] at N'q); (try (obtain ⟨g'q, eg'q⟩ := GlueIn.isRef hp'q; subst eg'q)); (try (obtain ⟨g'q, eg'q⟩ := RuleIn.isRef hp'q; subst eg'q)); (try k_fold))) | fail)) | fail); (all_goals k_steps)) | ((fail_if_success (with_reducible refine Halt.go ?_)); (first | ((with_reducible show wpAny _ _ (call _ _) _ _ _); (k_here; k_dflt (refine' tup_index_c ?Nv30 ?mv30 ?hv30 ?vv30 ?_; (case Nv30 => k_asm); (case mv30 => k_mem); (case hv30 => assumption); (case vv30 => exact rfl)))) | fail); (all_goals k_steps))))
  all_goals first | exact none | skip
  · refine Exists.elim (so_l (by assumption)) fun i e => ?_
    refine Exists.elim ((wid e W : ∃ t, wv = .int (menuL.getD i 0) t)) fun tw ew => ?_
    have ed : dv = .none := glv e G
    have ok1 : i < 4 := okv e ok
    subst ew ed
    (k_steps; repeat' (first | ((with_reducible refine Halt.go ?_); (first | (k_here; (with_reducible show wpAny _ _ (getMethod (Value.ref _) (Str.ofString "index") _) _ _ _); k_dflt (refine' tup_index_m ?Nv29 ?mv29 ?_; (case Nv29 => k_asm); (case mv29 => k_mem))) | ((with_reducible show wpAny _ _ (call _ _) _ _ _); (first | (k_here; k_dflt ((first | refine' CallsTo.use0e (char_makes _ _ _ _ ?p1v31 ?p2v31 _) ?k1v31 ?k2v31 ?k3v31 ?k4v31 ?k5v31 ?kHv31 ?kAv31 ?kFv31 ?kKv31 ?kdv31 ?kuv31 ?_ | refine' CallsTo.use0e (kern_makes _ _ _ _ ?p1v31 ?p2v31 _) ?k1v31 ?k2v31 ?k3v31 ?k4v31 ?k5v31 ?kHv31 ?kAv31 ?kFv31 ?kKv31 ?kdv31 ?kuv31 ?_ | refine' CallsTo.use0e (edge_makes _ _ _ ?p1v31 ?p2v31 _) ?k1v31 ?k2v31 ?k3v31 ?k4v31 ?k5v31 ?kHv31 ?kAv31 ?kFv31 ?kKv31 ?kdv31 ?kuv31 ?_ | refine' CallsTo.use0e (penalty_makes _ _ _) ?k1v31 ?k2v31 ?k3v31 ?k4v31 ?k5v31 ?kHv31 ?kAv31 ?kFv31 ?kKv31 ?kdv31 ?kuv31 ?_ | refine' CallsTo.use0e (glue_u ?p1v31 ?p2v31 ?p3v31 ?p4v31 ?p5v31) ?k1v31 ?k2v31 ?k3v31 ?k4v31 ?k5v31 ?kHv31 ?kAv31 ?kFv31 ?kKv31 ?kdv31 ?kuv31 ?_ | refine' CallsTo.use0e (rule_n) ?k1v31 ?k2v31 ?k3v31 ?k4v31 ?k5v31 ?kHv31 ?kAv31 ?kFv31 ?kKv31 ?kdv31 ?kuv31 ?_ | refine' CallsTo.use0e (rule_s ?p1v31 ?p2v31) ?k1v31 ?k2v31 ?k3v31 ?k4v31 ?k5v31 ?kHv31 ?kAv31 ?kFv31 ?kKv31 ?kdv31 ?kuv31 ?_ | refine' CallsTo.use0e (rule_l) ?k1v31 ?k2v31 ?k3v31 ?k4v31 ?k5v31 ?kHv31 ?kAv31 ?kFv31 ?kKv31 ?kdv31 ?kuv31 ?_ | refine' CallsTo.use0e (box_u ?p1v31 ?p2v31) ?k1v31 ?k2v31 ?k3v31 ?k4v31 ?k5v31 ?kHv31 ?kAv31 ?kFv31 ?kKv31 ?kdv31 ?kuv31 ?_ | refine' CallsTo.use0e (mark_u) ?k1v31 ?k2v31 ?k3v31 ?k4v31 ?k5v31 ?kHv31 ?kAv31 ?kFv31 ?kKv31 ?kdv31 ?kuv31 ?_ | refine' CallsTo.use0e (lig_u ?p1v31 ?p2v31 ?q1v31) ?k1v31 ?k2v31 ?k3v31 ?k4v31 ?k5v31 ?kHv31 ?kAv31 ?kFv31 ?kKv31 ?kdv31 ?kuv31 ?_ | refine' CallsTo.use0e (skip_plain _ _ _ _) ?k1v31 ?k2v31 ?k3v31 ?k4v31 ?k5v31 ?kHv31 ?kAv31 ?kFv31 ?kKv31 ?kdv31 ?kuv31 ?_ | refine' CallsTo.use0e (skip_u ?q2v31) ?k1v31 ?k2v31 ?k3v31 ?k4v31 ?k5v31 ?kHv31 ?kAv31 ?kFv31 ?kKv31 ?kdv31 ?kuv31 ?_); (case k1v31 => k_asm); (case k2v31 => k_asm); (case k3v31 => k_asm); (case k4v31 => k_asm); (case k5v31 => k_asm); (case kHv31 => exact rfl); (case kAv31 => exact rfl); (case kFv31 => first | assumption | exact rfl); (case kKv31 => first | assumption | exact rfl); (case kdv31 => (walk_at "my room")); (case kuv31 => (walk_at "my room")); (try (case p1v31 => omega)); (try (case p2v31 => omega)); (try (case p3v31 => omega)); (try (case p4v31 => omega)); (try (case p5v31 => omega)); (try (case q1v31 => k_mem)); (try (case q2v31 => exact RuleIn.mono (fun _ h => List.mem_append_left _ h) (by assumption))); k_whole; (intro r'q h'q tk'q tl'q F'q N'q lt'q hp'q); (try simp only [List.cons_append, List.nil_append] at N'q); (try (obtain ⟨g'q, eg'q⟩ := GlueIn.isRef hp'q; subst eg'q)); (try (obtain ⟨g'q, eg'q⟩ := RuleIn.isRef hp'q; subst eg'q)); (try k_fold))) | fail)) | fail); (all_goals k_steps)) | ((fail_if_success (with_reducible refine Halt.go ?_)); (first | ((with_reducible show wpAny _ _ (call _ _) _ _ _); (k_here; k_dflt (refine' tup_index_c ?Nv30 ?mv30 ?hv30 ?vv30 ?_; (case Nv30 => k_asm); (case mv30 => k_mem); (case hv30 => assumption); (case vv30 => exact rfl)))) | fail); (all_goals k_steps))))
    all_goals first | exact none | skip
    · exact node_fin ret (by k_asm) (by k_asm) (by assumption) (fun _ h => .tail _ (.tail _ h)) (And.intro rfl (nodeAt e (And.intro ok1 (by rw [if_neg (by assumption)]; assumption))))
    · exact node_fin ret (by k_asm) (by k_asm) (by assumption) (fun _ h => by repeat (first | exact h | refine List.Mem.tail _ ?_)) (And.intro rfl (nodeAt e (And.intro ok1 (by rw [if_pos (by assumption)]; assumption))))
  · refine el5 (so_g (by assumption)) fun gw st so sh ho e => ?_
    have ok1 : (-1073741823 ≤ gw ∧ gw ≤ 1073741823) ∧ (-1073741823 ≤ st ∧ st ≤ 1073741823) ∧ (0 ≤ so ∧ so < 4) ∧ (-1073741823 ≤ sh ∧ sh ≤ 1073741823) ∧ (0 ≤ ho ∧ ho < 4) := okv e ok
    refine Exists.elim ((wid e W : ∃ t, wv = .int gw t)) fun tw ew => ?_
    refine el3 ((glv e G : ∃ ta n vs, dv = .ref ta ∧ (ta, tupO vs n) ∈ fr ∧ IntsAre vs [gw, st, so, sh, ho])) fun ta nt vs hO5 => an3 hO5 fun ev m3 iv => ?_
    refine el5 (ints5 iv) fun t1 t2 t3 t4 t5 ei => ?_
    subst ew ev ei
    clear iv
    (k_steps; repeat' (first | ((with_reducible refine Halt.go ?_); (first | (k_here; (with_reducible show wpAny _ _ (getMethod (Value.ref _) (Str.ofString "index") _) _ _ _); k_dflt (refine' tup_index_m ?Nv29 ?mv29 ?_; (case Nv29 => k_asm); (case mv29 => k_mem))) | ((with_reducible show wpAny _ _ (call _ _) _ _ _); (first | (k_here; k_dflt ((first | refine' CallsTo.use0e (char_makes _ _ _ _ ?p1v31 ?p2v31 _) ?k1v31 ?k2v31 ?k3v31 ?k4v31 ?k5v31 ?kHv31 ?kAv31 ?kFv31 ?kKv31 ?kdv31 ?kuv31 ?_ | refine' CallsTo.use0e (kern_makes _ _ _ _ ?p1v31 ?p2v31 _) ?k1v31 ?k2v31 ?k3v31 ?k4v31 ?k5v31 ?kHv31 ?kAv31 ?kFv31 ?kKv31 ?kdv31 ?kuv31 ?_ | refine' CallsTo.use0e (edge_makes _ _ _ ?p1v31 ?p2v31 _) ?k1v31 ?k2v31 ?k3v31 ?k4v31 ?k5v31 ?kHv31 ?kAv31 ?kFv31 ?kKv31 ?kdv31 ?kuv31 ?_ | refine' CallsTo.use0e (penalty_makes _ _ _) ?k1v31 ?k2v31 ?k3v31 ?k4v31 ?k5v31 ?kHv31 ?kAv31 ?kFv31 ?kKv31 ?kdv31 ?kuv31 ?_ | refine' CallsTo.use0e (glue_u ?p1v31 ?p2v31 ?p3v31 ?p4v31 ?p5v31) ?k1v31 ?k2v31 ?k3v31 ?k4v31 ?k5v31 ?kHv31 ?kAv31 ?kFv31 ?kKv31 ?kdv31 ?kuv31 ?_ | refine' CallsTo.use0e (rule_n) ?k1v31 ?k2v31 ?k3v31 ?k4v31 ?k5v31 ?kHv31 ?kAv31 ?kFv31 ?kKv31 ?kdv31 ?kuv31 ?_ | refine' CallsTo.use0e (rule_s ?p1v31 ?p2v31) ?k1v31 ?k2v31 ?k3v31 ?k4v31 ?k5v31 ?kHv31 ?kAv31 ?kFv31 ?kKv31 ?kdv31 ?kuv31 ?_ | refine' CallsTo.use0e (rule_l) ?k1v31 ?k2v31 ?k3v31 ?k4v31 ?k5v31 ?kHv31 ?kAv31 ?kFv31 ?kKv31 ?kdv31 ?kuv31 ?_ | refine' CallsTo.use0e (box_u ?p1v31 ?p2v31) ?k1v31 ?k2v31 ?k3v31 ?k4v31 ?k5v31 ?kHv31 ?kAv31 ?kFv31 ?kKv31 ?kdv31 ?kuv31 ?_ | refine' CallsTo.use0e (mark_u) ?k1v31 ?k2v31 ?k3v31 ?k4v31 ?k5v31 ?kHv31 ?kAv31 ?kFv31 ?kKv31 ?kdv31 ?kuv31 ?_ | refine' CallsTo.use0e (lig_u ?p1v31 ?p2v31 ?q1v31) ?k1v31 ?k2v31 ?k3v31 ?k4v31 ?k5v31 ?kHv31 ?kAv31 ?kFv31 ?kKv31 ?kdv31 ?kuv31 ?_ | refine' CallsTo.use0e (skip_plain _ _ _ _) ?k1v31 ?k2v31 ?k3v31 ?k4v31 ?k5v31 ?kHv31 ?kAv31 ?kFv31 ?kKv31 ?kdv31 ?kuv31 ?_ | refine' CallsTo.use0e (skip_u ?q2v31) ?k1v31 ?k2v31 ?k3v31 ?k4v31 ?k5v31 ?kHv31 ?kAv31 ?kFv31 ?kKv31 ?kdv31 ?kuv31 ?_); (case k1v31 => k_asm); (case k2v31 => k_asm); (case k3v31 => k_asm); (case k4v31 => k_asm); (case k5v31 => k_asm); (case kHv31 => exact rfl); (case kAv31 => exact rfl); (case kFv31 => first | assumption | exact rfl); (case kKv31 => first | assumption | exact rfl); (case kdv31 => (walk_at "my room")); (case kuv31 => (walk_at "my room")); (try (case p1v31 => omega)); (try (case p2v31 => omega)); (try (case p3v31 => omega)); (try (case p4v31 => omega)); (try (case p5v31 => omega)); (try (case q1v31 => k_mem)); (try (case q2v31 => exact RuleIn.mono (fun _ h => List.mem_append_left _ h) (by assumption))); k_whole; (intro r'q h'q tk'q tl'q F'q N'q lt'q hp'q); (try simp only [List.cons_append, List.nil_append] at N'q); (try (obtain ⟨g'q, eg'q⟩ := GlueIn.isRef hp'q; subst eg'q)); (try (obtain ⟨g'q, eg'q⟩ := RuleIn.isRef hp'q; subst eg'q)); (try k_fold))) | fail)) | fail); (all_goals k_steps)) | ((fail_if_success (with_reducible refine Halt.go ?_)); (first | ((with_reducible show wpAny _ _ (call _ _) _ _ _); (k_here; k_dflt (refine' tup_index_c ?Nv30 ?mv30 ?hv30 ?vv30 ?_; (case Nv30 => k_asm); (case mv30 => k_mem); (case hv30 => assumption); (case vv30 => exact rfl)))) | fail); (all_goals k_steps))))
    all_goals first | exact none | skip
    exact node_fin_g ret (by k_asm) (by k_asm) (by assumption) (by assumption) (And.intro rfl (nodeAt e (And.intro ok1 ⟨_, _, _, GlueIn.mono (fun _ h => List.mem_append_right _ h) (by assumption), Inst.mono (fun _ h => List.mem_append_left _ h) (by assumption), rfl⟩)))
  · refine el5 (so_d (by assumption)) fun gw st so sh ho e => ?_
    have ok1 : (-1073741823 ≤ gw ∧ gw ≤ 1073741823) ∧ (-1073741823 ≤ st ∧ st ≤ 1073741823) ∧ (0 ≤ so ∧ so < 4) ∧ (-1073741823 ≤ sh ∧ sh ≤ 1073741823) ∧ (0 ≤ ho ∧ ho < 4) := okv e ok
    refine Exists.elim ((wid e W : ∃ t, wv = .int gw t)) fun tw ew => ?_
    refine el3 ((glv e G : ∃ ta n vs, dv = .ref ta ∧ (ta, tupO vs n) ∈ fr ∧ IntsAre vs [gw, st, so, sh, ho])) fun ta nt vs hO9 => an3 hO9 fun ev m3 iv => ?_
    refine el5 (ints5 iv) fun t1 t2 t3 t4 t5 ei => ?_
    subst ew ev ei
    clear iv
    (k_steps; repeat' (first | ((with_reducible refine Halt.go ?_); (first | (k_here; (with_reducible show wpAny _ _ (getMethod (Value.ref _) (Str.ofString "index") _) _ _ _); k_dflt (refine' tup_index_m ?Nv29 ?mv29 ?_; (case Nv29 => k_asm); (case mv29 => k_mem))) | ((with_reducible show wpAny _ _ (call _ _) _ _ _); (first | (k_here; k_dflt ((first | refine' CallsTo.use0e (char_makes _ _ _ _ ?p1v31 ?p2v31 _) ?k1v31 ?k2v31 ?k3v31 ?k4v31 ?k5v31 ?kHv31 ?kAv31 ?kFv31 ?kKv31 ?kdv31 ?kuv31 ?_ | refine' CallsTo.use0e (kern_makes _ _ _ _ ?p1v31 ?p2v31 _) ?k1v31 ?k2v31 ?k3v31 ?k4v31 ?k5v31 ?kHv31 ?kAv31 ?kFv31 ?kKv31 ?kdv31 ?kuv31 ?_ | refine' CallsTo.use0e (edge_makes _ _ _ ?p1v31 ?p2v31 _) ?k1v31 ?k2v31 ?k3v31 ?k4v31 ?k5v31 ?kHv31 ?kAv31 ?kFv31 ?kKv31 ?kdv31 ?kuv31 ?_ | refine' CallsTo.use0e (penalty_makes _ _ _) ?k1v31 ?k2v31 ?k3v31 ?k4v31 ?k5v31 ?kHv31 ?kAv31 ?kFv31 ?kKv31 ?kdv31 ?kuv31 ?_ | refine' CallsTo.use0e (glue_u ?p1v31 ?p2v31 ?p3v31 ?p4v31 ?p5v31) ?k1v31 ?k2v31 ?k3v31 ?k4v31 ?k5v31 ?kHv31 ?kAv31 ?kFv31 ?kKv31 ?kdv31 ?kuv31 ?_ | refine' CallsTo.use0e (rule_n) ?k1v31 ?k2v31 ?k3v31 ?k4v31 ?k5v31 ?kHv31 ?kAv31 ?kFv31 ?kKv31 ?kdv31 ?kuv31 ?_ | refine' CallsTo.use0e (rule_s ?p1v31 ?p2v31) ?k1v31 ?k2v31 ?k3v31 ?k4v31 ?k5v31 ?kHv31 ?kAv31 ?kFv31 ?kKv31 ?kdv31 ?kuv31 ?_ | refine' CallsTo.use0e (rule_l) ?k1v31 ?k2v31 ?k3v31 ?k4v31 ?k5v31 ?kHv31 ?kAv31 ?kFv31 ?kKv31 ?kdv31 ?kuv31 ?_ | refine' CallsTo.use0e (box_u ?p1v31 ?p2v31) ?k1v31 ?k2v31 ?k3v31 ?k4v31 ?k5v31 ?kHv31 ?kAv31 ?kFv31 ?kKv31 ?kdv31 ?kuv31 ?_ | refine' CallsTo.use0e (mark_u) ?k1v31 ?k2v31 ?k3v31 ?k4v31 ?k5v31 ?kHv31 ?kAv31 ?kFv31 ?kKv31 ?kdv31 ?kuv31 ?_ | refine' CallsTo.use0e (lig_u ?p1v31 ?p2v31 ?q1v31) ?k1v31 ?k2v31 ?k3v31 ?k4v31 ?k5v31 ?kHv31 ?kAv31 ?kFv31 ?kKv31 ?kdv31 ?kuv31 ?_ | refine' CallsTo.use0e (skip_plain _ _ _ _) ?k1v31 ?k2v31 ?k3v31 ?k4v31 ?k5v31 ?kHv31 ?kAv31 ?kFv31 ?kKv31 ?kdv31 ?kuv31 ?_ | refine' CallsTo.use0e (skip_u ?q2v31) ?k1v31 ?k2v31 ?k3v31 ?k4v31 ?k5v31 ?kHv31 ?kAv31 ?kFv31 ?kKv31 ?kdv31 ?kuv31 ?_); (case k1v31 => k_asm); (case k2v31 => k_asm); (case k3v31 => k_asm); (case k4v31 => k_asm); (case k5v31 => k_asm); (case kHv31 => exact rfl); (case kAv31 => exact rfl); (case kFv31 => first | assumption | exact rfl); (case kKv31 => first | assumption | exact rfl); (case kdv31 => (walk_at "my room")); (case kuv31 => (walk_at "my room")); (try (case p1v31 => omega)); (try (case p2v31 => omega)); (try (case p3v31 => omega)); (try (case p4v31 => omega)); (try (case p5v31 => omega)); (try (case q1v31 => k_mem)); (try (case q2v31 => exact RuleIn.mono (fun _ h => List.mem_append_left _ h) (by assumption))); k_whole; (intro r'q h'q tk'q tl'q F'q N'q lt'q hp'q); (try simp only [List.cons_append, List.nil_append] at N'q); (try (obtain ⟨g'q, eg'q⟩ := GlueIn.isRef hp'q; subst eg'q)); (try (obtain ⟨g'q, eg'q⟩ := RuleIn.isRef hp'q; subst eg'q)); (try k_fold))) | fail)) | fail); (all_goals k_steps)) | ((fail_if_success (with_reducible refine Halt.go ?_)); (first | ((with_reducible show wpAny _ _ (call _ _) _ _ _); (k_here; k_dflt (refine' tup_index_c ?Nv30 ?mv30 ?hv30 ?vv30 ?_; (case Nv30 => k_asm); (case mv30 => k_mem); (case hv30 => assumption); (case vv30 => exact rfl)))) | fail); (all_goals k_steps))))
    all_goals first | exact none | skip
    exact node_fin_d ret (by k_asm) (by k_asm) (by assumption) (by assumption) (by assumption) (And.intro rfl (nodeAt e (And.intro ok1 ⟨_, _, _, GlueIn.mono (fun _ h => List.mem_append_right _ (List.mem_append_right _ h)) (by assumption), Inst.mono (fun _ h => List.mem_append_left _ h) (by assumption), RuleIn.mono (fun _ h => List.mem_append_right _ (List.mem_append_left _ h)) (by assumption)⟩)))
  · refine Exists.elim (so_b (by assumption)) fun kw e => ?_
    refine Exists.elim ((wid e W : ∃ t, wv = .int kw t)) fun tw ew => ?_
    have ed : dv = .none := glv e G
    have ok1 : (-1073741823 ≤ kw ∧ kw ≤ 1073741823) := okv e ok
    subst ew ed
    (k_steps; repeat' (first | ((with_reducible refine Halt.go ?_); (first | (k_here; (with_reducible show wpAny _ _ (getMethod (Value.ref _) (Str.ofString "index") _) _ _ _); k_dflt (refine' tup_index_m ?Nv29 ?mv29 ?_; (case Nv29 => k_asm); (case mv29 => k_mem))) | ((with_reducible show wpAny _ _ (call _ _) _ _ _); (first | (k_here; k_dflt ((first | refine' CallsTo.use0e (char_makes _ _ _ _ ?p1v31 ?p2v31 _) ?k1v31 ?k2v31 ?k3v31 ?k4v31 ?k5v31 ?kHv31 ?kAv31 ?kFv31 ?kKv31 ?kdv31 ?kuv31 ?_ | refine' CallsTo.use0e (kern_makes _ _ _ _ ?p1v31 ?p2v31 _) ?k1v31 ?k2v31 ?k3v31 ?k4v31 ?k5v31 ?kHv31 ?kAv31 ?kFv31 ?kKv31 ?kdv31 ?kuv31 ?_ | refine' CallsTo.use0e (edge_makes _ _ _ ?p1v31 ?p2v31 _) ?k1v31 ?k2v31 ?k3v31 ?k4v31 ?k5v31 ?kHv31 ?kAv31 ?kFv31 ?kKv31 ?kdv31 ?kuv31 ?_ | refine' CallsTo.use0e (penalty_makes _ _ _) ?k1v31 ?k2v31 ?k3v31 ?k4v31 ?k5v31 ?kHv31 ?kAv31 ?kFv31 ?kKv31 ?kdv31 ?kuv31 ?_ | refine' CallsTo.use0e (glue_u ?p1v31 ?p2v31 ?p3v31 ?p4v31 ?p5v31) ?k1v31 ?k2v31 ?k3v31 ?k4v31 ?k5v31 ?kHv31 ?kAv31 ?kFv31 ?kKv31 ?kdv31 ?kuv31 ?_ | refine' CallsTo.use0e (rule_n) ?k1v31 ?k2v31 ?k3v31 ?k4v31 ?k5v31 ?kHv31 ?kAv31 ?kFv31 ?kKv31 ?kdv31 ?kuv31 ?_ | refine' CallsTo.use0e (rule_s ?p1v31 ?p2v31) ?k1v31 ?k2v31 ?k3v31 ?k4v31 ?k5v31 ?kHv31 ?kAv31 ?kFv31 ?kKv31 ?kdv31 ?kuv31 ?_ | refine' CallsTo.use0e (rule_l) ?k1v31 ?k2v31 ?k3v31 ?k4v31 ?k5v31 ?kHv31 ?kAv31 ?kFv31 ?kKv31 ?kdv31 ?kuv31 ?_ | refine' CallsTo.use0e (box_u ?p1v31 ?p2v31) ?k1v31 ?k2v31 ?k3v31 ?k4v31 ?k5v31 ?kHv31 ?kAv31 ?kFv31 ?kKv31 ?kdv31 ?kuv31 ?_ | refine' CallsTo.use0e (mark_u) ?k1v31 ?k2v31 ?k3v31 ?k4v31 ?k5v31 ?kHv31 ?kAv31 ?kFv31 ?kKv31 ?kdv31 ?kuv31 ?_ | refine' CallsTo.use0e (lig_u ?p1v31 ?p2v31 ?q1v31) ?k1v31 ?k2v31 ?k3v31 ?k4v31 ?k5v31 ?kHv31 ?kAv31 ?kFv31 ?kKv31 ?kdv31 ?kuv31 ?_ | refine' CallsTo.use0e (skip_plain _ _ _ _) ?k1v31 ?k2v31 ?k3v31 ?k4v31 ?k5v31 ?kHv31 ?kAv31 ?kFv31 ?kKv31 ?kdv31 ?kuv31 ?_ | refine' CallsTo.use0e (skip_u ?q2v31) ?k1v31 ?k2v31 ?k3v31 ?k4v31 ?k5v31 ?kHv31 ?kAv31 ?kFv31 ?kKv31 ?kdv31 ?kuv31 ?_); (case k1v31 => k_asm); (case k2v31 => k_asm); (case k3v31 => k_asm); (case k4v31 => k_asm); (case k5v31 => k_asm); (case kHv31 => exact rfl); (case kAv31 => exact rfl); (case kFv31 => first | assumption | exact rfl); (case kKv31 => first | assumption | exact rfl); (case kdv31 => (walk_at "my room")); (case kuv31 => (walk_at "my room")); (try (case p1v31 => omega)); (try (case p2v31 => omega)); (try (case p3v31 => omega)); (try (case p4v31 => omega)); (try (case p5v31 => omega)); (try (case q1v31 => k_mem)); (try (case q2v31 => exact RuleIn.mono (fun _ h => List.mem_append_left _ h) (by assumption))); k_whole; (intro r'q h'q tk'q tl'q F'q N'q lt'q hp'q); (try simp only [List.cons_append, List.nil_append] at N'q); (try (obtain ⟨g'q, eg'q⟩ := GlueIn.isRef hp'q; subst eg'q)); (try (obtain ⟨g'q, eg'q⟩ := RuleIn.isRef hp'q; subst eg'q)); (try k_fold))) | fail)) | fail); (all_goals k_steps)) | ((fail_if_success (with_reducible refine Halt.go ?_)); (first | ((with_reducible show wpAny _ _ (call _ _) _ _ _); (k_here; k_dflt (refine' tup_index_c ?Nv30 ?mv30 ?hv30 ?vv30 ?_; (case Nv30 => k_asm); (case mv30 => k_mem); (case hv30 => assumption); (case vv30 => exact rfl)))) | fail); (all_goals k_steps))))
    all_goals first | exact none | skip
    exact node_fin_b ret (by k_asm) (by k_asm) (by assumption) (off1_lt (by assumption : _ ∧ AllLt _ fr).2) (And.intro rfl (nodeAt e (And.intro ok1 (box_at (by assumption)))))
  · refine Or.elim (so_r (by assumption)) (fun e => ?_) (fun hr => ?_)
    · have ew : wv = .none := wid e W
      have ed : dv = .none := glv e G
      subst ew ed
      (k_steps; repeat' (first | ((with_reducible refine Halt.go ?_); (first | (k_here; (with_reducible show wpAny _ _ (getMethod (Value.ref _) (Str.ofString "index") _) _ _ _); k_dflt (refine' tup_index_m ?Nv29 ?mv29 ?_; (case Nv29 => k_asm); (case mv29 => k_mem))) | ((with_reducible show wpAny _ _ (call _ _) _ _ _); (first | (k_here; k_dflt ((first | refine' CallsTo.use0e (char_makes _ _ _ _ ?p1v31 ?p2v31 _) ?k1v31 ?k2v31 ?k3v31 ?k4v31 ?k5v31 ?kHv31 ?kAv31 ?kFv31 ?kKv31 ?kdv31 ?kuv31 ?_ | refine' CallsTo.use0e (kern_makes _ _ _ _ ?p1v31 ?p2v31 _) ?k1v31 ?k2v31 ?k3v31 ?k4v31 ?k5v31 ?kHv31 ?kAv31 ?kFv31 ?kKv31 ?kdv31 ?kuv31 ?_ | refine' CallsTo.use0e (edge_makes _ _ _ ?p1v31 ?p2v31 _) ?k1v31 ?k2v31 ?k3v31 ?k4v31 ?k5v31 ?kHv31 ?kAv31 ?kFv31 ?kKv31 ?kdv31 ?kuv31 ?_ | refine' CallsTo.use0e (penalty_makes _ _ _) ?k1v31 ?k2v31 ?k3v31 ?k4v31 ?k5v31 ?kHv31 ?kAv31 ?kFv31 ?kKv31 ?kdv31 ?kuv31 ?_ | refine' CallsTo.use0e (glue_u ?p1v31 ?p2v31 ?p3v31 ?p4v31 ?p5v31) ?k1v31 ?k2v31 ?k3v31 ?k4v31 ?k5v31 ?kHv31 ?kAv31 ?kFv31 ?kKv31 ?kdv31 ?kuv31 ?_ | refine' CallsTo.use0e (rule_n) ?k1v31 ?k2v31 ?k3v31 ?k4v31 ?k5v31 ?kHv31 ?kAv31 ?kFv31 ?kKv31 ?kdv31 ?kuv31 ?_ | refine' CallsTo.use0e (rule_s ?p1v31 ?p2v31) ?k1v31 ?k2v31 ?k3v31 ?k4v31 ?k5v31 ?kHv31 ?kAv31 ?kFv31 ?kKv31 ?kdv31 ?kuv31 ?_ | refine' CallsTo.use0e (rule_l) ?k1v31 ?k2v31 ?k3v31 ?k4v31 ?k5v31 ?kHv31 ?kAv31 ?kFv31 ?kKv31 ?kdv31 ?kuv31 ?_ | refine' CallsTo.use0e (box_u ?p1v31 ?p2v31) ?k1v31 ?k2v31 ?k3v31 ?k4v31 ?k5v31 ?kHv31 ?kAv31 ?kFv31 ?kKv31 ?kdv31 ?kuv31 ?_ | refine' CallsTo.use0e (mark_u) ?k1v31 ?k2v31 ?k3v31 ?k4v31 ?k5v31 ?kHv31 ?kAv31 ?kFv31 ?kKv31 ?kdv31 ?kuv31 ?_ | refine' CallsTo.use0e (lig_u ?p1v31 ?p2v31 ?q1v31) ?k1v31 ?k2v31 ?k3v31 ?k4v31 ?k5v31 ?kHv31 ?kAv31 ?kFv31 ?kKv31 ?kdv31 ?kuv31 ?_ | refine' CallsTo.use0e (skip_plain _ _ _ _) ?k1v31 ?k2v31 ?k3v31 ?k4v31 ?k5v31 ?kHv31 ?kAv31 ?kFv31 ?kKv31 ?kdv31 ?kuv31 ?_ | refine' CallsTo.use0e (skip_u ?q2v31) ?k1v31 ?k2v31 ?k3v31 ?k4v31 ?k5v31 ?kHv31 ?kAv31 ?kFv31 ?kKv31 ?kdv31 ?kuv31 ?_); (case k1v31 => k_asm); (case k2v31 => k_asm); (case k3v31 => k_asm); (case k4v31 => k_asm); (case k5v31 => k_asm); (case kHv31 => exact rfl); (case kAv31 => exact rfl); (case kFv31 => first | assumption | exact rfl); (case kKv31 => first | assumption | exact rfl); (case kdv31 => (walk_at "my room")); (case kuv31 => (walk_at "my room")); (try (case p1v31 => omega)); (try (case p2v31 => omega)); (try (case p3v31 => omega)); (try (case p4v31 => omega)); (try (case p5v31 => omega)); (try (case q1v31 => k_mem)); (try (case q2v31 => exact RuleIn.mono (fun _ h => List.mem_append_left _ h) (by assumption))); k_whole; (intro r'q h'q tk'q tl'q F'q N'q lt'q hp'q); (try simp only [List.cons_append, List.nil_append] at N'q); (try (obtain ⟨g'q, eg'q⟩ := GlueIn.isRef hp'q; subst eg'q)); (try (obtain ⟨g'q, eg'q⟩ := RuleIn.isRef hp'q; subst eg'q)); (try k_fold))) | fail)) | fail); (all_goals k_steps)) | ((fail_if_success (with_reducible refine Halt.go ?_)); (first | ((with_reducible show wpAny _ _ (call _ _) _ _ _); (k_here; k_dflt (refine' tup_index_c ?Nv30 ?mv30 ?hv30 ?vv30 ?_; (case Nv30 => k_asm); (case mv30 => k_mem); (case hv30 => assumption); (case vv30 => exact rfl)))) | fail); (all_goals k_steps))))
      all_goals first | exact none | skip
      exact node_fin ret (by k_asm) (by k_asm) (by assumption) (fun _ h => .tail _ h) (And.intro rfl (nodeAt e (And.intro (fun _ h => nomatch h) (by assumption))))
    · refine Exists.elim (hr) fun kw e => ?_
      have ok1 : (-1073741823 ≤ kw ∧ kw ≤ 1073741823) := okv e ok _ rfl
      refine Exists.elim ((wid e W : ∃ t, wv = .int kw t)) fun tw ew => ?_
      have ed : dv = .none := glv e G
      subst ew ed
      (k_steps; repeat' (first | ((with_reducible refine Halt.go ?_); (first | (k_here; (with_reducible show wpAny _ _ (getMethod (Value.ref _) (Str.ofString "index") _) _ _ _); k_dflt (refine' tup_index_m ?Nv29 ?mv29 ?_; (case Nv29 => k_asm); (case mv29 => k_mem))) | ((with_reducible show wpAny _ _ (call _ _) _ _ _); (first | (k_here; k_dflt ((first | refine' CallsTo.use0e (char_makes _ _ _ _ ?p1v31 ?p2v31 _) ?k1v31 ?k2v31 ?k3v31 ?k4v31 ?k5v31 ?kHv31 ?kAv31 ?kFv31 ?kKv31 ?kdv31 ?kuv31 ?_ | refine' CallsTo.use0e (kern_makes _ _ _ _ ?p1v31 ?p2v31 _) ?k1v31 ?k2v31 ?k3v31 ?k4v31 ?k5v31 ?kHv31 ?kAv31 ?kFv31 ?kKv31 ?kdv31 ?kuv31 ?_ | refine' CallsTo.use0e (edge_makes _ _ _ ?p1v31 ?p2v31 _) ?k1v31 ?k2v31 ?k3v31 ?k4v31 ?k5v31 ?kHv31 ?kAv31 ?kFv31 ?kKv31 ?kdv31 ?kuv31 ?_ | refine' CallsTo.use0e (penalty_makes _ _ _) ?k1v31 ?k2v31 ?k3v31 ?k4v31 ?k5v31 ?kHv31 ?kAv31 ?kFv31 ?kKv31 ?kdv31 ?kuv31 ?_ | refine' CallsTo.use0e (glue_u ?p1v31 ?p2v31 ?p3v31 ?p4v31 ?p5v31) ?k1v31 ?k2v31 ?k3v31 ?k4v31 ?k5v31 ?kHv31 ?kAv31 ?kFv31 ?kKv31 ?kdv31 ?kuv31 ?_ | refine' CallsTo.use0e (rule_n) ?k1v31 ?k2v31 ?k3v31 ?k4v31 ?k5v31 ?kHv31 ?kAv31 ?kFv31 ?kKv31 ?kdv31 ?kuv31 ?_ | refine' CallsTo.use0e (rule_s ?p1v31 ?p2v31) ?k1v31 ?k2v31 ?k3v31 ?k4v31 ?k5v31 ?kHv31 ?kAv31 ?kFv31 ?kKv31 ?kdv31 ?kuv31 ?_ | refine' CallsTo.use0e (rule_l) ?k1v31 ?k2v31 ?k3v31 ?k4v31 ?k5v31 ?kHv31 ?kAv31 ?kFv31 ?kKv31 ?kdv31 ?kuv31 ?_ | refine' CallsTo.use0e (box_u ?p1v31 ?p2v31) ?k1v31 ?k2v31 ?k3v31 ?k4v31 ?k5v31 ?kHv31 ?kAv31 ?kFv31 ?kKv31 ?kdv31 ?kuv31 ?_ | refine' CallsTo.use0e (mark_u) ?k1v31 ?k2v31 ?k3v31 ?k4v31 ?k5v31 ?kHv31 ?kAv31 ?kFv31 ?kKv31 ?kdv31 ?kuv31 ?_ | refine' CallsTo.use0e (lig_u ?p1v31 ?p2v31 ?q1v31) ?k1v31 ?k2v31 ?k3v31 ?k4v31 ?k5v31 ?kHv31 ?kAv31 ?kFv31 ?kKv31 ?kdv31 ?kuv31 ?_ | refine' CallsTo.use0e (skip_plain _ _ _ _) ?k1v31 ?k2v31 ?k3v31 ?k4v31 ?k5v31 ?kHv31 ?kAv31 ?kFv31 ?kKv31 ?kdv31 ?kuv31 ?_ | refine' CallsTo.use0e (skip_u ?q2v31) ?k1v31 ?k2v31 ?k3v31 ?k4v31 ?k5v31 ?kHv31 ?kAv31 ?kFv31 ?kKv31 ?kdv31 ?kuv31 ?_); (case k1v31 => k_asm); (case k2v31 => k_asm); (case k3v31 => k_asm); (case k4v31 => k_asm); (case k5v31 => k_asm); (case kHv31 => exact rfl); (case kAv31 => exact rfl); (case kFv31 => first | assumption | exact rfl); (case kKv31 => first | assumption | exact rfl); (case kdv31 => (walk_at "my room")); (case kuv31 => (walk_at "my room")); (try (case p1v31 => omega)); (try (case p2v31 => omega)); (try (case p3v31 => omega)); (try (case p4v31 => omega)); (try (case p5v31 => omega)); (try (case q1v31 => k_mem)); (try (case q2v31 => exact RuleIn.mono (fun _ h => List.mem_append_left _ h) (by assumption))); k_whole; (intro r'q h'q tk'q tl'q F'q N'q lt'q hp'q); (try simp only [List.cons_append, List.nil_append] at N'q); (try (obtain ⟨g'q, eg'q⟩ := GlueIn.isRef hp'q; subst eg'q)); (try (obtain ⟨g'q, eg'q⟩ := RuleIn.isRef hp'q; subst eg'q)); (try k_fold))) | fail)) | fail); (all_goals k_steps)) | ((fail_if_success (with_reducible refine Halt.go ?_)); (first | ((with_reducible show wpAny _ _ (call _ _) _ _ _); (k_here; k_dflt (refine' tup_index_c ?Nv30 ?mv30 ?hv30 ?vv30 ?_; (case Nv30 => k_asm); (case mv30 => k_mem); (case hv30 => assumption); (case vv30 => exact rfl)))) | fail); (all_goals k_steps))))
      all_goals first | exact none | skip
      exact node_fin ret (by k_asm) (by k_asm) (by assumption) (fun _ h => .tail _ h) (And.intro rfl (nodeAt e (And.intro (fun _ h => by cases h; exact ok1) (by assumption))))
  · refine Exists.elim (so_k (by assumption)) fun kw e => ?_
    refine Exists.elim ((wid e W : ∃ t, wv = .int kw t)) fun tw ew => ?_
    have ed : dv = .none := glv e G
    have ok1 : (-1073741823 ≤ kw ∧ kw ≤ 1073741823) := okv e ok
    subst ew ed
    (k_steps; repeat' (first | ((with_reducible refine Halt.go ?_); (first | (k_here; (with_reducible show wpAny _ _ (getMethod (Value.ref _) (Str.ofString "index") _) _ _ _); k_dflt (refine' tup_index_m ?Nv29 ?mv29 ?_; (case Nv29 => k_asm); (case mv29 => k_mem))) | ((with_reducible show wpAny _ _ (call _ _) _ _ _); (first | (k_here; k_dflt ((first | refine' CallsTo.use0e (char_makes _ _ _ _ ?p1v31 ?p2v31 _) ?k1v31 ?k2v31 ?k3v31 ?k4v31 ?k5v31 ?kHv31 ?kAv31 ?kFv31 ?kKv31 ?kdv31 ?kuv31 ?_ | refine' CallsTo.use0e (kern_makes _ _ _ _ ?p1v31 ?p2v31 _) ?k1v31 ?k2v31 ?k3v31 ?k4v31 ?k5v31 ?kHv31 ?kAv31 ?kFv31 ?kKv31 ?kdv31 ?kuv31 ?_ | refine' CallsTo.use0e (edge_makes _ _ _ ?p1v31 ?p2v31 _) ?k1v31 ?k2v31 ?k3v31 ?k4v31 ?k5v31 ?kHv31 ?kAv31 ?kFv31 ?kKv31 ?kdv31 ?kuv31 ?_ | refine' CallsTo.use0e (penalty_makes _ _ _) ?k1v31 ?k2v31 ?k3v31 ?k4v31 ?k5v31 ?kHv31 ?kAv31 ?kFv31 ?kKv31 ?kdv31 ?kuv31 ?_ | refine' CallsTo.use0e (glue_u ?p1v31 ?p2v31 ?p3v31 ?p4v31 ?p5v31) ?k1v31 ?k2v31 ?k3v31 ?k4v31 ?k5v31 ?kHv31 ?kAv31 ?kFv31 ?kKv31 ?kdv31 ?kuv31 ?_ | refine' CallsTo.use0e (rule_n) ?k1v31 ?k2v31 ?k3v31 ?k4v31 ?k5v31 ?kHv31 ?kAv31 ?kFv31 ?kKv31 ?kdv31 ?kuv31 ?_ | refine' CallsTo.use0e (rule_s ?p1v31 ?p2v31) ?k1v31 ?k2v31 ?k3v31 ?k4v31 ?k5v31 ?kHv31 ?kAv31 ?kFv31 ?kKv31 ?kdv31 ?kuv31 ?_ | refine' CallsTo.use0e (rule_l) ?k1v31 ?k2v31 ?k3v31 ?k4v31 ?k5v31 ?kHv31 ?kAv31 ?kFv31 ?kKv31 ?kdv31 ?kuv31 ?_ | refine' CallsTo.use0e (box_u ?p1v31 ?p2v31) ?k1v31 ?k2v31 ?k3v31 ?k4v31 ?k5v31 ?kHv31 ?kAv31 ?kFv31 ?kKv31 ?kdv31 ?kuv31 ?_ | refine' CallsTo.use0e (mark_u) ?k1v31 ?k2v31 ?k3v31 ?k4v31 ?k5v31 ?kHv31 ?kAv31 ?kFv31 ?kKv31 ?kdv31 ?kuv31 ?_ | refine' CallsTo.use0e (lig_u ?p1v31 ?p2v31 ?q1v31) ?k1v31 ?k2v31 ?k3v31 ?k4v31 ?k5v31 ?kHv31 ?kAv31 ?kFv31 ?kKv31 ?kdv31 ?kuv31 ?_ | refine' CallsTo.use0e (skip_plain _ _ _ _) ?k1v31 ?k2v31 ?k3v31 ?k4v31 ?k5v31 ?kHv31 ?kAv31 ?kFv31 ?kKv31 ?kdv31 ?kuv31 ?_ | refine' CallsTo.use0e (skip_u ?q2v31) ?k1v31 ?k2v31 ?k3v31 ?k4v31 ?k5v31 ?kHv31 ?kAv31 ?kFv31 ?kKv31 ?kdv31 ?kuv31 ?_); (case k1v31 => k_asm); (case k2v31 => k_asm); (case k3v31 => k_asm); (case k4v31 => k_asm); (case k5v31 => k_asm); (case kHv31 => exact rfl); (case kAv31 => exact rfl); (case kFv31 => first | assumption | exact rfl); (case kKv31 => first | assumption | exact rfl); (case kdv31 => (walk_at "my room")); (case kuv31 => (walk_at "my room")); (try (case p1v31 => omega)); (try (case p2v31 => omega)); (try (case p3v31 => omega)); (try (case p4v31 => omega)); (try (case p5v31 => omega)); (try (case q1v31 => k_mem)); (try (case q2v31 => exact RuleIn.mono (fun _ h => List.mem_append_left _ h) (by assumption))); k_whole; (intro r'q h'q tk'q tl'q F'q N'q lt'q hp'q); (try simp only [List.cons_append, List.nil_append] at N'q); (try (obtain ⟨g'q, eg'q⟩ := GlueIn.isRef hp'q; subst eg'q)); (try (obtain ⟨g'q, eg'q⟩ := RuleIn.isRef hp'q; subst eg'q)); (try k_fold))) | fail)) | fail); (all_goals k_steps)) | ((fail_if_success (with_reducible refine Halt.go ?_)); (first | ((with_reducible show wpAny _ _ (call _ _) _ _ _); (k_here; k_dflt (refine' tup_index_c ?Nv30 ?mv30 ?hv30 ?vv30 ?_; (case Nv30 => k_asm); (case mv30 => k_mem); (case hv30 => assumption); (case vv30 => exact rfl)))) | fail); (all_goals k_steps))))
    all_goals first | exact none | skip
    exact node_fin ret (by k_asm) (by k_asm) (by assumption) (fun _ h => .tail _ h) (And.intro rfl (nodeAt e (And.intro ok1 (by assumption))))
  · refine Exists.elim (so_e (by assumption)) fun kw e => ?_
    refine Exists.elim ((wid e W : ∃ t, wv = .int kw t)) fun tw ew => ?_
    have ed : dv = .none := glv e G
    have ok1 : (-1073741823 ≤ kw ∧ kw ≤ 1073741823) := okv e ok
    subst ew ed
    (k_steps; repeat' (first | ((with_reducible refine Halt.go ?_); (first | (k_here; (with_reducible show wpAny _ _ (getMethod (Value.ref _) (Str.ofString "index") _) _ _ _); k_dflt (refine' tup_index_m ?Nv29 ?mv29 ?_; (case Nv29 => k_asm); (case mv29 => k_mem))) | ((with_reducible show wpAny _ _ (call _ _) _ _ _); (first | (k_here; k_dflt ((first | refine' CallsTo.use0e (char_makes _ _ _ _ ?p1v31 ?p2v31 _) ?k1v31 ?k2v31 ?k3v31 ?k4v31 ?k5v31 ?kHv31 ?kAv31 ?kFv31 ?kKv31 ?kdv31 ?kuv31 ?_ | refine' CallsTo.use0e (kern_makes _ _ _ _ ?p1v31 ?p2v31 _) ?k1v31 ?k2v31 ?k3v31 ?k4v31 ?k5v31 ?kHv31 ?kAv31 ?kFv31 ?kKv31 ?kdv31 ?kuv31 ?_ | refine' CallsTo.use0e (edge_makes _ _ _ ?p1v31 ?p2v31 _) ?k1v31 ?k2v31 ?k3v31 ?k4v31 ?k5v31 ?kHv31 ?kAv31 ?kFv31 ?kKv31 ?kdv31 ?kuv31 ?_ | refine' CallsTo.use0e (penalty_makes _ _ _) ?k1v31 ?k2v31 ?k3v31 ?k4v31 ?k5v31 ?kHv31 ?kAv31 ?kFv31 ?kKv31 ?kdv31 ?kuv31 ?_ | refine' CallsTo.use0e (glue_u ?p1v31 ?p2v31 ?p3v31 ?p4v31 ?p5v31) ?k1v31 ?k2v31 ?k3v31 ?k4v31 ?k5v31 ?kHv31 ?kAv31 ?kFv31 ?kKv31 ?kdv31 ?kuv31 ?_ | refine' CallsTo.use0e (rule_n) ?k1v31 ?k2v31 ?k3v31 ?k4v31 ?k5v31 ?kHv31 ?kAv31 ?kFv31 ?kKv31 ?kdv31 ?kuv31 ?_ | refine' CallsTo.use0e (rule_s ?p1v31 ?p2v31) ?k1v31 ?k2v31 ?k3v31 ?k4v31 ?k5v31 ?kHv31 ?kAv31 ?kFv31 ?kKv31 ?kdv31 ?kuv31 ?_ | refine' CallsTo.use0e (rule_l) ?k1v31 ?k2v31 ?k3v31 ?k4v31 ?k5v31 ?kHv31 ?kAv31 ?kFv31 ?kKv31 ?kdv31 ?kuv31 ?_ | refine' CallsTo.use0e (box_u ?p1v31 ?p2v31) ?k1v31 ?k2v31 ?k3v31 ?k4v31 ?k5v31 ?kHv31 ?kAv31 ?kFv31 ?kKv31 ?kdv31 ?kuv31 ?_ | refine' CallsTo.use0e (mark_u) ?k1v31 ?k2v31 ?k3v31 ?k4v31 ?k5v31 ?kHv31 ?kAv31 ?kFv31 ?kKv31 ?kdv31 ?kuv31 ?_ | refine' CallsTo.use0e (lig_u ?p1v31 ?p2v31 ?q1v31) ?k1v31 ?k2v31 ?k3v31 ?k4v31 ?k5v31 ?kHv31 ?kAv31 ?kFv31 ?kKv31 ?kdv31 ?kuv31 ?_ | refine' CallsTo.use0e (skip_plain _ _ _ _) ?k1v31 ?k2v31 ?k3v31 ?k4v31 ?k5v31 ?kHv31 ?kAv31 ?kFv31 ?kKv31 ?kdv31 ?kuv31 ?_ | refine' CallsTo.use0e (skip_u ?q2v31) ?k1v31 ?k2v31 ?k3v31 ?k4v31 ?k5v31 ?kHv31 ?kAv31 ?kFv31 ?kKv31 ?kdv31 ?kuv31 ?_); (case k1v31 => k_asm); (case k2v31 => k_asm); (case k3v31 => k_asm); (case k4v31 => k_asm); (case k5v31 => k_asm); (case kHv31 => exact rfl); (case kAv31 => exact rfl); (case kFv31 => first | assumption | exact rfl); (case kKv31 => first | assumption | exact rfl); (case kdv31 => (walk_at "my room")); (case kuv31 => (walk_at "my room")); (try (case p1v31 => omega)); (try (case p2v31 => omega)); (try (case p3v31 => omega)); (try (case p4v31 => omega)); (try (case p5v31 => omega)); (try (case q1v31 => k_mem)); (try (case q2v31 => exact RuleIn.mono (fun _ h => List.mem_append_left _ h) (by assumption))); k_whole; (intro r'q h'q tk'q tl'q F'q N'q lt'q hp'q); (try simp only [List.cons_append, List.nil_append] at N'q); (try (obtain ⟨g'q, eg'q⟩ := GlueIn.isRef hp'q; subst eg'q)); (try (obtain ⟨g'q, eg'q⟩ := RuleIn.isRef hp'q; subst eg'q)); (try k_fold))) | fail)) | fail); (all_goals k_steps)) | ((fail_if_success (with_reducible refine Halt.go ?_)); (first | ((with_reducible show wpAny _ _ (call _ _) _ _ _); (k_here; k_dflt (refine' tup_index_c ?Nv30 ?mv30 ?hv30 ?vv30 ?_; (case Nv30 => k_asm); (case mv30 => k_mem); (case hv30 => assumption); (case vv30 => exact rfl)))) | fail); (all_goals k_steps))))
    all_goals first | exact none | skip
    exact node_fin ret (by k_asm) (by k_asm) (by assumption) (fun _ h => .tail _ h) (And.intro rfl (nodeAt e (And.intro ok1 (by assumption))))
  · have e := so_p (by assumption)
    refine Exists.elim ((wid e W : ∃ t, wv = .int 0 t)) fun tw ew => ?_
    have ed : dv = .none := glv e G
    subst ew ed
    (k_steps; repeat' (first | ((with_reducible refine Halt.go ?_); (first | (k_here; (with_reducible show wpAny _ _ (getMethod (Value.ref _) (Str.ofString "index") _) _ _ _); k_dflt (refine' tup_index_m ?Nv29 ?mv29 ?_; (case Nv29 => k_asm); (case mv29 => k_mem))) | ((with_reducible show wpAny _ _ (call _ _) _ _ _); (first | (k_here; k_dflt ((first | refine' CallsTo.use0e (char_makes _ _ _ _ ?p1v31 ?p2v31 _) ?k1v31 ?k2v31 ?k3v31 ?k4v31 ?k5v31 ?kHv31 ?kAv31 ?kFv31 ?kKv31 ?kdv31 ?kuv31 ?_ | refine' CallsTo.use0e (kern_makes _ _ _ _ ?p1v31 ?p2v31 _) ?k1v31 ?k2v31 ?k3v31 ?k4v31 ?k5v31 ?kHv31 ?kAv31 ?kFv31 ?kKv31 ?kdv31 ?kuv31 ?_ | refine' CallsTo.use0e (edge_makes _ _ _ ?p1v31 ?p2v31 _) ?k1v31 ?k2v31 ?k3v31 ?k4v31 ?k5v31 ?kHv31 ?kAv31 ?kFv31 ?kKv31 ?kdv31 ?kuv31 ?_ | refine' CallsTo.use0e (penalty_makes _ _ _) ?k1v31 ?k2v31 ?k3v31 ?k4v31 ?k5v31 ?kHv31 ?kAv31 ?kFv31 ?kKv31 ?kdv31 ?kuv31 ?_ | refine' CallsTo.use0e (glue_u ?p1v31 ?p2v31 ?p3v31 ?p4v31 ?p5v31) ?k1v31 ?k2v31 ?k3v31 ?k4v31 ?k5v31 ?kHv31 ?kAv31 ?kFv31 ?kKv31 ?kdv31 ?kuv31 ?_ | refine' CallsTo.use0e (rule_n) ?k1v31 ?k2v31 ?k3v31 ?k4v31 ?k5v31 ?kHv31 ?kAv31 ?kFv31 ?kKv31 ?kdv31 ?kuv31 ?_ | refine' CallsTo.use0e (rule_s ?p1v31 ?p2v31) ?k1v31 ?k2v31 ?k3v31 ?k4v31 ?k5v31 ?kHv31 ?kAv31 ?kFv31 ?kKv31 ?kdv31 ?kuv31 ?_ | refine' CallsTo.use0e (rule_l) ?k1v31 ?k2v31 ?k3v31 ?k4v31 ?k5v31 ?kHv31 ?kAv31 ?kFv31 ?kKv31 ?kdv31 ?kuv31 ?_ | refine' CallsTo.use0e (box_u ?p1v31 ?p2v31) ?k1v31 ?k2v31 ?k3v31 ?k4v31 ?k5v31 ?kHv31 ?kAv31 ?kFv31 ?kKv31 ?kdv31 ?kuv31 ?_ | refine' CallsTo.use0e (mark_u) ?k1v31 ?k2v31 ?k3v31 ?k4v31 ?k5v31 ?kHv31 ?kAv31 ?kFv31 ?kKv31 ?kdv31 ?kuv31 ?_ | refine' CallsTo.use0e (lig_u ?p1v31 ?p2v31 ?q1v31) ?k1v31 ?k2v31 ?k3v31 ?k4v31 ?k5v31 ?kHv31 ?kAv31 ?kFv31 ?kKv31 ?kdv31 ?kuv31 ?_ | refine' CallsTo.use0e (skip_plain _ _ _ _) ?k1v31 ?k2v31 ?k3v31 ?k4v31 ?k5v31 ?kHv31 ?kAv31 ?kFv31 ?kKv31 ?kdv31 ?kuv31 ?_ | refine' CallsTo.use0e (skip_u ?q2v31) ?k1v31 ?k2v31 ?k3v31 ?k4v31 ?k5v31 ?kHv31 ?kAv31 ?kFv31 ?kKv31 ?kdv31 ?kuv31 ?_); (case k1v31 => k_asm); (case k2v31 => k_asm); (case k3v31 => k_asm); (case k4v31 => k_asm); (case k5v31 => k_asm); (case kHv31 => exact rfl); (case kAv31 => exact rfl); (case kFv31 => first | assumption | exact rfl); (case kKv31 => first | assumption | exact rfl); (case kdv31 => (walk_at "my room")); (case kuv31 => (walk_at "my room")); (try (case p1v31 => omega)); (try (case p2v31 => omega)); (try (case p3v31 => omega)); (try (case p4v31 => omega)); (try (case p5v31 => omega)); (try (case q1v31 => k_mem)); (try (case q2v31 => exact RuleIn.mono (fun _ h => List.mem_append_left _ h) (by assumption))); k_whole; (intro r'q h'q tk'q tl'q F'q N'q lt'q hp'q); (try simp only [List.cons_append, List.nil_append] at N'q); (try (obtain ⟨g'q, eg'q⟩ := GlueIn.isRef hp'q; subst eg'q)); (try (obtain ⟨g'q, eg'q⟩ := RuleIn.isRef hp'q; subst eg'q)); (try k_fold))) | fail)) | fail); (all_goals k_steps)) | ((fail_if_success (with_reducible refine Halt.go ?_)); (first | ((with_reducible show wpAny _ _ (call _ _) _ _ _); (k_here; k_dflt (refine' tup_index_c ?Nv30 ?mv30 ?hv30 ?vv30 ?_; (case Nv30 => k_asm); (case mv30 => k_mem); (case hv30 => assumption); (case vv30 => exact rfl)))) | fail); (all_goals k_steps))))
    all_goals first | exact none | skip
    exact node_fin ret (by k_asm) (by k_asm) (by assumption) (fun _ h => .tail _ h) (And.intro rfl (nodeAt e (by assumption)))
  · have e := so_m (by assumption) (by assumption) (by assumption) (by assumption) (by assumption) (by assumption) (by assumption) (by assumption)
    refine Exists.elim ((wid e W : ∃ t, wv = .int 0 t)) fun tw ew => ?_
    have ed : dv = .none := glv e G
    subst ew ed
    (k_steps; repeat' (first | ((with_reducible refine Halt.go ?_); (first | (k_here; (with_reducible show wpAny _ _ (getMethod (Value.ref _) (Str.ofString "index") _) _ _ _); k_dflt (refine' tup_index_m ?Nv29 ?mv29 ?_; (case Nv29 => k_asm); (case mv29 => k_mem))) | ((with_reducible show wpAny _ _ (call _ _) _ _ _); (first | (k_here; k_dflt ((first | refine' CallsTo.use0e (char_makes _ _ _ _ ?p1v31 ?p2v31 _) ?k1v31 ?k2v31 ?k3v31 ?k4v31 ?k5v31 ?kHv31 ?kAv31 ?kFv31 ?kKv31 ?kdv31 ?kuv31 ?_ | refine' CallsTo.use0e (kern_makes _ _ _ _ ?p1v31 ?p2v31 _) ?k1v31 ?k2v31 ?k3v31 ?k4v31 ?k5v31 ?kHv31 ?kAv31 ?kFv31 ?kKv31 ?kdv31 ?kuv31 ?_ | refine' CallsTo.use0e (edge_makes _ _ _ ?p1v31 ?p2v31 _) ?k1v31 ?k2v31 ?k3v31 ?k4v31 ?k5v31 ?kHv31 ?kAv31 ?kFv31 ?kKv31 ?kdv31 ?kuv31 ?_ | refine' CallsTo.use0e (penalty_makes _ _ _) ?k1v31 ?k2v31 ?k3v31 ?k4v31 ?k5v31 ?kHv31 ?kAv31 ?kFv31 ?kKv31 ?kdv31 ?kuv31 ?_ | refine' CallsTo.use0e (glue_u ?p1v31 ?p2v31 ?p3v31 ?p4v31 ?p5v31) ?k1v31 ?k2v31 ?k3v31 ?k4v31 ?k5v31 ?kHv31 ?kAv31 ?kFv31 ?kKv31 ?kdv31 ?kuv31 ?_ | refine' CallsTo.use0e (rule_n) ?k1v31 ?k2v31 ?k3v31 ?k4v31 ?k5v31 ?kHv31 ?kAv31 ?kFv31 ?kKv31 ?kdv31 ?kuv31 ?_ | refine' CallsTo.use0e (rule_s ?p1v31 ?p2v31) ?k1v31 ?k2v31 ?k3v31 ?k4v31 ?k5v31 ?kHv31 ?kAv31 ?kFv31 ?kKv31 ?kdv31 ?kuv31 ?_ | refine' CallsTo.use0e (rule_l) ?k1v31 ?k2v31 ?k3v31 ?k4v31 ?k5v31 ?kHv31 ?kAv31 ?kFv31 ?kKv31 ?kdv31 ?kuv31 ?_ | refine' CallsTo.use0e (box_u ?p1v31 ?p2v31) ?k1v31 ?k2v31 ?k3v31 ?k4v31 ?k5v31 ?kHv31 ?kAv31 ?kFv31 ?kKv31 ?kdv31 ?kuv31 ?_ | refine' CallsTo.use0e (mark_u) ?k1v31 ?k2v31 ?k3v31 ?k4v31 ?k5v31 ?kHv31 ?kAv31 ?kFv31 ?kKv31 ?kdv31 ?kuv31 ?_ | refine' CallsTo.use0e (lig_u ?p1v31 ?p2v31 ?q1v31) ?k1v31 ?k2v31 ?k3v31 ?k4v31 ?k5v31 ?kHv31 ?kAv31 ?kFv31 ?kKv31 ?kdv31 ?kuv31 ?_ | refine' CallsTo.use0e (skip_plain _ _ _ _) ?k1v31 ?k2v31 ?k3v31 ?k4v31 ?k5v31 ?kHv31 ?kAv31 ?kFv31 ?kKv31 ?kdv31 ?kuv31 ?_ | refine' CallsTo.use0e (skip_u ?q2v31) ?k1v31 ?k2v31 ?k3v31 ?k4v31 ?k5v31 ?kHv31 ?kAv31 ?kFv31 ?kKv31 ?kdv31 ?kuv31 ?_); (case k1v31 => k_asm); (case k2v31 => k_asm); (case k3v31 => k_asm); (case k4v31 => k_asm); (case k5v31 => k_asm); (case kHv31 => exact rfl); (case kAv31 => exact rfl); (case kFv31 => first | assumption | exact rfl); (case kKv31 => first | assumption | exact rfl); (case kdv31 => (walk_at "my room")); (case kuv31 => (walk_at "my room")); (try (case p1v31 => omega)); (try (case p2v31 => omega)); (try (case p3v31 => omega)); (try (case p4v31 => omega)); (try (case p5v31 => omega)); (try (case q1v31 => k_mem)); (try (case q2v31 => exact RuleIn.mono (fun _ h => List.mem_append_left _ h) (by assumption))); k_whole; (intro r'q h'q tk'q tl'q F'q N'q lt'q hp'q); (try simp only [List.cons_append, List.nil_append] at N'q); (try (obtain ⟨g'q, eg'q⟩ := GlueIn.isRef hp'q; subst eg'q)); (try (obtain ⟨g'q, eg'q⟩ := RuleIn.isRef hp'q; subst eg'q)); (try k_fold))) | fail)) | fail); (all_goals k_steps)) | ((fail_if_success (with_reducible refine Halt.go ?_)); (first | ((with_reducible show wpAny _ _ (call _ _) _ _ _); (k_here; k_dflt (refine' tup_index_c ?Nv30 ?mv30 ?hv30 ?vv30 ?_; (case Nv30 => k_asm); (case mv30 => k_mem); (case hv30 => assumption); (case vv30 => exact rfl)))) | fail); (all_goals k_steps))))
    all_goals first | exact none | skip
    exact node_fin_m ret (by k_asm) (by k_asm) (by assumption) (off1_lt (by assumption : _ ∧ _ ∧ AllLt _ fr).2.2) (off1_lt (by assumption : _ ∧ AllLt _ fr).2) (And.intro rfl (nodeAt e ⟨_, _, _, _, _, _, Inst.mono (fun _ h => List.mem_append_left _ h) (by assumption), List.mem_append_right _ (.head _), List.mem_append_right _ (.tail _ (.head _))⟩))
  · exact (so_no (by assumption) (so_m (by assumption) (by assumption) (by assumption) (by assumption) (by assumption) (by assumption) (by assumption) (by assumption))).elim
end
end
section
section
variable {P : Params} {font : Addr} {h₀ h' : Heap} {L : Addr} {m : Str → Option Value} {fr tl tl9 tlc : Led} {gs0 : Array GenState} {dr0 : Drawn} {os0 : OsState} {Q : Value → Shared → Prop} {r cv : Value} {tk' kd k1 k2 : Nat} {c : Addr × Obj} {Dm l1 l2 : Addr} {ys : List Value} {xs : List Flat}
theorem disc_fin (ret : Ret h₀ L m fr (fun r mu' tl => mu' = [] ∧ TopIn P font tl r (.c xs)) gs0 dr0 os0 Q) (F : Fr h₀ L h' m) (N : News h₀ L h' (tl9 ++ ((Dm, listOf ys.toArray kd) :: (tl ++ ((l2, listOf ([] : List Value).toArray k2) :: (l1, listOf [cv].toArray k1) :: (tlc ++ (c :: fr)))))))
    (lt9 : ∀ q ∈ tl9, LCg.Off1 q.1 ((Dm, listOf ys.toArray kd) :: (tl ++ ((l2, listOf ([] : List Value).toArray k2) :: (l1, listOf [cv].toArray k1) :: (tlc ++ (c :: fr)))))) (om : LCg.Off1 Dm (tl ++ ((l2, listOf ([] : List Value).toArray k2) :: (l1, listOf [cv].toArray k1) :: (tlc ++ (c :: fr)))))
    (lt : ∀ q ∈ tl, LCg.Off1 q.1 ((l2, listOf ([] : List Value).toArray k2) :: (l1, listOf [cv].toArray k1) :: (tlc ++ (c :: fr)))) (o2 : LCg.Off1 l2 (tlc ++ (c :: fr))) (o1 : LCg.Off1 l1 (tlc ++ (c :: fr))) (ltc : ∀ q ∈ tlc, LCg.Off1 q.1 (c :: fr)) (sh : ∀ x ∈ xs, x.short = true) (sz : xs.length ≤ 2)
    (hp9 : Inst P tl9 431 [("pre", .ref l1), ("post", .ref l2), ("middle", .ref Dm)] r) (hc : CharIn P tlc font 65 cv) (hx : All2 (NodeIn P font tl) ys xs) : Q r { heap := h', gens := gs0, drawn := dr0, toks := tk', os := os0 } := by
  have e : tl9 ++ ((Dm, listOf ys.toArray kd) :: (tl ++ ((l2, listOf ([] : List Value).toArray k2) :: (l1, listOf [cv].toArray k1) :: (tlc ++ (c :: fr))))) = (tl9 ++ ((Dm, listOf ys.toArray kd) :: (tl ++ ((l2, listOf ([] : List Value).toArray k2) :: (l1, listOf [cv].toArray k1) :: tlc)))) ++ (c :: fr) := by
    simp only [List.append_assoc, List.cons_append]
  rw [e] at N
  have up : ∀ {x : Addr} {y z : Led}, LCg.Off1 x (y ++ z) → LCg.Off1 x z := fun h => off1_sub h fun p hp => List.mem_append_right _ hp
  refine node_fin ret F N (lt_app (fun q hq => off1_sub (lt9 q hq) fun p hp => ?_) (List.forall_mem_cons.mpr ⟨off1_sub om fun p hp => ?_, lt_app (fun q hq => off1_sub (lt q hq) fun p hp => ?_) (List.forall_mem_cons.mpr ⟨up o2, List.forall_mem_cons.mpr ⟨up o1, ltc⟩⟩)⟩)) (fun _ h => .tail _ h) (And.intro rfl ⟨sh, sz, l1, k1, l2, k2, Dm, kd, cv, ys, hp9.mono fun p hp => List.mem_append_left _ hp, ?_, ?_, ?_, ?_, hx.mono fun _ _ => NodeIn.mono fun p hp => ?_⟩)
  · simpa only [List.append_assoc, List.cons_append] using hp
  · simp only [List.mem_append, List.mem_cons] at hp ⊢
    simp [hp]
  · simpa only [List.append_assoc, List.cons_append] using hp
  · simp
  · simp
  · simp
  · obtain ⟨t, hi⟩ := hc
    exact ⟨t, hi.mono fun p hp => by simp [hp]⟩
  · simp [hp]
end
section
local macro_rules | `(tactic| walk_at "call ref") => `(tactic| refine halt_of ?_)
local macro_rules | `(tactic| walk_at "eval ListComp") => `(tactic| refine halt_of ?_)
local macro_rules | `(tactic| walk_at "CompSrc") => `(tactic| refine halt_of ?_)
local macro_rules | `(tactic| walk_at "-") => `(tactic| fail)
set_option maxHeartbeats 8000000 in
theorem node_disc (w : World) (xs : List Flat) (v : Value) (font : Addr) (fr : Led) (hx : PartIn fr v (.c xs)) : CallsTo w 743 [v, .ref font] [] fr 16 320 (fun r mu' tl => mu' = [] ∧ TopIn w.params font tl r (.c xs)) := by
  obtain ⟨sh, hs, a, la, n, k, t0, t1, vs, rfl, m1, m2, hv⟩ := hx
  have hvs : vs.length ≤ 10 := by rw [hv.length]; omega
  intro prog p loose mean mg mb A env outer A₀ base h₀ L m s Q E B F X N T hh hA hf hk hd hu ret; obtain ⟨hd0, dp, frm, gd, un⟩ := A; obtain ⟨hp0, gs0, dr0, tk0, os0⟩ := s; dsimp only at hh hA hd hu F N ret; subst hh hA; have hSt := StK.mk gs0 dr0 os0; (try simp only [List.cons_append, List.nil_append] at N)
  refine wpAny_call ?_; k_dflt (refine' code_defC (binds := [(Str.ofString "part", .ref a), (Str.ofString "font", .ref font)]) ?k1 ?k2 ?k3 ?k4 ?k5 ?kA ?kF ?kK ?k6 ?k7 ?k8 ?k9 ?kB ?kD ?_ ?c2 ?c3 ?c4; (case kA => exact rfl); (case kF => first | assumption | exact rfl); (case kK => first | assumption | exact rfl); (case k1 => k_asm); (case k2 => k_asm); (case k3 => k_asm); (case k4 => k_asm); (case k5 => k_asm); (case k6 => k_is); (case k7 => k_is); (case k8 => (walk_at "my room")); (case k9 => first | exact BindsTo.of_eq rfl | exact binds_K (by k_in) rfl (by k_is) rfl rfl rfl); (case kB => exact rfl); (case kD => decide +kernel); (case c2 => exact rfl); (case c3 => exact rfl); (case c4 => exact rfl); k_whole; intro g' L' h' tk' cells' FG' F' N' Y' B' X' T' l1; (try k_lt l1); k_cells Y'; (try simp only [List.cons_append, List.nil_append] at N'); (try dsimp only); (try k_fold))
  (k_steps; repeat' (first | ((with_reducible refine Halt.go ?_); (first | (k_here; k_dflt (refine src_list (by rfl) (by k_asm) (by k_asm) (by repeat (first | assumption | refine List.mem_append_right _ ?_ | refine List.Mem.tail _ ?_)) (by rw [PySem.sizeLine_eq]; simp only [List.size_toArray]; omega) ?_)) | (k_here; (with_reducible show wpAny _ _ (eval (Expr.ListComp _ [⟨_, _, [], _⟩] _ _) _) _ _ _); k_dflt (refine LCg.ListComp_U (F₀ := by k_asm) (by with_unfolding_all rfl) (by decide) (by rfl) (by decide) (by rfl) ?_)) | ((with_reducible show wpAny _ _ (call _ _) _ _ _); (first | (k_here; k_dflt ((first | refine' CallsTo.use0e (char_makes _ _ _ _ ?p1v32 ?p2v32 _) ?k1v32 ?k2v32 ?k3v32 ?k4v32 ?k5v32 ?kHv32 ?kAv32 ?kFv32 ?kKv32 ?kdv32 ?kuv32 ?_ | refine' CallsTo.use0e (kern_makes _ _ _ _ ?p1v32 ?p2v32 _) ?k1v32 ?k2v32 ?k3v32 ?k4v32 ?k5v32 ?kHv32 ?kAv32 ?kFv32 ?kKv32 ?kdv32 ?kuv32 ?_ | refine' CallsTo.use0e (edge_makes _ _ _ ?p1v32 ?p2v32 _) ?k1v32 ?k2v32 ?k3v32 ?k4v32 ?k5v32 ?kHv32 ?kAv32 ?kFv32 ?kKv32 ?kdv32 ?kuv32 ?_ | refine' CallsTo.use0e (penalty_makes _ _ _) ?k1v32 ?k2v32 ?k3v32 ?k4v32 ?k5v32 ?kHv32 ?kAv32 ?kFv32 ?kKv32 ?kdv32 ?kuv32 ?_ | refine' CallsTo.use0e (glue_u ?p1v32 ?p2v32 ?p3v32 ?p4v32 ?p5v32) ?k1v32 ?k2v32 ?k3v32 ?k4v32 ?k5v32 ?kHv32 ?kAv32 ?kFv32 ?kKv32 ?kdv32 ?kuv32 ?_ | refine' CallsTo.use0e (rule_n) ?k1v32 ?k2v32 ?k3v32 ?k4v32 ?k5v32 ?kHv32 ?kAv32 ?kFv32 ?kKv32 ?kdv32 ?kuv32 ?_ | refine' CallsTo.use0e (rule_s ?p1v32 ?p2v32) ?k1v32 ?k2v32 ?k3v32 ?k4v32 ?k5v32 ?kHv32 ?kAv32 ?kFv32 ?kKv32 ?kdv32 ?kuv32 ?_ | refine' CallsTo.use0e (rule_l) ?k1v32 ?k2v32 ?k3v32 ?k4v32 ?k5v32 ?kHv32 ?kAv32 ?kFv32 ?kKv32 ?kdv32 ?kuv32 ?_ | refine' CallsTo.use0e (box_u ?p1v32 ?p2v32) ?k1v32 ?k2v32 ?k3v32 ?k4v32 ?k5v32 ?kHv32 ?kAv32 ?kFv32 ?kKv32 ?kdv32 ?kuv32 ?_ | refine' CallsTo.use0e (mark_u) ?k1v32 ?k2v32 ?k3v32 ?k4v32 ?k5v32 ?kHv32 ?kAv32 ?kFv32 ?kKv32 ?kdv32 ?kuv32 ?_ | refine' CallsTo.use0e (lig_u ?p1v32 ?p2v32 ?q1v32) ?k1v32 ?k2v32 ?k3v32 ?k4v32 ?k5v32 ?kHv32 ?kAv32 ?kFv32 ?kKv32 ?kdv32 ?kuv32 ?_ | refine' CallsTo.use0e (skip_plain _ _ _ _) ?k1v32 ?k2v32 ?k3v32 ?k4v32 ?k5v32 ?kHv32 ?kAv32 ?kFv32 ?kKv32 ?kdv32 ?kuv32 ?_ | refine' CallsTo.use0e (skip_u ?q2v32) ?k1v32 ?k2v32 ?k3v32 ?k4v32 ?k5v32 ?kHv32 ?kAv32 ?kFv32 ?kKv32 ?kdv32 ?kuv32 ?_); (case k1v32 => k_asm); (case k2v32 => k_asm); (case k3v32 => k_asm); (case k4v32 => k_asm); (case k5v32 => k_asm); (case kHv32 => exact rfl); (case kAv32 => exact rfl); (case kFv32 => first | assumption | exact rfl); (case kKv32 => first | assumption | exact rfl); (case kdv32 => (walk_at "my room")); (case kuv32 => (walk_at "my room")); (try (case p1v32 => omega)); (try (case p2v32 => omega)); (try (case p3v32 => omega)); (try (case p4v32 => omega)); (try (case p5v32 => omega)); (try (case q1v32 => k_mem)); (try (case q2v32 => exact RuleIn.mono (fun _ h => List.mem_append_left _ h) (by assumption))); k_whole; (intro r'q h'q tk'q tl'q F'q N'q lt'q hp'q); (try simp only [List.cons_append, List.nil_append] at N'q); (try (obtain ⟨g'q, eg'q⟩ := GlueIn.isRef hp'q; subst eg'q)); (try (obtain ⟨g'q, eg'q⟩ := RuleIn.isRef hp'q; subst eg'q)); (try k_fold))) | fail)) | fail); (all_goals k_steps)) | ((fail_if_success (with_reducible refine Halt.go ?_)); (first | (k_here; (with_reducible show wpAny _ _ (eval (Expr.Name _ _) (compEnvC _ _ _ _)) _ _ _); k_dflt (refine' lcf_free ?Nv35 ?cv35 ?mv35 ?dv35 ?_ ?av35 ?bv35; (case av35 => rfl); (case bv35 => rfl); (case Nv35 => k_asm); (case cv35 => rfl); (case mv35 => assumption); (case dv35 => assumption); k_whole)) | fail); (all_goals k_steps))))
  all_goals first | exact none | skip
  have ltc := idLt (by assumption)
  rename _ < _ ∧ AllLt _ _ => l1b
  have l1a := idL1 (by assumption)
  rename CharIn _ _ _ _ _ => hc
  have hdat : _ = Data.cell (some (.ref font)) := (by assumption : (_ : Obj).data = Data.cell (bindC _ _ _ _))
  refine Halt.go (fun gz => ?_)
  refine comp_grow (R := NodeIn w.params font) NodeIn.mono (src := xs) (by rw [← hv.length]; (try simp)) (fun tl => Or.inr ⟨_, List.mem_append_right _ (.tail _ (.tail _ (List.mem_append_right _ (.tail _ m2)))), rfl, _, rfl⟩) ?turn ?fin
  case turn =>
    intro i v x ys I oI C oC D m₂ h tk E' fr2 hb hvi hC hx F2 sub2 N2 off3 ne3
    have hcell : (L' + 1, _) ∈ (I, oI) :: (C, oC) :: (D, LCg.lst ys) :: fr2 := .tail _ (.tail _ (.tail _ (sub2 (L' + 1, _) (.tail _ (.tail _ (List.mem_append_right _ (.head _)))))))
    obtain ⟨x2, hx2, hfl⟩ := hv.get (by simpa using hvi)
    obtain rfl : x2 = x := Option.some.inj (hx2.symm.trans hb)
    have hfl2 : FlatIn ((I, oI) :: (C, oC) :: (D, LCg.lst ys) :: fr2) v x2 := hfl.mono fun p hp => .tail _ (.tail _ (.tail _ (sub2 p (.tail _ (.tail _ (List.mem_append_right _ (.tail _ hp)))))))
    clear sub2
    (k_steps; repeat' (first | ((with_reducible refine Halt.go ?_); (first | (k_here; k_dflt (refine src_list (by rfl) (by k_asm) (by k_asm) (by repeat (first | assumption | refine List.mem_append_right _ ?_ | refine List.Mem.tail _ ?_)) (by rw [PySem.sizeLine_eq]; simp only [List.size_toArray]; omega) ?_)) | (k_here; (with_reducible show wpAny _ _ (eval (Expr.ListComp _ [⟨_, _, [], _⟩] _ _) _) _ _ _); k_dflt (refine LCg.ListComp_U (F₀ := by k_asm) (by with_unfolding_all rfl) (by decide) (by rfl) (by decide) (by rfl) ?_)) | ((with_reducible show wpAny _ _ (call _ _) _ _ _); (first | (k_here; k_dflt ((first | refine' CallsTo.use0e (char_makes _ _ _ _ ?p1v32 ?p2v32 _) ?k1v32 ?k2v32 ?k3v32 ?k4v32 ?k5v32 ?kHv32 ?kAv32 ?kFv32 ?kKv32 ?kdv32 ?kuv32 ?_ | refine' CallsTo.use0e (kern_makes _ _ _ _ ?p1v32 ?p2v32 _) ?k1v32 ?k2v32 ?k3v32 ?k4v32 ?k5v32 ?kHv32 ?kAv32 ?kFv32 ?kKv32 ?kdv32 ?kuv32 ?_ | refine' CallsTo.use0e (edge_makes _ _ _ ?p1v32 ?p2v32 _) ?k1v32 ?k2v32 ?k3v32 ?k4v32 ?k5v32 ?kHv32 ?kAv32 ?kFv32 ?kKv32 ?kdv32 ?kuv32 ?_ | refine' CallsTo.use0e (penalty_makes _ _ _) ?k1v32 ?k2v32 ?k3v32 ?k4v32 ?k5v32 ?kHv32 ?kAv32 ?kFv32 ?kKv32 ?kdv32 ?kuv32 ?_ | refine' CallsTo.use0e (glue_u ?p1v32 ?p2v32 ?p3v32 ?p4v32 ?p5v32) ?k1v32 ?k2v32 ?k3v32 ?k4v32 ?k5v32 ?kHv32 ?kAv32 ?kFv32 ?kKv32 ?kdv32 ?kuv32 ?_ | refine' CallsTo.use0e (rule_n) ?k1v32 ?k2v32 ?k3v32 ?k4v32 ?k5v32 ?kHv32 ?kAv32 ?kFv32 ?kKv32 ?kdv32 ?kuv32 ?_ | refine' CallsTo.use0e (rule_s ?p1v32 ?p2v32) ?k1v32 ?k2v32 ?k3v32 ?k4v32 ?k5v32 ?kHv32 ?kAv32 ?kFv32 ?kKv32 ?kdv32 ?kuv32 ?_ | refine' CallsTo.use0e (rule_l) ?k1v32 ?k2v32 ?k3v32 ?k4v32 ?k5v32 ?kHv32 ?kAv32 ?kFv32 ?kKv32 ?kdv32 ?kuv32 ?_ | refine' CallsTo.use0e (box_u ?p1v32 ?p2v32) ?k1v32 ?k2v32 ?k3v32 ?k4v32 ?k5v32 ?kHv32 ?kAv32 ?kFv32 ?kKv32 ?kdv32 ?kuv32 ?_ | refine' CallsTo.use0e (mark_u) ?k1v32 ?k2v32 ?k3v32 ?k4v32 ?k5v32 ?kHv32 ?kAv32 ?kFv32 ?kKv32 ?kdv32 ?kuv32 ?_ | refine' CallsTo.use0e (lig_u ?p1v32 ?p2v32 ?q1v32) ?k1v32 ?k2v32 ?k3v32 ?k4v32 ?k5v32 ?kHv32 ?kAv32 ?kFv32 ?kKv32 ?kdv32 ?kuv32 ?_ | refine' CallsTo.use0e (skip_plain _ _ _ _) ?k1v32 ?k2v32 ?k3v32 ?k4v32 ?k5v32 ?kHv32 ?kAv32 ?kFv32 ?kKv32 ?kdv32 ?kuv32 ?_ | refine' CallsTo.use0e (skip_u ?q2v32) ?k1v32 ?k2v32 ?k3v32 ?k4v32 ?k5v32 ?kHv32 ?kAv32 ?kFv32 ?kKv32 ?kdv32 ?kuv32 ?_); (case k1v32 => k_asm); (case k2v32 => k_asm); (case k3v32 => k_asm); (case k4v32 => k_asm); (case k5v32 => k_asm); (case kHv32 => exact rfl); (case kAv32 => exact rfl); (case kFv32 => first | assumption | exact rfl); (case kKv32 => first | assumption | exact rfl); (case kdv32 => (walk_at "my room")); (case kuv32 => (walk_at "my room")); (try (case p1v32 => omega)); (try (case p2v32 => omega)); (try (case p3v32 => omega)); (try (case p4v32 => omega)); (try (case p5v32 => omega)); (try (case q1v32 => k_mem)); (try (case q2v32 => exact RuleIn.mono (fun _ h => List.mem_append_left _ h) (by assumption))); k_whole; (intro r'q h'q tk'q tl'q F'q N'q lt'q hp'q); (try simp only [List.cons_append, List.nil_append] at N'q); (try (obtain ⟨g'q, eg'q⟩ := GlueIn.isRef hp'q; subst eg'q)); (try (obtain ⟨g'q, eg'q⟩ := RuleIn.isRef hp'q; subst eg'q)); (try k_fold))) | fail)) | fail); (all_goals k_steps)) | ((fail_if_success (with_reducible refine Halt.go ?_)); (first | (k_here; (with_reducible show wpAny _ _ (eval (Expr.Name _ _) (compEnvC _ _ _ _)) _ _ _); k_dflt (refine' lcf_free ?Nv35 ?cv35 ?mv35 ?dv35 ?_ ?av35 ?bv35; (case av35 => rfl); (case bv35 => rfl); (case Nv35 => k_asm); (case cv35 => rfl); (case mv35 => assumption); (case dv35 => assumption); k_whole)) | fail); (all_goals k_steps))))
    refine CallsTo.use0e (node_flat w x2 v font _ hfl2) (by k_asm) (by k_asm) (by k_asm) (by k_asm) (by k_asm) (by exact rfl) (by exact rfl) (by first | assumption | exact rfl) (by first | assumption | exact rfl) (by (walk_at "my room")) (by (walk_at "my room")) ?_
    intro r' h' tk' tl' F' N' lt' hp'
    exact GrowTurn.mk F' N' lt' hp'
  case fin =>
    intro ys tl hx lt
    unfold LCg.FinE
    intro Dm hm tkm Fm Nm om
    (try dsimp only)
    (k_steps; repeat' (first | ((with_reducible refine Halt.go ?_); (first | (k_here; k_dflt (refine src_list (by rfl) (by k_asm) (by k_asm) (by repeat (first | assumption | refine List.mem_append_right _ ?_ | refine List.Mem.tail _ ?_)) (by rw [PySem.sizeLine_eq]; simp only [List.size_toArray]; omega) ?_)) | (k_here; (with_reducible show wpAny _ _ (eval (Expr.ListComp _ [⟨_, _, [], _⟩] _ _) _) _ _ _); k_dflt (refine LCg.ListComp_U (F₀ := by k_asm) (by with_unfolding_all rfl) (by decide) (by rfl) (by decide) (by rfl) ?_)) | ((with_reducible show wpAny _ _ (call _ _) _ _ _); (first | (k_here; k_dflt ((first | refine' CallsTo.use0e (char_makes _ _ _ _ ?p1v32 ?p2v32 _) ?k1v32 ?k2v32 ?k3v32 ?k4v32 ?k5v32 ?kHv32 ?kAv32 ?kFv32 ?kKv32 ?kdv32 ?kuv32 ?_ | refine' CallsTo.use0e (kern_makes _ _ _ _ ?p1v32 ?p2v32 _) ?k1v32 ?k2v32 ?k3v32 ?k4v32 ?k5v32 ?kHv32 ?kAv32 ?kFv32 ?kKv32 ?kdv32 ?kuv32 ?_ | refine' CallsTo.use0e (edge_makes _ _ _ ?p1v32 ?p2v32 _) ?k1v32 ?k2v32 ?k3v32 ?k4v32 ?k5v32 ?kHv32 ?kAv32 ?kFv32 ?kKv32 ?kdv32 ?kuv32 ?_ | refine' CallsTo.use0e (penalty_makes _ _ _) ?k1v32 ?k2v32 ?k3v32 ?k4v32 ?k5v32 ?kHv32 ?kAv32 ?kFv32 ?kKv32 ?kdv32 ?kuv32 ?_ | refine' CallsTo.use0e (glue_u ?p1v32 ?p2v32 ?p3v32 ?p4v32 ?p5v32) ?k1v32 ?k2v32 ?k3v32 ?k4v32 ?k5v32 ?kHv32 ?kAv32 ?kFv32 ?kKv32 ?kdv32 ?kuv32 ?_ | refine' CallsTo.use0e (rule_n) ?k1v32 ?k2v32 ?k3v32 ?k4v32 ?k5v32 ?kHv32 ?kAv32 ?kFv32 ?kKv32 ?kdv32 ?kuv32 ?_ | refine' CallsTo.use0e (rule_s ?p1v32 ?p2v32) ?k1v32 ?k2v32 ?k3v32 ?k4v32 ?k5v32 ?kHv32 ?kAv32 ?kFv32 ?kKv32 ?kdv32 ?kuv32 ?_ | refine' CallsTo.use0e (rule_l) ?k1v32 ?k2v32 ?k3v32 ?k4v32 ?k5v32 ?kHv32 ?kAv32 ?kFv32 ?kKv32 ?kdv32 ?kuv32 ?_ | refine' CallsTo.use0e (box_u ?p1v32 ?p2v32) ?k1v32 ?k2v32 ?k3v32 ?k4v32 ?k5v32 ?kHv32 ?kAv32 ?kFv32 ?kKv32 ?kdv32 ?kuv32 ?_ | refine' CallsTo.use0e (mark_u) ?k1v32 ?k2v32 ?k3v32 ?k4v32 ?k5v32 ?kHv32 ?kAv32 ?kFv32 ?kKv32 ?kdv32 ?kuv32 ?_ | refine' CallsTo.use0e (lig_u ?p1v32 ?p2v32 ?q1v32) ?k1v32 ?k2v32 ?k3v32 ?k4v32 ?k5v32 ?kHv32 ?kAv32 ?kFv32 ?kKv32 ?kdv32 ?kuv32 ?_ | refine' CallsTo.use0e (skip_plain _ _ _ _) ?k1v32 ?k2v32 ?k3v32 ?k4v32 ?k5v32 ?kHv32 ?kAv32 ?kFv32 ?kKv32 ?kdv32 ?kuv32 ?_ | refine' CallsTo.use0e (skip_u ?q2v32) ?k1v32 ?k2v32 ?k3v32 ?k4v32 ?k5v32 ?kHv32 ?kAv32 ?kFv32 ?kKv32 ?kdv32 ?kuv32 ?_); (case k1v32 => k_asm); (case k2v32 => k_asm); (case k3v32 => k_asm); (case k4v32 => k_asm); (case k5v32 => k_asm); (case kHv32 => exact rfl); (case kAv32 => exact rfl); (case kFv32 => first | assumption | exact rfl); (case kKv32 => first | assumption | exact rfl); (case kdv32 => (walk_at "my room")); (case kuv32 => (walk_at "my room")); (try (case p1v32 => omega)); (try (case p2v32 => omega)); (try (case p3v32 => omega)); (try (case p4v32 => omega)); (try (case p5v32 => omega)); (try (case q1v32 => k_mem)); (try (case q2v32 => exact RuleIn.mono (fun _ h => List.mem_append_left _ h) (by assumption))); k_whole; (intro r'q h'q tk'q tl'q F'q N'q lt'q hp'q); (try simp only [List.cons_append, List.nil_append] at N'q); (try (obtain ⟨g'q, eg'q⟩ := GlueIn.isRef hp'q; subst eg'q)); (try (obtain ⟨g'q, eg'q⟩ := RuleIn.isRef hp'q; subst eg'q)); (try k_fold))) | fail)) | fail); (all_goals k_steps)) | ((fail_if_success (with_reducible refine Halt.go ?_)); (first | (k_here; (with_reducible show wpAny _ _ (eval (Expr.Name _ _) (compEnvC _ _ _ _)) _ _ _); k_dflt (refine' lcf_free ?Nv35 ?cv35 ?mv35 ?dv35 ?_ ?av35 ?bv35; (case av35 => rfl); (case bv35 => rfl); (case Nv35 => k_asm); (case cv35 => rfl); (case mv35 => assumption); (case dv35 => assumption); k_whole)) | fail); (all_goals k_steps))))
    refine CallsTo.use0e (disc_makes w font _ _ _ _ _ _ _ ys xs sh _ (.tail _ (List.mem_append_right _ (.tail _ (.head _)))) (.tail _ (List.mem_append_right _ (.head _))) (.head _) (Exists.elim hc fun t hi => ⟨t, hi.mono fun p hp => .tail _ (List.mem_append_right _ (.tail _ (.tail _ (List.mem_append_left _ hp))))⟩) (hx.mono fun _ _ => NodeIn.mono fun p hp => .tail _ (List.mem_append_left _ hp))) (by k_asm) (by k_asm) (by k_asm) (by k_asm) (by k_asm) (by exact rfl) (by exact rfl) (by first | assumption | exact rfl) (by first | assumption | exact rfl) (by (walk_at "my room")) (by (walk_at "my room")) ?_
    intro r9 h9 tk9 tl9 F9 N9 lt9 hp9
    (try dsimp only)
    (k_steps; repeat' (first | ((with_reducible refine Halt.go ?_); (first | (k_here; k_dflt (refine src_list (by rfl) (by k_asm) (by k_asm) (by repeat (first | assumption | refine List.mem_append_right _ ?_ | refine List.Mem.tail _ ?_)) (by rw [PySem.sizeLine_eq]; simp only [List.size_toArray]; omega) ?_)) | (k_here; (with_reducible show wpAny _ _ (eval (Expr.ListComp _ [⟨_, _, [], _⟩] _ _) _) _ _ _); k_dflt (refine LCg.ListComp_U (F₀ := by k_asm) (by with_unfolding_all rfl) (by decide) (by rfl) (by decide) (by rfl) ?_)) | ((with_reducible show wpAny _ _ (call _ _) _ _ _); (first | (k_here; k_dflt ((first | refine' CallsTo.use0e (char_makes _ _ _ _ ?p1v32 ?p2v32 _) ?k1v32 ?k2v32 ?k3v32 ?k4v32 ?k5v32 ?kHv32 ?kAv32 ?kFv32 ?kKv32 ?kdv32 ?kuv32 ?_ | refine' CallsTo.use0e (kern_makes _ _ _ _ ?p1v32 ?p2v32 _) ?k1v32 ?k2v32 ?k3v32 ?k4v32 ?k5v32 ?kHv32 ?kAv32 ?kFv32 ?kKv32 ?kdv32 ?kuv32 ?_ | refine' CallsTo.use0e (edge_makes _ _ _ ?p1v32 ?p2v32 _) ?k1v32 ?k2v32 ?k3v32 ?k4v32 ?k5v32 ?kHv32 ?kAv32 ?kFv32 ?kKv32 ?kdv32 ?kuv32 ?_ | refine' CallsTo.use0e (penalty_makes _ _ _) ?k1v32 ?k2v32 ?k3v32 ?k4v32 ?k5v32 ?kHv32 ?kAv32 ?kFv32 ?kKv32 ?kdv32 ?kuv32 ?_ | refine' CallsTo.use0e (glue_u ?p1v32 ?p2v32 ?p3v32 ?p4v32 ?p5v32) ?k1v32 ?k2v32 ?k3v32 ?k4v32 ?k5v32 ?kHv32 ?kAv32 ?kFv32 ?kKv32 ?kdv32 ?kuv32 ?_ | refine' CallsTo.use0e (rule_n) ?k1v32 ?k2v32 ?k3v32 ?k4v32 ?k5v32 ?kHv32 ?kAv32 ?kFv32 ?kKv32 ?kdv32 ?kuv32 ?_ | refine' CallsTo.use0e (rule_s ?p1v32 ?p2v32) ?k1v32 ?k2v32 ?k3v32 ?k4v32 ?k5v32 ?kHv32 ?kAv32 ?kFv32 ?kKv32 ?kdv32 ?kuv32 ?_ | refine' CallsTo.use0e (rule_l) ?k1v32 ?k2v32 ?k3v32 ?k4v32 ?k5v32 ?kHv32 ?kAv32 ?kFv32 ?kKv32 ?kdv32 ?kuv32 ?_ | refine' CallsTo.use0e (box_u ?p1v32 ?p2v32) ?k1v32 ?k2v32 ?k3v32 ?k4v32 ?k5v32 ?kHv32 ?kAv32 ?kFv32 ?kKv32 ?kdv32 ?kuv32 ?_ | refine' CallsTo.use0e (mark_u) ?k1v32 ?k2v32 ?k3v32 ?k4v32 ?k5v32 ?kHv32 ?kAv32 ?kFv32 ?kKv32 ?kdv32 ?kuv32 ?_ | refine' CallsTo.use0e (lig_u ?p1v32 ?p2v32 ?q1v32) ?k1v32 ?k2v32 ?k3v32 ?k4v32 ?k5v32 ?kHv32 ?kAv32 ?kFv32 ?kKv32 ?kdv32 ?kuv32 ?_ | refine' CallsTo.use0e (skip_plain _ _ _ _) ?k1v32 ?k2v32 ?k3v32 ?k4v32 ?k5v32 ?kHv32 ?kAv32 ?kFv32 ?kKv32 ?kdv32 ?kuv32 ?_ | refine' CallsTo.use0e (skip_u ?q2v32) ?k1v32 ?k2v32 ?k3v32 ?k4v32 ?k5v32 ?kHv32 ?kAv32 ?kFv32 ?kKv32 ?kdv32 ?kuv32 ?_); (case k1v32 => k_asm); (case k2v32 => k_asm); (case k3v32 => k_asm); (case k4v32 => k_asm); (case k5v32 => k_asm); (case kHv32 => exact rfl); (case kAv32 => exact rfl); (case kFv32 => first | assumption | exact rfl); (case kKv32 => first | assumption | exact rfl); (case kdv32 => (walk_at "my room")); (case kuv32 => (walk_at "my room")); (try (case p1v32 => omega)); (try (case p2v32 => omega)); (try (case p3v32 => omega)); (try (case p4v32 => omega)); (try (case p5v32 => omega)); (try (case q1v32 => k_mem)); (try (case q2v32 => exact RuleIn.mono (fun _ h => List.mem_append_left _ h) (by assumption))); k_whole; (intro r'q h'q tk'q tl'q F'q N'q lt'q hp'q); (try simp only [List.cons_append, List.nil_append] at N'q); (try (obtain ⟨g'q, eg'q⟩ := GlueIn.isRef hp'q; subst eg'q)); (try (obtain ⟨g'q, eg'q⟩ := RuleIn.isRef hp'q; subst eg'q)); (try k_fold))) | fail)) | fail); (all_goals k_steps)) | ((fail_if_success (with_reducible refine Halt.go ?_)); (first | (k_here; (with_reducible show wpAny _ _ (eval (Expr.Name _ _) (compEnvC _ _ _ _)) _ _ _); k_dflt (refine' lcf_free ?Nv35 ?cv35 ?mv35 ?dv35 ?_ ?av35 ?bv35; (case av35 => rfl); (case bv35 => rfl); (case Nv35 => k_asm); (case cv35 => rfl); (case mv35 => assumption); (case dv35 => assumption); k_whole)) | fail); (all_goals k_steps))))
    exact disc_fin ret (by k_asm) (by k_asm) lt9 om lt (off1_lt l1b.2) (Off1of fun p hp => Nat.ne_of_lt (l1a p hp)) ltc sh hs hp9 hc hx
end
theorem node_calls (w : World) (x : Part) (v : Value) (font : Addr) (fr : Led) (hx : PartIn fr v x) : CallsTo w 743 [v, .ref font] [] fr 16 320 (fun r mu' tl => mu' = [] ∧ TopIn w.params font tl r x) := by
  cases x with
  | c xs => exact node_disc w xs v font fr hx
  | f x =>
    intro prog p loose mean mg mb A env outer A₀ base h₀ L m s Q E B F X N T hh hA hf hk hd hu ret
    exact node_flat w x v font fr hx prog p loose mean mg mb A env outer A₀ base h₀ L m s Q E B F X N T hh hA hf hk (by omega) (by omega) ret
end
section
inductive Nd where
  | f (x : Flat)
  | rule (ow od : Option Int)
  | c (xs : List Flat)
  | box (w sh sg od r1 r2 : Int) (ps : List Part)
def ndOf : Part → Nd
  | .f x => .f x
  | .c xs => .c xs
def NdIn (P : Params) (font : Addr) (led : Led) (v : Value) : Nd → Prop
  | .f x => NodeIn P font led v x
  | .rule ow od => RuleIn P led ow od v
  | .c xs => TopIn P font led v (.c xs)
  | .box w sh sg od r1 r2 ps => ∃ its, BoxIn P led w sh sg od r1 r2 its v ∧ All2 (TopIn P font led) its ps ∧ ps.length ≤ 100
def Nd.kind : Nd → Int
  | .f x => x.kind
  | .rule _ _ => 4
  | .c _ => 8
  | .box _ _ _ _ _ _ _ => 2
def optD : Option Int → Dat
  | none => .tuple []
  | some i => .tuple [.int i]
def ruleD (ow od : Option Int) : Dat := .tuple [.int 4, optD ow, .tuple [.int 3], optD od]
def boxD (w sh sg od r1 r2 : Int) (ds : List Dat) : Dat := .tuple [.int 2, .int w, .int 5, .int 0, .int sh, .int sg, .int od, .tuple [.int r1, .int r2], .tuple ds]
def flatD : Flat → Dat
  | .l i => if menuL.getD i 0 = 0 then .tuple [.int 1, .int 1, .int (65 + (i : Int)), .tuple [.int 65, .int 67], .int 0, .int 0] else .tuple [.int 0, .int 1, .int (65 + (i : Int))]
  | .g s w st so sh ho => .tuple [.int 6, .tuple [.int w, .int st, .int (if st = 0 then 0 else so), .int sh, .int (if sh = 0 then 0 else ho)], .int (if s then 1 else 0), if s then ruleD none (some 0) else .tuple []]
  | .b w => boxD w 0 0 0 0 1 []
  | .r ow => ruleD ow none
  | .k w => .tuple [.int 5, .int w, .int 1]
  | .e w => .tuple [.int 12, .int 1, .int w]
  | .p => .tuple [.int 7, .int 50]
  | .m => .tuple [.int 9, .tuple [.tuple [.int 11, .int 97]]]
def discD (xs : List Flat) : Dat := .tuple [.int 8, .tuple [flatD (.l 0)], .tuple [], .tuple (xs.map flatD)]
def partD : Part → Dat
  | .f x => flatD x
  | .c xs => discD xs
def ndD : Nd → Dat
  | .f x => flatD x
  | .rule ow od => ruleD ow od
  | .c xs => discD xs
  | .box w sh sg od r1 r2 ps => boxD w sh sg od r1 r2 (ps.map partD)
theorem ndD_of (x : Part) : ndD (ndOf x) = partD x := by cases x <;> rfl
theorem NdIn_of {P : Params} {font : Addr} {led : Led} {v : Value} {x : Part} (h : TopIn P font led v x) : NdIn P font led v (ndOf x) := by cases x <;> exact h
def FontIn (P : Params) (led : Led) (font : Addr) : Prop := ∃ fs tn, Inst P led 676 fs (.ref font) ∧ fs.lookup (Str.ofString "number") = some (.int 1 tn)
theorem BoxIn.mono {P : Params} {l l' : Led} (s : ∀ p ∈ l, p ∈ l') {a b c d e f : Int} {its : List Value} {v : Value} (h : BoxIn P l a b c d e f its v) : BoxIn P l' a b c d e f its v := by
  obtain ⟨t0, t1, t2, t3, t4, t5, t6, t7, t8, la, lk, ra, rk, h, m1, m2⟩ := h
  exact ⟨t0, t1, t2, t3, t4, t5, t6, t7, t8, la, lk, ra, rk, h.mono s, s _ m1, s _ m2⟩
theorem NdIn.mono {P : Params} {font : Addr} {l l' : Led} (s : ∀ p ∈ l, p ∈ l') {v : Value} {x : Nd} (h : NdIn P font l v x) : NdIn P font l' v x := by
  cases x with
  | f x => exact NodeIn.mono s h
  | rule ow od => exact RuleIn.mono s h
  | c xs => exact TopIn.mono s (x := .c xs) h
  | box w sh sg od r1 r2 ps =>
    obtain ⟨its, h1, h2, h3⟩ := h
    exact ⟨its, h1.mono s, h2.mono fun _ _ => TopIn.mono s, h3⟩
section
variable {prog : Program} {w : World} {A : Around} {E : Value → Shared → Prop} {s : Shared} {h₀ : Heap} {L : Addr} {m : Str → Option Value} {Q : Value → Shared → Prop} {news L0 : Led} {v : Value} {ex : Bool} {font : Addr}
theorem nd_kind {x : Nd} (F : Fr h₀ L s.heap m) (X : (K w.params).In h₀) (N : News h₀ L s.heap news) (hi : NdIn w.params font L0 v x) (sub : ∀ p ∈ L0, p ∈ news) (h : ∀ t, Q (.int x.kind t) { s with toks := s.toks + 1 }) : wpAny (model prog w) A (getAttr v (Str.ofString "kind") ex) Q E s := by
  cases x with
  | f x => exact node_kind F X N hi sub h
  | rule ow od =>
    obtain ⟨wv, t2, dv, _, _, hi⟩ := hi
    have h : ∀ t, Q (.int 4 t) { s with toks := s.toks + 1 } := h
    exact cls_read F X N hi sub rfl (by k_is) (by k_is) (by k_is) (by k_is) rfl (by decide +kernel) (h _)
  | c xs =>
    obtain ⟨_, _, _, _, _, _, _, _, _, _, hi, _⟩ := hi
    exact disc_kind F X N hi sub rfl h
  | box bw sh sg od r1 r2 ps =>
    obtain ⟨its, ⟨t0, t1, t2, t3, t4, t5, t6, t7, t8, la, lk, ra, rk, hi, _, _⟩, _⟩ := hi
    have h : ∀ t, Q (.int 2 t) { s with toks := s.toks + 1 } := h
    exact own_read F X N hi sub rfl (by k_is) (by k_is) (by k_is) (by k_is) rfl (h _)
end
theorem news_up {h₀ h : Heap} {L : Addr} {l : Led} {p : Addr × Obj} (N : News h₀ L h l) (m : p ∈ l) : News h₀ L h (p :: l) := fun q hq => (List.mem_cons.mp hq).elim (fun e => e ▸ N p m) (N q)
theorem FontIn.mono {P : Params} {l l' : Led} (s : ∀ p ∈ l, p ∈ l') {font : Addr} (h : FontIn P l font) : FontIn P l' font := by
  obtain ⟨fs, tn, h1, h2⟩ := h
  exact ⟨fs, tn, h1.mono s, h2⟩
def NR (P : Params) (font : Addr) (nd : Nd) (l : Led) (v : Value) : Prop := NdIn P font l v nd ∧ FontIn P l font
theorem NR.mono {P : Params} {font : Addr} {nd : Nd} {l l' : Led} (s : ∀ p ∈ l, p ∈ l') {v : Value} (h : NR P font nd l v) : NR P font nd l' v := ⟨h.1.mono s, h.2.mono s⟩
theorem nd_ref {P : Params} {font : Addr} {l : Led} {v : Value} {nd : Nd} (h : NdIn P font l v nd) : ∃ y, v = .ref y := by
  cases nd with
  | f x => exact node_ref h
  | rule ow od => exact (id h : RuleIn _ _ _ _ _).isRef
  | c xs => obtain ⟨_, _, _, _, _, _, _, _, _, _, h, _⟩ := h; exact h.isRef
  | box w sh sg od r1 r2 ps => obtain ⟨_, ⟨_, _, _, _, _, _, _, _, _, _, _, _, _, h, _⟩, _⟩ := h; exact h.isRef
def Sub : Nd → List Nd
  | .f (.g true _ _ _ _ _) => [.rule none (some 0)]
  | .c xs => .f (.l 0) :: xs.map .f
  | .box _ _ _ _ _ _ ps => ps.map ndOf
  | _ => []
section
variable {P : Params} {font : Addr} {l : Led} {v : Value} {nd : Nd}
theorem inv0 (h : nd.kind = 0) (hi : NdIn P font l v nd) : ∃ i : Nat, nd = .f (.l i) ∧ menuL.getD i 0 ≠ 0 ∧ CharIn P l font (65 + (i : Int)) v := by
  rcases nd with (i | ⟨s, gw, st, so, sh, ho⟩ | bw | ow | kw | ew | _ | _) | ⟨ow, od⟩ | xs | ⟨bw, sh, sg, od, r1, r2, ps⟩
  case f.l =>
    refine ⟨i, rfl, ?_⟩
    have h2 := hi.2
    simp only [Nd.kind, Flat.kind] at h
    by_cases e : menuL.getD i 0 = 0
    · rw [if_pos e] at h; cases h
    · rw [if_neg e] at h2; exact ⟨e, h2⟩
  all_goals (exact absurd h (by simp [Nd.kind, Flat.kind]))
theorem inv1 (h : nd.kind = 1) (hi : NdIn P font l v nd) : ∃ i : Nat, nd = .f (.l i) ∧ menuL.getD i 0 = 0 ∧ LigIn P l font (65 + (i : Int)) v := by
  rcases nd with (i | ⟨s, gw, st, so, sh, ho⟩ | bw | ow | kw | ew | _ | _) | ⟨ow, od⟩ | xs | ⟨bw, sh, sg, od, r1, r2, ps⟩
  case f.l =>
    refine ⟨i, rfl, ?_⟩
    have h2 := hi.2
    simp only [Nd.kind, Flat.kind] at h
    by_cases e : menuL.getD i 0 = 0
    · rw [if_pos e] at h2; exact ⟨e, h2⟩
    · rw [if_neg e] at h; cases h
  all_goals (exact absurd h (by simp [Nd.kind, Flat.kind]))
theorem ne_if {p : Prop} [Decidable p] {a b c : Int} (h1 : a ≠ c) (h2 : b ≠ c) : (if p then a else b) ≠ c := by split <;> assumption
theorem inv2 (h : nd.kind = 2) (hi : NdIn P font l v nd) : ∃ w sh sg od r1 r2 ps its, BoxIn P l w sh sg od r1 r2 its v ∧ All2 (TopIn P font l) its ps ∧ ndD nd = boxD w sh sg od r1 r2 (ps.map partD) ∧ (∀ x ∈ ps, ndOf x ∈ Sub nd) ∧ its.length ≤ 100 := by
  rcases nd with (i | ⟨s, gw, st, so, sh, ho⟩ | bw | ow | kw | ew | _ | _) | ⟨ow, od⟩ | xs | ⟨bw, sh, sg, od, r1, r2, ps⟩
  case f.b => exact ⟨bw, 0, 0, 0, 0, 1, [], [], hi.2, .nil, rfl, (fun _ h => nomatch h), by decide⟩
  case box =>
    obtain ⟨its, h1, h2, h3⟩ := hi
    exact ⟨bw, sh, sg, od, r1, r2, ps, its, h1, h2, rfl, (fun x hx => List.mem_map_of_mem hx), by rw [h2.length]; exact h3⟩
  case f.l => exact absurd h (ne_if (by decide) (by decide))
  all_goals (exact absurd h (by simp [Nd.kind, Flat.kind]))
theorem inv3 (h : nd.kind = 3) : False := by
  rcases nd with (i | ⟨s, gw, st, so, sh, ho⟩ | bw | ow | kw | ew | _ | _) | ⟨ow, od⟩ | xs | ⟨bw, sh, sg, od, r1, r2, ps⟩
  case f.l => exact absurd h (ne_if (by decide) (by decide))
  all_goals (exact absurd h (by simp [Nd.kind, Flat.kind]))
theorem inv4 (h : nd.kind = 4) (hi : NdIn P font l v nd) : ∃ ow od, RuleIn P l ow od v ∧ ndD nd = ruleD ow od := by
  rcases nd with (i | ⟨s, gw, st, so, sh, ho⟩ | bw | ow | kw | ew | _ | _) | ⟨ow, od⟩ | xs | ⟨bw, sh, sg, od, r1, r2, ps⟩
  case f.r => exact ⟨ow, none, hi.2, rfl⟩
  case rule => exact ⟨ow, od, hi, rfl⟩
  case f.l => exact absurd h (ne_if (by decide) (by decide))
  all_goals (exact absurd h (by simp [Nd.kind, Flat.kind]))
theorem inv5 (h : nd.kind = 5) (hi : NdIn P font l v nd) : ∃ kw, nd = .f (.k kw) ∧ ∃ t1 t2, Inst P l 367 [("width", .int kw t1), ("sort", .int 1 t2)] v := by
  rcases nd with (i | ⟨s, gw, st, so, sh, ho⟩ | bw | ow | kw | ew | _ | _) | ⟨ow, od⟩ | xs | ⟨bw, sh, sg, od, r1, r2, ps⟩
  case f.k => exact ⟨kw, rfl, hi.2⟩
  case f.l => exact absurd h (ne_if (by decide) (by decide))
  all_goals (exact absurd h (by simp [Nd.kind, Flat.kind]))
theorem inv6 (h : nd.kind = 6) (hi : NdIn P font l v nd) : ∃ s gw st so sh ho, nd = .f (.g s gw st so sh ho) ∧ ∃ gv lv t, GlueIn P l gw st (if st = 0 then 0 else so) sh (if sh = 0 then 0 else ho) gv ∧ Inst P l 389 [("glue", gv), ("sort", .int (if s then 1 else 0) t), ("leader", lv)] v ∧ (if s then RuleIn P l none (some 0) lv else lv = .none) := by
  rcases nd with (i | ⟨s, gw, st, so, sh, ho⟩ | bw | ow | kw | ew | _ | _) | ⟨ow, od⟩ | xs | ⟨bw, sh, sg, od, r1, r2, ps⟩
  case f.g => exact ⟨s, gw, st, so, sh, ho, rfl, hi.2⟩
  case f.l => exact absurd h (ne_if (by decide) (by decide))
  all_goals (exact absurd h (by simp [Nd.kind, Flat.kind]))
theorem inv7 (h : nd.kind = 7) (hi : NdIn P font l v nd) : nd = .f .p ∧ ∃ t1, Inst P l 410 [("value", .int 50 t1)] v := by
  rcases nd with (i | ⟨s, gw, st, so, sh, ho⟩ | bw | ow | kw | ew | _ | _) | ⟨ow, od⟩ | xs | ⟨bw, sh, sg, od, r1, r2, ps⟩
  case f.p => exact ⟨rfl, hi⟩
  case f.l => exact absurd h (ne_if (by decide) (by decide))
  all_goals (exact absurd h (by simp [Nd.kind, Flat.kind]))
theorem inv9 (h : nd.kind = 9) (hi : NdIn P font l v nd) : nd = .f .m ∧ ∃ ta tb n m t1 t2, Inst P l 452 [("tokens", .ref ta)] v ∧ (ta, tupO [.ref tb] n) ∈ l ∧ (tb, tupO [.int 11 t1, .int 97 t2] m) ∈ l := by
  rcases nd with (i | ⟨s, gw, st, so, sh, ho⟩ | bw | ow | kw | ew | _ | _) | ⟨ow, od⟩ | xs | ⟨bw, sh, sg, od, r1, r2, ps⟩
  case f.m => exact ⟨rfl, hi⟩
  case f.l => exact absurd h (ne_if (by decide) (by decide))
  all_goals (exact absurd h (by simp [Nd.kind, Flat.kind]))
theorem inv12 (h : nd.kind = 12) (hi : NdIn P font l v nd) : ∃ ew, nd = .f (.e ew) ∧ ∃ t1, Inst P l 473 [("is_on", .bool true), ("width", .int ew t1)] v := by
  rcases nd with (i | ⟨s, gw, st, so, sh, ho⟩ | bw | ow | kw | ew | _ | _) | ⟨ow, od⟩ | xs | ⟨bw, sh, sg, od, r1, r2, ps⟩
  case f.e => exact ⟨ew, rfl, hi.2⟩
  case f.l => exact absurd h (ne_if (by decide) (by decide))
  all_goals (exact absurd h (by simp [Nd.kind, Flat.kind]))
theorem inv8 (h0 : nd.kind ≠ 0) (h1 : nd.kind ≠ 1) (h2 : nd.kind ≠ 2) (h4 : nd.kind ≠ 4) (h5 : nd.kind ≠ 5) (h6 : nd.kind ≠ 6) (h7 : nd.kind ≠ 7) (h9 : nd.kind ≠ 9) (h12 : nd.kind ≠ 12) : ∃ xs, nd = .c xs := by
  rcases nd with (i | ⟨s, gw, st, so, sh, ho⟩ | bw | ow | kw | ew | _ | _) | ⟨ow, od⟩ | xs | ⟨bw, sh, sg, od, r1, r2, ps⟩
  case c => exact ⟨xs, rfl⟩
  case f.l =>
    simp only [Nd.kind, Flat.kind] at h0 h1
    by_cases e : menuL.getD i 0 = 0
    · rw [if_pos e] at h1; exact absurd rfl h1
    · rw [if_neg e] at h0; exact absurd rfl h0
  all_goals (first | exact absurd rfl h2 | exact absurd rfl h4 | exact absurd rfl h5 | exact absurd rfl h6 | exact absurd rfl h7 | exact absurd rfl h9 | exact absurd rfl h12)
end
end
section
section
variable {h₀ h' : Heap} {L : Addr} {m : Str → Option Value} {fr tl tl1 tl2 tl3 rest : Led} {post : Value → Led → Led → Prop} {gs0 : Array GenState} {dr0 : Drawn} {os0 : OsState} {Q : Value → Shared → Prop} {r : Value} {tk' : Nat} {xa xb xc x1 x2 x3 : Addr} {oa ob oc o1 o2 o3 : Obj}
theorem lt_of_lt {l : Led} {d : Addr} (h : ∀ p ∈ l, p.1 < d) (s : ∀ p ∈ fr, p ∈ l) : LCg.Off1 d fr := Off1of fun p hp => Nat.ne_of_lt (h p (s p hp))
theorem node_fin_box (ret : Ret h₀ L m fr post gs0 dr0 os0 Q) (F : Fr h₀ L h' m) (N : News h₀ L h' ((xa, oa) :: (xb, ob) :: (tl ++ ((x1, o1) :: (x2, o2) :: (x3, o3) :: fr)))) (la : ∀ p ∈ (xb, ob) :: (tl ++ ((x1, o1) :: (x2, o2) :: (x3, o3) :: fr)), p.1 < xa) (lb : LCg.Off1 xb fr)
    (lt : ∀ q ∈ tl, LCg.Off1 q.1 ((x1, o1) :: (x2, o2) :: (x3, o3) :: fr)) (l1 : LCg.Off1 x1 fr) (l2 : LCg.Off1 x2 fr) (l3 : LCg.Off1 x3 fr) (hp : post r [] ((xa, oa) :: (xb, ob) :: (tl ++ [(x1, o1), (x2, o2), (x3, o3)]))) : Q r { heap := h', gens := gs0, drawn := dr0, toks := tk', os := os0 } := by
  refine node_fin (tl := (xa, oa) :: (xb, ob) :: (tl ++ [(x1, o1), (x2, o2), (x3, o3)])) (rest := fr) ret F (by simpa only [List.append_assoc, List.cons_append, List.nil_append] using N) ?_ (fun _ h => h) hp
  refine List.forall_mem_cons.mpr ⟨lt_of_lt la fun p hp => by simp [hp], List.forall_mem_cons.mpr ⟨lb, lt_app (fun q hq => off1_sub (lt q hq) fun p hp => by simpa using hp) ?_⟩⟩
  exact List.forall_mem_cons.mpr ⟨l1, List.forall_mem_cons.mpr ⟨l2, List.forall_mem_cons.mpr ⟨l3, List.forall_mem_nil _⟩⟩⟩
theorem node_fin_rule (ret : Ret h₀ L m fr post gs0 dr0 os0 Q) (F : Fr h₀ L h' m) (N : News h₀ L h' ((xa, oa) :: (xb, ob) :: (xc, oc) :: (tl ++ ((x1, o1) :: (x2, o2) :: fr)))) (la : LCg.Off1 xa fr) (lb : LCg.Off1 xb fr) (lc : LCg.Off1 xc fr)
    (lt : ∀ q ∈ tl, LCg.Off1 q.1 ((x1, o1) :: (x2, o2) :: fr)) (l1 : LCg.Off1 x1 fr) (l2 : LCg.Off1 x2 fr) (hp : post r [] ((xa, oa) :: (xb, ob) :: (xc, oc) :: (tl ++ [(x1, o1), (x2, o2)]))) : Q r { heap := h', gens := gs0, drawn := dr0, toks := tk', os := os0 } := by
  refine node_fin (tl := (xa, oa) :: (xb, ob) :: (xc, oc) :: (tl ++ [(x1, o1), (x2, o2)])) (rest := fr) ret F (by simpa only [List.append_assoc, List.cons_append, List.nil_append] using N) ?_ (fun _ h => h) hp
  refine List.forall_mem_cons.mpr ⟨la, List.forall_mem_cons.mpr ⟨lb, List.forall_mem_cons.mpr ⟨lc, lt_app (fun q hq => off1_sub (lt q hq) fun p hp => by simpa using hp) ?_⟩⟩⟩
  exact List.forall_mem_cons.mpr ⟨l1, List.forall_mem_cons.mpr ⟨l2, List.forall_mem_nil _⟩⟩
theorem node_fin_t1 (ret : Ret h₀ L m fr post gs0 dr0 os0 Q) (F : Fr h₀ L h' m) (N : News h₀ L h' ((xa, oa) :: (tl1 ++ fr))) (la : ∀ p ∈ tl1 ++ fr, p.1 < xa) (t1 : ∀ q ∈ tl1, LCg.Off1 q.1 fr) (hp : post r [] ((xa, oa) :: tl1)) : Q r { heap := h', gens := gs0, drawn := dr0, toks := tk', os := os0 } :=
  node_fin (tl := (xa, oa) :: tl1) (rest := fr) ret F N (List.forall_mem_cons.mpr ⟨lt_of_lt la fun p hp => List.mem_append_right _ hp, t1⟩) (fun _ h => h) hp
theorem node_fin_e (ret : Ret h₀ L m fr post gs0 dr0 os0 Q) (F : Fr h₀ L h' m) (N : News h₀ L h' ((xa, oa) :: (xb, ob) :: (tl1 ++ fr))) (la : LCg.Off1 xa fr) (lb : LCg.Off1 xb fr) (t1 : ∀ q ∈ tl1, LCg.Off1 q.1 fr) (hp : post r [] ((xa, oa) :: (xb, ob) :: tl1)) : Q r { heap := h', gens := gs0, drawn := dr0, toks := tk', os := os0 } :=
  node_fin (tl := (xa, oa) :: (xb, ob) :: tl1) (rest := fr) ret F N (List.forall_mem_cons.mpr ⟨la, List.forall_mem_cons.mpr ⟨lb, t1⟩⟩) (fun _ h => h) hp
theorem node_fin_t2 (ret : Ret h₀ L m fr post gs0 dr0 os0 Q) (F : Fr h₀ L h' m) (N : News h₀ L h' ((xa, oa) :: (tl2 ++ (tl1 ++ fr)))) (la : ∀ p ∈ tl2 ++ (tl1 ++ fr), p.1 < xa) (t1 : ∀ q ∈ tl1, LCg.Off1 q.1 fr) (t2 : ∀ q ∈ tl2, LCg.Off1 q.1 (tl1 ++ fr)) (hp : post r [] ((xa, oa) :: (tl2 ++ tl1))) : Q r { heap := h', gens := gs0, drawn := dr0, toks := tk', os := os0 } :=
  node_fin (tl := (xa, oa) :: (tl2 ++ tl1)) (rest := fr) ret F (by simpa only [List.append_assoc, List.cons_append, List.nil_append] using N) (List.forall_mem_cons.mpr ⟨lt_of_lt la fun p hp => List.mem_append_right _ (List.mem_append_right _ hp), lt_app t2 t1⟩) (fun _ h => h) hp
theorem node_fin_t3 (ret : Ret h₀ L m fr post gs0 dr0 os0 Q) (F : Fr h₀ L h' m) (N : News h₀ L h' ((xa, oa) :: (tl3 ++ (tl2 ++ (tl1 ++ fr))))) (la : ∀ p ∈ tl3 ++ (tl2 ++ (tl1 ++ fr)), p.1 < xa) (t1 : ∀ q ∈ tl1, LCg.Off1 q.1 fr) (t2 : ∀ q ∈ tl2, LCg.Off1 q.1 (tl1 ++ fr)) (t3 : ∀ q ∈ tl3, LCg.Off1 q.1 (tl2 ++ (tl1 ++ fr))) (hp : post r [] ((xa, oa) :: (tl3 ++ (tl2 ++ tl1)))) : Q r { heap := h', gens := gs0, drawn := dr0, toks := tk', os := os0 } :=
  node_fin (tl := (xa, oa) :: (tl3 ++ (tl2 ++ tl1))) (rest := fr) ret F (by simpa only [List.append_assoc, List.cons_append, List.nil_append] using N) (List.forall_mem_cons.mpr ⟨lt_of_lt la fun p hp => List.mem_append_right _ (List.mem_append_right _ (List.mem_append_right _ hp)), lt_app (by simpa only [List.append_assoc] using t3) (lt_app t2 t1)⟩) (fun _ h => h) hp
end
theorem dat_up {l l' : Led} {v : Value} {e : Dat} (h : DatIn l v e) (s : ∀ p ∈ l, p ∈ l') : DatIn l' v e := h.mono s
theorem datsI {led : Led} {v : Value} {k j : Int} (h : k = j) {t : Tok} (e : v = .int k t) : DatIn led v (.int j) := by subst e h; exact .int _ _
theorem node_fin_two {h₀ h' : Heap} {L : Addr} {m : Str → Option Value} {fr tl rest : Led} {post : Value → Led → Led → Prop} {gs0 : Array GenState} {dr0 : Drawn} {os0 : OsState} {Q : Value → Shared → Prop} {r : Value} {tk' : Nat} {a b : Addr × Obj} (ret : Ret h₀ L m fr post gs0 dr0 os0 Q) (F : Fr h₀ L h' m) (N : News h₀ L h' (a :: b :: (tl ++ rest)))
    (la : LCg.Off1 a.1 rest) (lb : LCg.Off1 b.1 rest) (lt : ∀ q ∈ tl, LCg.Off1 q.1 rest) (sub : ∀ p ∈ fr, p ∈ rest) (hp : post r [] (a :: b :: tl)) : Q r { heap := h', gens := gs0, drawn := dr0, toks := tk', os := os0 } :=
  node_fin (tl := a :: b :: tl) ret F N (List.forall_mem_cons.mpr ⟨la, List.forall_mem_cons.mpr ⟨lb, lt⟩⟩) sub hp
theorem all_dat {led : Led} {β : Type} {dat : β → Dat} {ys : List Value} {bs : List β} (h : All2 (fun v b => DatIn led v (dat b)) ys bs) : DatAll led ys (bs.map dat) := by
  induction h with
  | nil => exact .nil
  | cons h _ ih => exact .cons h ih
abbrev Tell (w : World) (d : Int) (R : Led → Value → Prop) (v : Value) (e : Dat) (dd uu : Nat) : Prop :=
  ∀ (fr0 fr : Led) (td : Tok) (args : List Value), (args = [v, .int d td] ∨ (args = [v] ∧ d = 0 ∧ td = 926)) → (∀ p ∈ fr0, p ∈ fr) → R fr0 v → CallsTo w 502 args [] fr dd uu (fun r mu' tl => mu' = [] ∧ DatIn (tl ++ fr0) r e)
section
local macro_rules | `(tactic| walk_at "eval ListComp") => `(tactic| refine halt_of ?_)
local macro_rules | `(tactic| walk_at "CompSrc") => `(tactic| refine halt_of ?_)
local macro_rules | `(tactic| walk_at "call type:tuple") => `(tactic| (k_here; refine halt_of ?_))
theorem list_calls {β : Type} (w : World) (d : Int) {R : Led → Value → β → Prop} (mono : ∀ {l l' : Led}, (∀ p ∈ l, p ∈ l') → ∀ {v x}, R l v x → R l' v x) (dat : β → Dat) (dd uu : Nat)
    (la : Addr) (lk : Nat) (vs : List Value) (bs : List β) (elem : ∀ v b, b ∈ bs → Tell w d (fun l v => R l v b) v (dat b) dd uu) (td : Tok) (fr0 fr : Led) (sub : ∀ p ∈ fr0, p ∈ fr) (hm : (la, listOf vs.toArray lk) ∈ fr0) (hx : All2 (R fr0) vs bs) (hlen : vs.length ≤ 100) :
    CallsTo w 508 [.ref la, .int d td] [] fr (dd + 4) (uu + 30) (fun r mu' tl => mu' = [] ∧ DatIn (tl ++ fr0) r (.tuple (bs.map dat))) := by
  have hm' := sub _ hm
  intro prog p loose mean mg mb A env outer A₀ base h₀ L m s Q E B F X N T hh hA hf hk hd hu ret; obtain ⟨hd0, dp, frm, gd, un⟩ := A; obtain ⟨hp0, gs0, dr0, tk0, os0⟩ := s; dsimp only at hh hA hd hu F N ret; subst hh hA; have hSt := StK.mk gs0 dr0 os0; (try simp only [List.cons_append, List.nil_append] at N)
  refine wpAny_call ?_; k_dflt (refine' code_defC (binds := [(Str.ofString "items", .ref la), (Str.ofString "depth", .int d td)]) ?k1 ?k2 ?k3 ?k4 ?k5 ?kA ?kF ?kK ?k6 ?k7 ?k8 ?k9 ?kB ?kD ?_ ?c2 ?c3 ?c4; (case kA => exact rfl); (case kF => first | assumption | exact rfl); (case kK => first | assumption | exact rfl); (case k1 => k_asm); (case k2 => k_asm); (case k3 => k_asm); (case k4 => k_asm); (case k5 => k_asm); (case k6 => k_is); (case k7 => k_is); (case k8 => (walk_at "my room")); (case k9 => first | exact BindsTo.of_eq rfl | exact binds_K (by k_in) rfl (by k_is) rfl rfl rfl); (case kB => exact rfl); (case kD => decide +kernel); (case c2 => exact rfl); (case c3 => exact rfl); (case c4 => exact rfl); k_whole; intro g' L' h' tk' cells' FG' F' N' Y' B' X' T' l1; (try k_lt l1); k_cells Y'; (try simp only [List.cons_append, List.nil_append] at N'); (try dsimp only); (try k_fold))
  (k_steps; repeat' (first | ((with_reducible refine Halt.go ?_); (first | (k_here; k_dflt (refine src_list (by rfl) (by k_asm) (by k_asm) (by repeat (first | assumption | refine List.mem_append_right _ ?_ | refine List.Mem.tail _ ?_)) (by rw [PySem.sizeLine_eq]; simp only [List.size_toArray]; omega) ?_)) | (k_here; (with_reducible show wpAny _ _ (eval (Expr.ListComp _ [⟨_, _, [], _⟩] _ _) _) _ _ _); k_dflt (refine LCg.ListComp_U (F₀ := by k_asm) (by with_unfolding_all rfl) (by decide) (by rfl) (by decide) (by rfl) ?_)) | fail); (all_goals k_steps)) | ((fail_if_success (with_reducible refine Halt.go ?_)); (first | (k_here; (with_reducible show wpAny _ _ (eval (Expr.Name _ _) (compEnvC _ _ _ _)) _ _ _); k_dflt (refine' lcf_free ?Nv38 ?cv38 ?mv38 ?dv38 ?_ ?av38 ?bv38; (case av38 => rfl); (case bv38 => rfl); (case Nv38 => k_asm); (case cv38 => rfl); (case mv38 => assumption); (case dv38 => assumption); k_whole)) | fail); (all_goals k_steps))))
  have hdat : _ = Data.cell (some (.int d td)) := (by assumption : (_ : Obj).data = Data.cell (bindC _ _ _ _))
  refine Halt.go (fun gz => ?_)
  refine comp_grow (R := fun tl v b => DatIn (tl ++ fr0) v (dat b)) (fun s => DatIn.mono fun p hp => (List.mem_append.mp hp).elim (fun h => List.mem_append_left _ (s p h)) fun h => List.mem_append_right _ h) (src := bs) (by rw [← hx.length]; (try simp)) (fun tl => Or.inr ⟨_, List.mem_append_right _ (.tail _ hm'), rfl, _, rfl⟩) ?turn ?fin
  case turn =>
    intro i v b ys I oI C oC D m₂ h tk E' fr2 hb hvi hC hx2 F2 sub2 N2 off3 ne3
    have hcell : (L' + 1, _) ∈ (I, oI) :: (C, oC) :: (D, LCg.lst ys) :: fr2 := .tail _ (.tail _ (.tail _ (sub2 (L' + 1, _) (.head _))))
    obtain ⟨b2, hb2, hr⟩ := hx.get (by simpa using hvi)
    obtain rfl : b2 = b := Option.some.inj (hb2.symm.trans hb)
    have hsub : ∀ p ∈ fr0, p ∈ (I, oI) :: (C, oC) :: (D, LCg.lst ys) :: fr2 := fun p hp => .tail _ (.tail _ (.tail _ (sub2 p (.tail _ (sub p hp)))))
    clear sub2
    (k_steps; repeat' (first | ((with_reducible refine Halt.go ?_); (first | (k_here; k_dflt (refine src_list (by rfl) (by k_asm) (by k_asm) (by repeat (first | assumption | refine List.mem_append_right _ ?_ | refine List.Mem.tail _ ?_)) (by rw [PySem.sizeLine_eq]; simp only [List.size_toArray]; omega) ?_)) | (k_here; (with_reducible show wpAny _ _ (eval (Expr.ListComp _ [⟨_, _, [], _⟩] _ _) _) _ _ _); k_dflt (refine LCg.ListComp_U (F₀ := by k_asm) (by with_unfolding_all rfl) (by decide) (by rfl) (by decide) (by rfl) ?_)) | fail); (all_goals k_steps)) | ((fail_if_success (with_reducible refine Halt.go ?_)); (first | (k_here; (with_reducible show wpAny _ _ (eval (Expr.Name _ _) (compEnvC _ _ _ _)) _ _ _); k_dflt (refine' lcf_free ?Nv38 ?cv38 ?mv38 ?dv38 ?_ ?av38 ?bv38; (case av38 => rfl); (case bv38 => rfl); (case Nv38 => k_asm); (case cv38 => rfl); (case mv38 => assumption); (case dv38 => assumption); k_whole)) | fail); (all_goals k_steps))))
    refine CallsTo.use0e (elem v b2 (List.mem_of_getElem? hb) fr0 _ _ _ (.inl rfl) hsub hr) (by k_asm) (by k_asm) (by k_asm) (by k_asm) (by k_asm) (by exact rfl) (by exact rfl) (by first | assumption | exact rfl) (by first | assumption | exact rfl) (by (walk_at "my room")) (by (walk_at "my room")) ?_
    intro r' h' tk' tl' F' N' lt' hp'
    exact GrowTurn.mk F' N' lt' hp'
  case fin =>
    intro ys tl hx2 lt
    have hlen2 : ys.length ≤ 100 := by rw [hx2.length, ← hx.length]; exact hlen
    unfold LCg.FinE
    intro Dm hm2 tkm Fm Nm om
    (try dsimp only)
    (k_steps; repeat' (first | ((with_reducible refine Halt.go ?_); (first | (k_here; k_dflt (refine src_list (by rfl) (by k_asm) (by k_asm) (by repeat (first | assumption | refine List.mem_append_right _ ?_ | refine List.Mem.tail _ ?_)) (by rw [PySem.sizeLine_eq]; simp only [List.size_toArray]; omega) ?_)) | (k_here; (with_reducible show wpAny _ _ (eval (Expr.ListComp _ [⟨_, _, [], _⟩] _ _) _) _ _ _); k_dflt (refine LCg.ListComp_U (F₀ := by k_asm) (by with_unfolding_all rfl) (by decide) (by rfl) (by decide) (by rfl) ?_)) | fail); (all_goals k_steps)) | ((fail_if_success (with_reducible refine Halt.go ?_)); (first | (k_here; (with_reducible show wpAny _ _ (eval (Expr.Name _ _) (compEnvC _ _ _ _)) _ _ _); k_dflt (refine' lcf_free ?Nv38 ?cv38 ?mv38 ?dv38 ?_ ?av38 ?bv38; (case av38 => rfl); (case bv38 => rfl); (case Nv38 => k_asm); (case cv38 => rfl); (case mv38 => assumption); (case dv38 => assumption); k_whole)) | fail); (all_goals k_steps))))
    refine Halt.go ?_
    refine kde_tupleOf (by k_asm) (by k_asm) (News.isList (by k_asm) (.head _)) (by simp only [List.size_toArray]; omega) rfl ?_
    intro D h F1 N1 l1
    (k_steps; repeat' (first | ((with_reducible refine Halt.go ?_); (first | (k_here; k_dflt (refine src_list (by rfl) (by k_asm) (by k_asm) (by repeat (first | assumption | refine List.mem_append_right _ ?_ | refine List.Mem.tail _ ?_)) (by rw [PySem.sizeLine_eq]; simp only [List.size_toArray]; omega) ?_)) | (k_here; (with_reducible show wpAny _ _ (eval (Expr.ListComp _ [⟨_, _, [], _⟩] _ _) _) _ _ _); k_dflt (refine LCg.ListComp_U (F₀ := by k_asm) (by with_unfolding_all rfl) (by decide) (by rfl) (by decide) (by rfl) ?_)) | fail); (all_goals k_steps)) | ((fail_if_success (with_reducible refine Halt.go ?_)); (first | (k_here; (with_reducible show wpAny _ _ (eval (Expr.Name _ _) (compEnvC _ _ _ _)) _ _ _); k_dflt (refine' lcf_free ?Nv38 ?cv38 ?mv38 ?dv38 ?_ ?av38 ?bv38; (case av38 => rfl); (case bv38 => rfl); (case Nv38 => k_asm); (case cv38 => rfl); (case mv38 => assumption); (case dv38 => assumption); k_whole)) | fail); (all_goals k_steps))))
    exact node_fin_two ret (by k_asm) (by k_asm) (Off1of fun p hp => Nat.ne_of_lt (l1 p (.tail _ (List.mem_append_right _ hp)))) (off1_sub om fun p hp => List.mem_append_right _ hp) lt (fun _ h => .tail _ h)
      (And.intro rfl (.tuple (.head _) (all_dat (hx2.mono fun _ _ => DatIn.mono fun p hp => (List.mem_append.mp hp).elim (fun h => List.mem_append_left _ (.tail _ (.tail _ h))) fun h => List.mem_append_right _ h))))
end
theorem WidthV.handed {v : Value} {o : Option Int} (h : WidthV v o) : handedIn v = true := by
  cases o with
  | none => obtain rfl : v = .none := h; rfl
  | some i => obtain ⟨t, rfl⟩ := h; rfl
end
section
theorem dat_eq {l : Led} {v : Value} {nd nd' : Nd} (e : nd = nd') (h : DatIn l v (ndD nd')) : DatIn l v (ndD nd) := e ▸ h
theorem dat_up5 {a b c d e : Addr × Obj} {tl fr0 : Led} {v : Value} {k : Dat} (h : DatIn tl v k) : DatIn ((a :: b :: c :: (tl ++ [d, e])) ++ fr0) v k := h.mono fun p hp => List.mem_append_left _ (.tail _ (.tail _ (.tail _ (List.mem_append_left _ hp))))
theorem parts_calls (w : World) (gw st so sh ho : Int) (gv : Value) (fr0 fr : Led) (sub : ∀ p ∈ fr0, p ∈ fr) (hg : GlueIn w.params fr0 gw st so sh ho gv) :
    CallsTo w 179 [gv] [] fr 2 30 (fun r mu' tl => mu' = [] ∧ DatIn (tl ++ fr0) r (.tuple [.int gw, .int st, .int so, .int sh, .int ho])) := by
  refine el5 (hg) fun t1 t2 t3 t4 t5 hi => ?_
  obtain ⟨g, rfl⟩ := hi.isRef
  intro prog p loose mean mg mb A env outer A₀ base h₀ L m s Q E B F X N T hh hA hf hk hd hu ret; obtain ⟨hd0, dp, frm, gd, un⟩ := A; obtain ⟨hp0, gs0, dr0, tk0, os0⟩ := s; dsimp only at hh hA hd hu F N ret; subst hh hA; have hSt := StK.mk gs0 dr0 os0; (try simp only [List.cons_append, List.nil_append] at N)
  refine wpAny_call ?_; k_dflt (refine' code_def (binds := [(Str.ofString "self", .ref g)]) ?k1 ?k2 ?k3 ?k4 ?k5 ?kA ?kF ?kK ?k6 ?k7 ?k8 ?k9 ?kB ?_ ?c2 ?c3 ?c4 ?c5; (case kA => exact rfl); (case kF => first | assumption | exact rfl); (case kK => first | assumption | exact rfl); (case k1 => k_asm); (case k2 => k_asm); (case k3 => k_asm); (case k4 => k_asm); (case k5 => k_asm); (case k6 => k_is); (case k7 => k_is); (case k8 => (walk_at "my room")); (case k9 => first | exact BindsTo.of_eq rfl | exact binds_K (by k_in) rfl (by k_is) rfl rfl rfl); (case c5 => decide); (case kB => exact locs rfl); (case c2 => exact rfl); (case c3 => exact rfl); (case c4 => exact rfl); k_whole; intro g' L' h' FG' F' N' B' X' T'; (refine gen_tk fun tk1 => ?_); (try dsimp only at N'); (try dsimp only); (try k_fold))
  k_steps
  refine own_read (by k_asm) (by k_asm) (by k_asm) hi (fun p hp => by repeat (first | exact sub p hp | refine List.Mem.tail _ ?_ | refine List.mem_append_right _ ?_)) rfl (by k_is) (by k_is) (by k_is) (by k_is) rfl ?_
  k_steps
  refine own_read (by k_asm) (by k_asm) (by k_asm) hi (fun p hp => by repeat (first | exact sub p hp | refine List.Mem.tail _ ?_ | refine List.mem_append_right _ ?_)) rfl (by k_is) (by k_is) (by k_is) (by k_is) rfl ?_
  k_steps
  refine own_read (by k_asm) (by k_asm) (by k_asm) hi (fun p hp => by repeat (first | exact sub p hp | refine List.Mem.tail _ ?_ | refine List.mem_append_right _ ?_)) rfl (by k_is) (by k_is) (by k_is) (by k_is) rfl ?_
  k_steps
  refine own_read (by k_asm) (by k_asm) (by k_asm) hi (fun p hp => by repeat (first | exact sub p hp | refine List.Mem.tail _ ?_ | refine List.mem_append_right _ ?_)) rfl (by k_is) (by k_is) (by k_is) (by k_is) rfl ?_
  k_steps
  refine own_read (by k_asm) (by k_asm) (by k_asm) hi (fun p hp => by repeat (first | exact sub p hp | refine List.Mem.tail _ ?_ | refine List.mem_append_right _ ?_)) rfl (by k_is) (by k_is) (by k_is) (by k_is) rfl ?_
  k_steps
  exact ret _ _ _ [] [_] (by k_asm) (by k_asm) (by walk_at "my ord") (And.intro rfl (.tuple (.head _) (.cons (.int _ _) (.cons (.int _ _) (.cons (.int _ _) (.cons (.int _ _) (.cons (.int _ _) .nil)))))))
set_option maxHeartbeats 8000000 in
theorem rest_calls (w : World) (d : Int) (hd0 : 0 ≤ d) (hd1 : d ≤ 50) (font : Addr) (xs : List Flat) (dd uu : Nat) (H : ∀ e ∈ Sub (.c xs), ∀ v, Tell w (d + 1) (NR w.params font e) v (ndD e) dd uu) (v : Value) (fr0 fr : Led) (td : Tok) (sub : ∀ p ∈ fr0, p ∈ fr) (hR : NR w.params font (.c xs) fr0 v) :
    CallsTo w 496 [v, .int d td] [] fr (dd + 8) (uu + 100) (fun r mu' tl => mu' = [] ∧ DatIn (tl ++ fr0) r (discD xs)) := by
  obtain ⟨hi, hf⟩ := hR
  refine an3 (hi) fun sh sz hi => ?_
  refine el8 (hi) fun a1 n1 a2 n2 a3 n3 cv vs hO22 => an6 hO22 fun hkd m1 m2 m3 hc hv => ?_
  obtain ⟨x, rfl⟩ := hkd.isRef
  have h1 : All2 (NodeIn w.params font fr0) [cv] [.l 0] := .cons ⟨by decide, by simpa [menuL] using hc⟩ .nil
  have hE : ∀ v y, y ∈ Flat.l 0 :: xs → Tell w (d + 1) (fun l v => NR w.params font (.f y) l v) v (flatD y) dd uu := fun v y hy => H (.f y) (by
    rcases List.mem_cons.mp hy with rfl | hy
    · exact .head _
    · exact .tail _ (List.mem_map_of_mem hy)) v
  have up : ∀ {vs : List Value} {ys : List Flat}, All2 (NodeIn w.params font fr0) vs ys → All2 (fun v y => NR w.params font (.f y) fr0 v) vs ys := fun h => h.mono fun _ _ h => ⟨h, hf⟩
  intro prog p loose mean mg mb A env outer A₀ base h₀ L m s Q E B F X N T hh hA hf hk hd hu ret; obtain ⟨hd0, dp, frm, gd, un⟩ := A; obtain ⟨hp0, gs0, dr0, tk0, os0⟩ := s; dsimp only at hh hA hd hu F N ret; subst hh hA; have hSt := StK.mk gs0 dr0 os0; (try simp only [List.cons_append, List.nil_append] at N)
  refine wpAny_call ?_; k_dflt (refine' code_def (binds := [(Str.ofString "node", .ref x), (Str.ofString "depth", .int d td)]) ?k1 ?k2 ?k3 ?k4 ?k5 ?kA ?kF ?kK ?k6 ?k7 ?k8 ?k9 ?kB ?_ ?c2 ?c3 ?c4 ?c5; (case kA => exact rfl); (case kF => first | assumption | exact rfl); (case kK => first | assumption | exact rfl); (case k1 => k_asm); (case k2 => k_asm); (case k3 => k_asm); (case k4 => k_asm); (case k5 => k_asm); (case k6 => k_is); (case k7 => k_is); (case k8 => (walk_at "my room")); (case k9 => first | exact BindsTo.of_eq rfl | exact binds_K (by k_in) rfl (by k_is) rfl rfl rfl); (case c5 => decide); (case kB => exact locs rfl); (case c2 => exact rfl); (case c3 => exact rfl); (case c4 => exact rfl); k_whole; intro g' L' h' FG' F' N' B' X' T'; (refine gen_tk fun tk1 => ?_); (try dsimp only at N'); (try dsimp only); (try k_fold))
  k_steps
  refine disc_kind (by k_asm) (by k_asm) (by k_asm) hkd sub rfl (fun t => ?_)
  k_steps
  refine own_read (by k_asm) (by k_asm) (by k_asm) hkd (fun p hp => by repeat (first | exact sub p hp | refine List.Mem.tail _ ?_ | refine List.mem_append_right _ ?_)) rfl (by k_is) (by k_is) (by k_is) (by k_is) rfl ?_
  k_steps
  have Nq := idNews (by k_asm)
  refine CallsTo.use0e (list_calls w (d + 1) (R := fun l v y => NR w.params font (.f y) l v) (fun s => NR.mono s) flatD dd uu a1 n1 [cv] [.l 0] (fun v y hy => hE v y (by rw [List.mem_singleton.mp hy]; exact .head _)) _ fr0 _ (fun p hp => by repeat (first | exact sub p hp | refine List.Mem.tail _ ?_ | refine List.mem_append_right _ ?_)) m1 (up h1) (by simp)) (by k_asm) (by k_asm) (by k_asm) Nq (by k_asm) (by exact rfl) (by exact rfl) (by first | assumption | exact rfl) (by first | assumption | exact rfl) (by (walk_at "my room")) (by (walk_at "my room")) ?_
  intro r1 h1' tk1 tl1 F1 N1 lt1 hp1
  (try dsimp only)
  clear Nq
  k_steps
  refine own_read (by k_asm) (by k_asm) (by k_asm) hkd (fun p hp => by repeat (first | exact sub p hp | refine List.Mem.tail _ ?_ | refine List.mem_append_right _ ?_)) rfl (by k_is) (by k_is) (by k_is) (by k_is) rfl ?_
  k_steps
  have Nq := idNews (by k_asm)
  refine CallsTo.use0e (list_calls w (d + 1) (R := fun l v y => NR w.params font (.f y) l v) (fun s => NR.mono s) flatD dd uu a2 n2 [] [] (fun v y hy => nomatch hy) _ fr0 _ (fun p hp => by repeat (first | exact sub p hp | refine List.Mem.tail _ ?_ | refine List.mem_append_right _ ?_)) m2 .nil (by simp)) (by k_asm) (by k_asm) (by k_asm) Nq (by k_asm) (by exact rfl) (by exact rfl) (by first | assumption | exact rfl) (by first | assumption | exact rfl) (by (walk_at "my room")) (by (walk_at "my room")) ?_
  intro r2 h2' tk2 tl2 F2 N2 lt2 hp2
  (try dsimp only)
  clear Nq
  k_steps
  refine own_read (by k_asm) (by k_asm) (by k_asm) hkd (fun p hp => by repeat (first | exact sub p hp | refine List.Mem.tail _ ?_ | refine List.mem_append_right _ ?_)) rfl (by k_is) (by k_is) (by k_is) (by k_is) rfl ?_
  k_steps
  have Nq := idNews (by k_asm)
  refine CallsTo.use0e (list_calls w (d + 1) (R := fun l v y => NR w.params font (.f y) l v) (fun s => NR.mono s) flatD dd uu a3 n3 vs xs (fun v y hy => hE v y (.tail _ hy)) _ fr0 _ (fun p hp => by repeat (first | exact sub p hp | refine List.Mem.tail _ ?_ | refine List.mem_append_right _ ?_)) m3 (up hv) (by rw [hv.length]; omega)) (by k_asm) (by k_asm) (by k_asm) Nq (by k_asm) (by exact rfl) (by exact rfl) (by first | assumption | exact rfl) (by first | assumption | exact rfl) (by (walk_at "my room")) (by (walk_at "my room")) ?_
  intro r3 h3' tk3 tl3 F3 N3 lt3 hp3
  (try dsimp only)
  clear Nq
  k_steps
  exact node_fin_t3 ret (by k_asm) (by k_asm) (idL1 (by assumption)) lt1 lt2 lt3 (And.intro rfl (.tuple (.head _) (.cons (.int _ _) (.cons (dat_up hp1 fun p hp => (List.mem_append.mp hp).elim (fun h => List.mem_append_left _ (.tail _ (List.mem_append_right _ (List.mem_append_right _ h)))) fun h => List.mem_append_right _ h) (.cons (dat_up hp2 fun p hp => (List.mem_append.mp hp).elim (fun h => List.mem_append_left _ (.tail _ (List.mem_append_right _ (List.mem_append_left _ h)))) fun h => List.mem_append_right _ h) (.cons (dat_up hp3 fun p hp => (List.mem_append.mp hp).elim (fun h => List.mem_append_left _ (.tail _ (List.mem_append_left _ h))) fun h => List.mem_append_right _ h) .nil))))))
section
local macro_rules | `(tactic| walk_at "eval ListComp") => `(tactic| refine halt_of ?_)
local macro_rules | `(tactic| walk_at "call ref") => `(tactic| refine halt_of ?_)
local macro_rules | `(tactic| walk_at "getAttr ref") => `(tactic| refine halt_of ?_)
local macro_rules | `(tactic| walk_at "getMethod ref") => `(tactic| refine halt_of ?_)
set_option maxHeartbeats 8000000 in
theorem described_gen (w : World) (d : Int) (hd0 : 0 ≤ d) (hd1 : d ≤ 50) (font : Addr) (nd : Nd) (dd uu : Nat) (H : ∀ e ∈ Sub nd, ∀ v, Tell w (d + 1) (NR w.params font e) v (ndD e) dd uu) (v : Value) :
    Tell w d (NR w.params font nd) v (ndD nd) (dd + 12) (uu + 200) := by
  intro fr0 fr td args hb sub hR
  obtain ⟨hi, hf⟩ := hR
  obtain ⟨ffs, tn, hfi, hfn⟩ := hf
  obtain ⟨x, rfl⟩ := nd_ref hi
  intro prog p loose mean mg mb A env outer A₀ base h₀ L m s Q E B F X N T hh hA hf hk hd hu ret; obtain ⟨hd0, dp, frm, gd, un⟩ := A; obtain ⟨hp0, gs0, dr0, tk0, os0⟩ := s; dsimp only at hh hA hd hu F N ret; subst hh hA; have hSt := StK.mk gs0 dr0 os0; (try simp only [List.cons_append, List.nil_append] at N)
  refine wpAny_call ?_; k_dflt (refine' code_def (binds := [(Str.ofString "node", .ref x), (Str.ofString "depth", .int d td)]) ?k1 ?k2 ?k3 ?k4 ?k5 ?kA ?kF ?kK ?k6 ?k7 ?k8 ?k9 ?kB ?_ ?c2 ?c3 ?c4 ?c5; (case kA => exact rfl); (case kF => first | assumption | exact rfl); (case kK => first | assumption | exact rfl); (case k1 => k_asm); (case k2 => k_asm); (case k3 => k_asm); (case k4 => k_asm); (case k5 => k_asm); (case k6 => k_is); (case k7 => k_is); (case k8 => (walk_at "my room")); (case k9 => rcases hb with rfl | ⟨rfl, rfl, rfl⟩ <;> first | exact BindsTo.of_eq rfl | exact binds_K (by k_in) rfl (by k_is) rfl rfl rfl); (case c5 => decide); (case kB => exact locs rfl); (case c2 => exact rfl); (case c3 => exact rfl); (case c4 => exact rfl); k_whole; intro g' L' h' FG' F' N' B' X' T'; (refine gen_tk fun tk1 => ?_); (try dsimp only at N'); (try dsimp only); (try k_fold))
  (k_steps; repeat' (first | ((with_reducible refine Halt.go ?_); (first | (k_here; (with_reducible show wpAny _ _ (eval (Expr.ListComp _ [⟨_, _, [], _⟩] _ _) _) _ _ _); k_dflt (refine comp_tup (F₀ := by k_asm) (by with_unfolding_all rfl) (by decide) (by rfl) (by decide) (by rfl) ?_)) | ((with_reducible show wpAny _ _ (call _ _) _ _ _); (first | (k_here; k_dflt (refine' CallsTo.useP (check_depth_calls _ _ _ ?p1v41) ?k1v41 ?k2v41 ?k3v41 ?k4v41 ?k5v41 ?kHv41 ?kAv41 ?kFv41 ?kKv41 ?kdv41 ?kuv41 ?_; (case k1v41 => k_asm); (case k2v41 => k_asm); (case k3v41 => k_asm); (case k4v41 => k_asm); (case k5v41 => k_asm); (case kHv41 => exact rfl); (case kAv41 => exact rfl); (case kFv41 => first | assumption | exact rfl); (case kKv41 => first | assumption | exact rfl); (case kdv41 => (walk_at "my room")); (case kuv41 => (walk_at "my room")); (case p1v41 => omega); k_whole; (intro h'q tk'q F'q N'q); (try k_sweep); (try k_fold))) | fail)) | fail); (all_goals k_steps)) | ((fail_if_success (with_reducible refine Halt.go ?_)); (first | (k_here; k_dflt (refine TupSrc.mk (by rfl) (by k_asm) (by k_asm) (by first | k_mem | repeat (first | assumption | apply List.Mem.tail)) (by rw [PySem.sizeLine_eq]; simp) ?_)) | fail); (all_goals k_steps))))
  refine nd_kind (by k_asm) (by k_asm) (by k_asm) hi sub (fun t => ?_)
  (k_steps; repeat' (first | ((with_reducible refine Halt.go ?_); (first | (k_here; (with_reducible show wpAny _ _ (eval (Expr.ListComp _ [⟨_, _, [], _⟩] _ _) _) _ _ _); k_dflt (refine comp_tup (F₀ := by k_asm) (by with_unfolding_all rfl) (by decide) (by rfl) (by decide) (by rfl) ?_)) | ((with_reducible show wpAny _ _ (call _ _) _ _ _); (first | (k_here; k_dflt (refine' CallsTo.useP (check_depth_calls _ _ _ ?p1v41) ?k1v41 ?k2v41 ?k3v41 ?k4v41 ?k5v41 ?kHv41 ?kAv41 ?kFv41 ?kKv41 ?kdv41 ?kuv41 ?_; (case k1v41 => k_asm); (case k2v41 => k_asm); (case k3v41 => k_asm); (case k4v41 => k_asm); (case k5v41 => k_asm); (case kHv41 => exact rfl); (case kAv41 => exact rfl); (case kFv41 => first | assumption | exact rfl); (case kKv41 => first | assumption | exact rfl); (case kdv41 => (walk_at "my room")); (case kuv41 => (walk_at "my room")); (case p1v41 => omega); k_whole; (intro h'q tk'q F'q N'q); (try k_sweep); (try k_fold))) | fail)) | fail); (all_goals k_steps)) | ((fail_if_success (with_reducible refine Halt.go ?_)); (first | (k_here; k_dflt (refine TupSrc.mk (by rfl) (by k_asm) (by k_asm) (by first | k_mem | repeat (first | assumption | apply List.Mem.tail)) (by rw [PySem.sizeLine_eq]; simp) ?_)) | fail); (all_goals k_steps))))
  · refine Exists.elim (inv0 (by assumption) hi) fun i hO23 => an3 hO23 fun e hz hc0 => ?_
    refine Exists.elim (hc0) fun tc hc => ?_
    refine own_read (by k_asm) (by k_asm) (by k_asm) hc (fun p hp => by repeat (first | exact sub p hp | refine List.Mem.tail _ ?_ | refine List.mem_append_right _ ?_)) rfl (by k_is) (by k_is) (by k_is) (by k_is) rfl ?_
    (k_steps; repeat' (first | ((with_reducible refine Halt.go ?_); (first | (k_here; (with_reducible show wpAny _ _ (eval (Expr.ListComp _ [⟨_, _, [], _⟩] _ _) _) _ _ _); k_dflt (refine comp_tup (F₀ := by k_asm) (by with_unfolding_all rfl) (by decide) (by rfl) (by decide) (by rfl) ?_)) | ((with_reducible show wpAny _ _ (call _ _) _ _ _); (first | (k_here; k_dflt (refine' CallsTo.useP (check_depth_calls _ _ _ ?p1v41) ?k1v41 ?k2v41 ?k3v41 ?k4v41 ?k5v41 ?kHv41 ?kAv41 ?kFv41 ?kKv41 ?kdv41 ?kuv41 ?_; (case k1v41 => k_asm); (case k2v41 => k_asm); (case k3v41 => k_asm); (case k4v41 => k_asm); (case k5v41 => k_asm); (case kHv41 => exact rfl); (case kAv41 => exact rfl); (case kFv41 => first | assumption | exact rfl); (case kKv41 => first | assumption | exact rfl); (case kdv41 => (walk_at "my room")); (case kuv41 => (walk_at "my room")); (case p1v41 => omega); k_whole; (intro h'q tk'q F'q N'q); (try k_sweep); (try k_fold))) | fail)) | fail); (all_goals k_steps)) | ((fail_if_success (with_reducible refine Halt.go ?_)); (first | (k_here; k_dflt (refine TupSrc.mk (by rfl) (by k_asm) (by k_asm) (by first | k_mem | repeat (first | assumption | apply List.Mem.tail)) (by rw [PySem.sizeLine_eq]; simp) ?_)) | fail); (all_goals k_steps))))
    refine own_read (by k_asm) (by k_asm) (by k_asm) hfi (fun p hp => by repeat (first | exact sub p hp | refine List.Mem.tail _ ?_ | refine List.mem_append_right _ ?_)) hfn (by k_is) (by k_is) (by k_is) (by k_is) rfl ?_
    (k_steps; repeat' (first | ((with_reducible refine Halt.go ?_); (first | (k_here; (with_reducible show wpAny _ _ (eval (Expr.ListComp _ [⟨_, _, [], _⟩] _ _) _) _ _ _); k_dflt (refine comp_tup (F₀ := by k_asm) (by with_unfolding_all rfl) (by decide) (by rfl) (by decide) (by rfl) ?_)) | ((with_reducible show wpAny _ _ (call _ _) _ _ _); (first | (k_here; k_dflt (refine' CallsTo.useP (check_depth_calls _ _ _ ?p1v41) ?k1v41 ?k2v41 ?k3v41 ?k4v41 ?k5v41 ?kHv41 ?kAv41 ?kFv41 ?kKv41 ?kdv41 ?kuv41 ?_; (case k1v41 => k_asm); (case k2v41 => k_asm); (case k3v41 => k_asm); (case k4v41 => k_asm); (case k5v41 => k_asm); (case kHv41 => exact rfl); (case kAv41 => exact rfl); (case kFv41 => first | assumption | exact rfl); (case kKv41 => first | assumption | exact rfl); (case kdv41 => (walk_at "my room")); (case kuv41 => (walk_at "my room")); (case p1v41 => omega); k_whole; (intro h'q tk'q F'q N'q); (try k_sweep); (try k_fold))) | fail)) | fail); (all_goals k_steps)) | ((fail_if_success (with_reducible refine Halt.go ?_)); (first | (k_here; k_dflt (refine TupSrc.mk (by rfl) (by k_asm) (by k_asm) (by first | k_mem | repeat (first | assumption | apply List.Mem.tail)) (by rw [PySem.sizeLine_eq]; simp) ?_)) | fail); (all_goals k_steps))))
    refine own_read (by k_asm) (by k_asm) (by k_asm) hc (fun p hp => by repeat (first | exact sub p hp | refine List.Mem.tail _ ?_ | refine List.mem_append_right _ ?_)) rfl (by k_is) (by k_is) (by k_is) (by k_is) rfl ?_
    (k_steps; repeat' (first | ((with_reducible refine Halt.go ?_); (first | (k_here; (with_reducible show wpAny _ _ (eval (Expr.ListComp _ [⟨_, _, [], _⟩] _ _) _) _ _ _); k_dflt (refine comp_tup (F₀ := by k_asm) (by with_unfolding_all rfl) (by decide) (by rfl) (by decide) (by rfl) ?_)) | ((with_reducible show wpAny _ _ (call _ _) _ _ _); (first | (k_here; k_dflt (refine' CallsTo.useP (check_depth_calls _ _ _ ?p1v41) ?k1v41 ?k2v41 ?k3v41 ?k4v41 ?k5v41 ?kHv41 ?kAv41 ?kFv41 ?kKv41 ?kdv41 ?kuv41 ?_; (case k1v41 => k_asm); (case k2v41 => k_asm); (case k3v41 => k_asm); (case k4v41 => k_asm); (case k5v41 => k_asm); (case kHv41 => exact rfl); (case kAv41 => exact rfl); (case kFv41 => first | assumption | exact rfl); (case kKv41 => first | assumption | exact rfl); (case kdv41 => (walk_at "my room")); (case kuv41 => (walk_at "my room")); (case p1v41 => omega); k_whole; (intro h'q tk'q F'q N'q); (try k_sweep); (try k_fold))) | fail)) | fail); (all_goals k_steps)) | ((fail_if_success (with_reducible refine Halt.go ?_)); (first | (k_here; k_dflt (refine TupSrc.mk (by rfl) (by k_asm) (by k_asm) (by first | k_mem | repeat (first | assumption | apply List.Mem.tail)) (by rw [PySem.sizeLine_eq]; simp) ?_)) | fail); (all_goals k_steps))))
    refine ret _ _ _ [] [_] (by k_asm) (by k_asm) (by walk_at "my ord") (And.intro rfl ?_)
    rw [e]
    show DatIn _ _ (if _ then _ else _)
    rw [if_neg hz]
    exact .tuple (.head _) (.cons (.int _ _) (.cons (.int _ _) (.cons (.int _ _) .nil)))
  · refine Exists.elim (inv1 (by assumption) hi) fun i hO25 => an3 hO25 fun e hz hc0 => ?_
    refine el5 (hc0) fun tc ta tb pa n hO26 => an2 hO26 fun hc hpa => ?_
    refine own_read (by k_asm) (by k_asm) (by k_asm) hc (fun p hp => by repeat (first | exact sub p hp | refine List.Mem.tail _ ?_ | refine List.mem_append_right _ ?_)) rfl (by k_is) (by k_is) (by k_is) (by k_is) rfl ?_
    (k_steps; repeat' (first | ((with_reducible refine Halt.go ?_); (first | (k_here; (with_reducible show wpAny _ _ (eval (Expr.ListComp _ [⟨_, _, [], _⟩] _ _) _) _ _ _); k_dflt (refine comp_tup (F₀ := by k_asm) (by with_unfolding_all rfl) (by decide) (by rfl) (by decide) (by rfl) ?_)) | ((with_reducible show wpAny _ _ (call _ _) _ _ _); (first | (k_here; k_dflt (refine' CallsTo.useP (check_depth_calls _ _ _ ?p1v41) ?k1v41 ?k2v41 ?k3v41 ?k4v41 ?k5v41 ?kHv41 ?kAv41 ?kFv41 ?kKv41 ?kdv41 ?kuv41 ?_; (case k1v41 => k_asm); (case k2v41 => k_asm); (case k3v41 => k_asm); (case k4v41 => k_asm); (case k5v41 => k_asm); (case kHv41 => exact rfl); (case kAv41 => exact rfl); (case kFv41 => first | assumption | exact rfl); (case kKv41 => first | assumption | exact rfl); (case kdv41 => (walk_at "my room")); (case kuv41 => (walk_at "my room")); (case p1v41 => omega); k_whole; (intro h'q tk'q F'q N'q); (try k_sweep); (try k_fold))) | fail)) | fail); (all_goals k_steps)) | ((fail_if_success (with_reducible refine Halt.go ?_)); (first | (k_here; k_dflt (refine TupSrc.mk (by rfl) (by k_asm) (by k_asm) (by first | k_mem | repeat (first | assumption | apply List.Mem.tail)) (by rw [PySem.sizeLine_eq]; simp) ?_)) | fail); (all_goals k_steps))))
    refine own_read (by k_asm) (by k_asm) (by k_asm) hfi (fun p hp => by repeat (first | exact sub p hp | refine List.Mem.tail _ ?_ | refine List.mem_append_right _ ?_)) hfn (by k_is) (by k_is) (by k_is) (by k_is) rfl ?_
    (k_steps; repeat' (first | ((with_reducible refine Halt.go ?_); (first | (k_here; (with_reducible show wpAny _ _ (eval (Expr.ListComp _ [⟨_, _, [], _⟩] _ _) _) _ _ _); k_dflt (refine comp_tup (F₀ := by k_asm) (by with_unfolding_all rfl) (by decide) (by rfl) (by decide) (by rfl) ?_)) | ((with_reducible show wpAny _ _ (call _ _) _ _ _); (first | (k_here; k_dflt (refine' CallsTo.useP (check_depth_calls _ _ _ ?p1v41) ?k1v41 ?k2v41 ?k3v41 ?k4v41 ?k5v41 ?kHv41 ?kAv41 ?kFv41 ?kKv41 ?kdv41 ?kuv41 ?_; (case k1v41 => k_asm); (case k2v41 => k_asm); (case k3v41 => k_asm); (case k4v41 => k_asm); (case k5v41 => k_asm); (case kHv41 => exact rfl); (case kAv41 => exact rfl); (case kFv41 => first | assumption | exact rfl); (case kKv41 => first | assumption | exact rfl); (case kdv41 => (walk_at "my room")); (case kuv41 => (walk_at "my room")); (case p1v41 => omega); k_whole; (intro h'q tk'q F'q N'q); (try k_sweep); (try k_fold))) | fail)) | fail); (all_goals k_steps)) | ((fail_if_success (with_reducible refine Halt.go ?_)); (first | (k_here; k_dflt (refine TupSrc.mk (by rfl) (by k_asm) (by k_asm) (by first | k_mem | repeat (first | assumption | apply List.Mem.tail)) (by rw [PySem.sizeLine_eq]; simp) ?_)) | fail); (all_goals k_steps))))
    refine own_read (by k_asm) (by k_asm) (by k_asm) hc (fun p hp => by repeat (first | exact sub p hp | refine List.Mem.tail _ ?_ | refine List.mem_append_right _ ?_)) rfl (by k_is) (by k_is) (by k_is) (by k_is) rfl ?_
    (k_steps; repeat' (first | ((with_reducible refine Halt.go ?_); (first | (k_here; (with_reducible show wpAny _ _ (eval (Expr.ListComp _ [⟨_, _, [], _⟩] _ _) _) _ _ _); k_dflt (refine comp_tup (F₀ := by k_asm) (by with_unfolding_all rfl) (by decide) (by rfl) (by decide) (by rfl) ?_)) | ((with_reducible show wpAny _ _ (call _ _) _ _ _); (first | (k_here; k_dflt (refine' CallsTo.useP (check_depth_calls _ _ _ ?p1v41) ?k1v41 ?k2v41 ?k3v41 ?k4v41 ?k5v41 ?kHv41 ?kAv41 ?kFv41 ?kKv41 ?kdv41 ?kuv41 ?_; (case k1v41 => k_asm); (case k2v41 => k_asm); (case k3v41 => k_asm); (case k4v41 => k_asm); (case k5v41 => k_asm); (case kHv41 => exact rfl); (case kAv41 => exact rfl); (case kFv41 => first | assumption | exact rfl); (case kKv41 => first | assumption | exact rfl); (case kdv41 => (walk_at "my room")); (case kuv41 => (walk_at "my room")); (case p1v41 => omega); k_whole; (intro h'q tk'q F'q N'q); (try k_sweep); (try k_fold))) | fail)) | fail); (all_goals k_steps)) | ((fail_if_success (with_reducible refine Halt.go ?_)); (first | (k_here; k_dflt (refine TupSrc.mk (by rfl) (by k_asm) (by k_asm) (by first | k_mem | repeat (first | assumption | apply List.Mem.tail)) (by rw [PySem.sizeLine_eq]; simp) ?_)) | fail); (all_goals k_steps))))
    refine own_read (by k_asm) (by k_asm) (by k_asm) hc (fun p hp => by repeat (first | exact sub p hp | refine List.Mem.tail _ ?_ | refine List.mem_append_right _ ?_)) rfl (by k_is) (by k_is) (by k_is) (by k_is) rfl ?_
    (k_steps; repeat' (first | ((with_reducible refine Halt.go ?_); (first | (k_here; (with_reducible show wpAny _ _ (eval (Expr.ListComp _ [⟨_, _, [], _⟩] _ _) _) _ _ _); k_dflt (refine comp_tup (F₀ := by k_asm) (by with_unfolding_all rfl) (by decide) (by rfl) (by decide) (by rfl) ?_)) | ((with_reducible show wpAny _ _ (call _ _) _ _ _); (first | (k_here; k_dflt (refine' CallsTo.useP (check_depth_calls _ _ _ ?p1v41) ?k1v41 ?k2v41 ?k3v41 ?k4v41 ?k5v41 ?kHv41 ?kAv41 ?kFv41 ?kKv41 ?kdv41 ?kuv41 ?_; (case k1v41 => k_asm); (case k2v41 => k_asm); (case k3v41 => k_asm); (case k4v41 => k_asm); (case k5v41 => k_asm); (case kHv41 => exact rfl); (case kAv41 => exact rfl); (case kFv41 => first | assumption | exact rfl); (case kKv41 => first | assumption | exact rfl); (case kdv41 => (walk_at "my room")); (case kuv41 => (walk_at "my room")); (case p1v41 => omega); k_whole; (intro h'q tk'q F'q N'q); (try k_sweep); (try k_fold))) | fail)) | fail); (all_goals k_steps)) | ((fail_if_success (with_reducible refine Halt.go ?_)); (first | (k_here; k_dflt (refine TupSrc.mk (by rfl) (by k_asm) (by k_asm) (by first | k_mem | repeat (first | assumption | apply List.Mem.tail)) (by rw [PySem.sizeLine_eq]; simp) ?_)) | fail); (all_goals k_steps))))
    refine own_read (by k_asm) (by k_asm) (by k_asm) hc (fun p hp => by repeat (first | exact sub p hp | refine List.Mem.tail _ ?_ | refine List.mem_append_right _ ?_)) rfl (by k_is) (by k_is) (by k_is) (by k_is) rfl ?_
    (k_steps; repeat' (first | ((with_reducible refine Halt.go ?_); (first | (k_here; (with_reducible show wpAny _ _ (eval (Expr.ListComp _ [⟨_, _, [], _⟩] _ _) _) _ _ _); k_dflt (refine comp_tup (F₀ := by k_asm) (by with_unfolding_all rfl) (by decide) (by rfl) (by decide) (by rfl) ?_)) | ((with_reducible show wpAny _ _ (call _ _) _ _ _); (first | (k_here; k_dflt (refine' CallsTo.useP (check_depth_calls _ _ _ ?p1v41) ?k1v41 ?k2v41 ?k3v41 ?k4v41 ?k5v41 ?kHv41 ?kAv41 ?kFv41 ?kKv41 ?kdv41 ?kuv41 ?_; (case k1v41 => k_asm); (case k2v41 => k_asm); (case k3v41 => k_asm); (case k4v41 => k_asm); (case k5v41 => k_asm); (case kHv41 => exact rfl); (case kAv41 => exact rfl); (case kFv41 => first | assumption | exact rfl); (case kKv41 => first | assumption | exact rfl); (case kdv41 => (walk_at "my room")); (case kuv41 => (walk_at "my room")); (case p1v41 => omega); k_whole; (intro h'q tk'q F'q N'q); (try k_sweep); (try k_fold))) | fail)) | fail); (all_goals k_steps)) | ((fail_if_success (with_reducible refine Halt.go ?_)); (first | (k_here; k_dflt (refine TupSrc.mk (by rfl) (by k_asm) (by k_asm) (by first | k_mem | repeat (first | assumption | apply List.Mem.tail)) (by rw [PySem.sizeLine_eq]; simp) ?_)) | fail); (all_goals k_steps))))
    refine own_read (by k_asm) (by k_asm) (by k_asm) hc (fun p hp => by repeat (first | exact sub p hp | refine List.Mem.tail _ ?_ | refine List.mem_append_right _ ?_)) rfl (by k_is) (by k_is) (by k_is) (by k_is) rfl ?_
    (k_steps; repeat' (first | ((with_reducible refine Halt.go ?_); (first | (k_here; (with_reducible show wpAny _ _ (eval (Expr.ListComp _ [⟨_, _, [], _⟩] _ _) _) _ _ _); k_dflt (refine comp_tup (F₀ := by k_asm) (by with_unfolding_all rfl) (by decide) (by rfl) (by decide) (by rfl) ?_)) | ((with_reducible show wpAny _ _ (call _ _) _ _ _); (first | (k_here; k_dflt (refine' CallsTo.useP (check_depth_calls _ _ _ ?p1v41) ?k1v41 ?k2v41 ?k3v41 ?k4v41 ?k5v41 ?kHv41 ?kAv41 ?kFv41 ?kKv41 ?kdv41 ?kuv41 ?_; (case k1v41 => k_asm); (case k2v41 => k_asm); (case k3v41 => k_asm); (case k4v41 => k_asm); (case k5v41 => k_asm); (case kHv41 => exact rfl); (case kAv41 => exact rfl); (case kFv41 => first | assumption | exact rfl); (case kKv41 => first | assumption | exact rfl); (case kdv41 => (walk_at "my room")); (case kuv41 => (walk_at "my room")); (case p1v41 => omega); k_whole; (intro h'q tk'q F'q N'q); (try k_sweep); (try k_fold))) | fail)) | fail); (all_goals k_steps)) | ((fail_if_success (with_reducible refine Halt.go ?_)); (first | (k_here; k_dflt (refine TupSrc.mk (by rfl) (by k_asm) (by k_asm) (by first | k_mem | repeat (first | assumption | apply List.Mem.tail)) (by rw [PySem.sizeLine_eq]; simp) ?_)) | fail); (all_goals k_steps))))
    refine ret _ _ _ [] [_] (by k_asm) (by k_asm) (by walk_at "my ord") (And.intro rfl ?_)
    rw [e]
    show DatIn _ _ (if _ then _ else _)
    rw [if_pos hz]
    exact .tuple (.head _) (.cons (.int _ _) (.cons (.int _ _) (.cons (.int _ _) (.cons (.tuple (List.mem_append_right _ hpa) (.cons (.int _ _) (.cons (.int _ _) .nil))) (.cons (.int _ _) (.cons (.int _ _) .nil))))))
  · refine el8 (inv2 (by assumption) hi) fun bw bsh bsg bod r1 r2 ps its hO27 => an5 hO27 fun hbx hps hdat hsub hlen => ?_
    refine el8 (hbx) fun t0 t1 t2 t3 t4 t5 t6 t7 hO28 => el5 hO28 fun t8 la lk ra rk hO29 => an3 hO29 fun hb hla hra => ?_
    have hk2 : nd.kind = 2 := by assumption
    refine own_read (by k_asm) (by k_asm) (by k_asm) hb (fun p hp => by repeat (first | exact sub p hp | refine List.Mem.tail _ ?_ | refine List.mem_append_right _ ?_)) rfl (by k_is) (by k_is) (by k_is) (by k_is) rfl ?_
    (k_steps; repeat' (first | ((with_reducible refine Halt.go ?_); (first | (k_here; (with_reducible show wpAny _ _ (eval (Expr.ListComp _ [⟨_, _, [], _⟩] _ _) _) _ _ _); k_dflt (refine comp_tup (F₀ := by k_asm) (by with_unfolding_all rfl) (by decide) (by rfl) (by decide) (by rfl) ?_)) | ((with_reducible show wpAny _ _ (call _ _) _ _ _); (first | (k_here; k_dflt (refine' CallsTo.useP (check_depth_calls _ _ _ ?p1v41) ?k1v41 ?k2v41 ?k3v41 ?k4v41 ?k5v41 ?kHv41 ?kAv41 ?kFv41 ?kKv41 ?kdv41 ?kuv41 ?_; (case k1v41 => k_asm); (case k2v41 => k_asm); (case k3v41 => k_asm); (case k4v41 => k_asm); (case k5v41 => k_asm); (case kHv41 => exact rfl); (case kAv41 => exact rfl); (case kFv41 => first | assumption | exact rfl); (case kKv41 => first | assumption | exact rfl); (case kdv41 => (walk_at "my room")); (case kuv41 => (walk_at "my room")); (case p1v41 => omega); k_whole; (intro h'q tk'q F'q N'q); (try k_sweep); (try k_fold))) | fail)) | fail); (all_goals k_steps)) | ((fail_if_success (with_reducible refine Halt.go ?_)); (first | (k_here; k_dflt (refine TupSrc.mk (by rfl) (by k_asm) (by k_asm) (by first | k_mem | repeat (first | assumption | apply List.Mem.tail)) (by rw [PySem.sizeLine_eq]; simp) ?_)) | fail); (all_goals k_steps))))
    refine own_read (by k_asm) (by k_asm) (by k_asm) hb (fun p hp => by repeat (first | exact sub p hp | refine List.Mem.tail _ ?_ | refine List.mem_append_right _ ?_)) rfl (by k_is) (by k_is) (by k_is) (by k_is) rfl ?_
    (k_steps; repeat' (first | ((with_reducible refine Halt.go ?_); (first | (k_here; (with_reducible show wpAny _ _ (eval (Expr.ListComp _ [⟨_, _, [], _⟩] _ _) _) _ _ _); k_dflt (refine comp_tup (F₀ := by k_asm) (by with_unfolding_all rfl) (by decide) (by rfl) (by decide) (by rfl) ?_)) | ((with_reducible show wpAny _ _ (call _ _) _ _ _); (first | (k_here; k_dflt (refine' CallsTo.useP (check_depth_calls _ _ _ ?p1v41) ?k1v41 ?k2v41 ?k3v41 ?k4v41 ?k5v41 ?kHv41 ?kAv41 ?kFv41 ?kKv41 ?kdv41 ?kuv41 ?_; (case k1v41 => k_asm); (case k2v41 => k_asm); (case k3v41 => k_asm); (case k4v41 => k_asm); (case k5v41 => k_asm); (case kHv41 => exact rfl); (case kAv41 => exact rfl); (case kFv41 => first | assumption | exact rfl); (case kKv41 => first | assumption | exact rfl); (case kdv41 => (walk_at "my room")); (case kuv41 => (walk_at "my room")); (case p1v41 => omega); k_whole; (intro h'q tk'q F'q N'q); (try k_sweep); (try k_fold))) | fail)) | fail); (all_goals k_steps)) | ((fail_if_success (with_reducible refine Halt.go ?_)); (first | (k_here; k_dflt (refine TupSrc.mk (by rfl) (by k_asm) (by k_asm) (by first | k_mem | repeat (first | assumption | apply List.Mem.tail)) (by rw [PySem.sizeLine_eq]; simp) ?_)) | fail); (all_goals k_steps))))
    refine own_read (by k_asm) (by k_asm) (by k_asm) hb (fun p hp => by repeat (first | exact sub p hp | refine List.Mem.tail _ ?_ | refine List.mem_append_right _ ?_)) rfl (by k_is) (by k_is) (by k_is) (by k_is) rfl ?_
    (k_steps; repeat' (first | ((with_reducible refine Halt.go ?_); (first | (k_here; (with_reducible show wpAny _ _ (eval (Expr.ListComp _ [⟨_, _, [], _⟩] _ _) _) _ _ _); k_dflt (refine comp_tup (F₀ := by k_asm) (by with_unfolding_all rfl) (by decide) (by rfl) (by decide) (by rfl) ?_)) | ((with_reducible show wpAny _ _ (call _ _) _ _ _); (first | (k_here; k_dflt (refine' CallsTo.useP (check_depth_calls _ _ _ ?p1v41) ?k1v41 ?k2v41 ?k3v41 ?k4v41 ?k5v41 ?kHv41 ?kAv41 ?kFv41 ?kKv41 ?kdv41 ?kuv41 ?_; (case k1v41 => k_asm); (case k2v41 => k_asm); (case k3v41 => k_asm); (case k4v41 => k_asm); (case k5v41 => k_asm); (case kHv41 => exact rfl); (case kAv41 => exact rfl); (case kFv41 => first | assumption | exact rfl); (case kKv41 => first | assumption | exact rfl); (case kdv41 => (walk_at "my room")); (case kuv41 => (walk_at "my room")); (case p1v41 => omega); k_whole; (intro h'q tk'q F'q N'q); (try k_sweep); (try k_fold))) | fail)) | fail); (all_goals k_steps)) | ((fail_if_success (with_reducible refine Halt.go ?_)); (first | (k_here; k_dflt (refine TupSrc.mk (by rfl) (by k_asm) (by k_asm) (by first | k_mem | repeat (first | assumption | apply List.Mem.tail)) (by rw [PySem.sizeLine_eq]; simp) ?_)) | fail); (all_goals k_steps))))
    refine own_read (by k_asm) (by k_asm) (by k_asm) hb (fun p hp => by repeat (first | exact sub p hp | refine List.Mem.tail _ ?_ | refine List.mem_append_right _ ?_)) rfl (by k_is) (by k_is) (by k_is) (by k_is) rfl ?_
    (k_steps; repeat' (first | ((with_reducible refine Halt.go ?_); (first | (k_here; (with_reducible show wpAny _ _ (eval (Expr.ListComp _ [⟨_, _, [], _⟩] _ _) _) _ _ _); k_dflt (refine comp_tup (F₀ := by k_asm) (by with_unfolding_all rfl) (by decide) (by rfl) (by decide) (by rfl) ?_)) | ((with_reducible show wpAny _ _ (call _ _) _ _ _); (first | (k_here; k_dflt (refine' CallsTo.useP (check_depth_calls _ _ _ ?p1v41) ?k1v41 ?k2v41 ?k3v41 ?k4v41 ?k5v41 ?kHv41 ?kAv41 ?kFv41 ?kKv41 ?kdv41 ?kuv41 ?_; (case k1v41 => k_asm); (case k2v41 => k_asm); (case k3v41 => k_asm); (case k4v41 => k_asm); (case k5v41 => k_asm); (case kHv41 => exact rfl); (case kAv41 => exact rfl); (case kFv41 => first | assumption | exact rfl); (case kKv41 => first | assumption | exact rfl); (case kdv41 => (walk_at "my room")); (case kuv41 => (walk_at "my room")); (case p1v41 => omega); k_whole; (intro h'q tk'q F'q N'q); (try k_sweep); (try k_fold))) | fail)) | fail); (all_goals k_steps)) | ((fail_if_success (with_reducible refine Halt.go ?_)); (first | (k_here; k_dflt (refine TupSrc.mk (by rfl) (by k_asm) (by k_asm) (by first | k_mem | repeat (first | assumption | apply List.Mem.tail)) (by rw [PySem.sizeLine_eq]; simp) ?_)) | fail); (all_goals k_steps))))
    refine own_read (by k_asm) (by k_asm) (by k_asm) hb (fun p hp => by repeat (first | exact sub p hp | refine List.Mem.tail _ ?_ | refine List.mem_append_right _ ?_)) rfl (by k_is) (by k_is) (by k_is) (by k_is) rfl ?_
    (k_steps; repeat' (first | ((with_reducible refine Halt.go ?_); (first | (k_here; (with_reducible show wpAny _ _ (eval (Expr.ListComp _ [⟨_, _, [], _⟩] _ _) _) _ _ _); k_dflt (refine comp_tup (F₀ := by k_asm) (by with_unfolding_all rfl) (by decide) (by rfl) (by decide) (by rfl) ?_)) | ((with_reducible show wpAny _ _ (call _ _) _ _ _); (first | (k_here; k_dflt (refine' CallsTo.useP (check_depth_calls _ _ _ ?p1v41) ?k1v41 ?k2v41 ?k3v41 ?k4v41 ?k5v41 ?kHv41 ?kAv41 ?kFv41 ?kKv41 ?kdv41 ?kuv41 ?_; (case k1v41 => k_asm); (case k2v41 => k_asm); (case k3v41 => k_asm); (case k4v41 => k_asm); (case k5v41 => k_asm); (case kHv41 => exact rfl); (case kAv41 => exact rfl); (case kFv41 => first | assumption | exact rfl); (case kKv41 => first | assumption | exact rfl); (case kdv41 => (walk_at "my room")); (case kuv41 => (walk_at "my room")); (case p1v41 => omega); k_whole; (intro h'q tk'q F'q N'q); (try k_sweep); (try k_fold))) | fail)) | fail); (all_goals k_steps)) | ((fail_if_success (with_reducible refine Halt.go ?_)); (first | (k_here; k_dflt (refine TupSrc.mk (by rfl) (by k_asm) (by k_asm) (by first | k_mem | repeat (first | assumption | apply List.Mem.tail)) (by rw [PySem.sizeLine_eq]; simp) ?_)) | fail); (all_goals k_steps))))
    refine own_read (by k_asm) (by k_asm) (by k_asm) hb (fun p hp => by repeat (first | exact sub p hp | refine List.Mem.tail _ ?_ | refine List.mem_append_right _ ?_)) rfl (by k_is) (by k_is) (by k_is) (by k_is) rfl ?_
    (k_steps; repeat' (first | ((with_reducible refine Halt.go ?_); (first | (k_here; (with_reducible show wpAny _ _ (eval (Expr.ListComp _ [⟨_, _, [], _⟩] _ _) _) _ _ _); k_dflt (refine comp_tup (F₀ := by k_asm) (by with_unfolding_all rfl) (by decide) (by rfl) (by decide) (by rfl) ?_)) | ((with_reducible show wpAny _ _ (call _ _) _ _ _); (first | (k_here; k_dflt (refine' CallsTo.useP (check_depth_calls _ _ _ ?p1v41) ?k1v41 ?k2v41 ?k3v41 ?k4v41 ?k5v41 ?kHv41 ?kAv41 ?kFv41 ?kKv41 ?kdv41 ?kuv41 ?_; (case k1v41 => k_asm); (case k2v41 => k_asm); (case k3v41 => k_asm); (case k4v41 => k_asm); (case k5v41 => k_asm); (case kHv41 => exact rfl); (case kAv41 => exact rfl); (case kFv41 => first | assumption | exact rfl); (case kKv41 => first | assumption | exact rfl); (case kdv41 => (walk_at "my room")); (case kuv41 => (walk_at "my room")); (case p1v41 => omega); k_whole; (intro h'q tk'q F'q N'q); (try k_sweep); (try k_fold))) | fail)) | fail); (all_goals k_steps)) | ((fail_if_success (with_reducible refine Halt.go ?_)); (first | (k_here; k_dflt (refine TupSrc.mk (by rfl) (by k_asm) (by k_asm) (by first | k_mem | repeat (first | assumption | apply List.Mem.tail)) (by rw [PySem.sizeLine_eq]; simp) ?_)) | fail); (all_goals k_steps))))
    refine own_read (by k_asm) (by k_asm) (by k_asm) hb (fun p hp => by repeat (first | exact sub p hp | refine List.Mem.tail _ ?_ | refine List.mem_append_right _ ?_)) rfl (by k_is) (by k_is) (by k_is) (by k_is) rfl ?_
    (k_steps; repeat' (first | ((with_reducible refine Halt.go ?_); (first | (k_here; (with_reducible show wpAny _ _ (eval (Expr.ListComp _ [⟨_, _, [], _⟩] _ _) _) _ _ _); k_dflt (refine comp_tup (F₀ := by k_asm) (by with_unfolding_all rfl) (by decide) (by rfl) (by decide) (by rfl) ?_)) | ((with_reducible show wpAny _ _ (call _ _) _ _ _); (first | (k_here; k_dflt (refine' CallsTo.useP (check_depth_calls _ _ _ ?p1v41) ?k1v41 ?k2v41 ?k3v41 ?k4v41 ?k5v41 ?kHv41 ?kAv41 ?kFv41 ?kKv41 ?kdv41 ?kuv41 ?_; (case k1v41 => k_asm); (case k2v41 => k_asm); (case k3v41 => k_asm); (case k4v41 => k_asm); (case k5v41 => k_asm); (case kHv41 => exact rfl); (case kAv41 => exact rfl); (case kFv41 => first | assumption | exact rfl); (case kKv41 => first | assumption | exact rfl); (case kdv41 => (walk_at "my room")); (case kuv41 => (walk_at "my room")); (case p1v41 => omega); k_whole; (intro h'q tk'q F'q N'q); (try k_sweep); (try k_fold))) | fail)) | fail); (all_goals k_steps)) | ((fail_if_success (with_reducible refine Halt.go ?_)); (first | (k_here; k_dflt (refine TupSrc.mk (by rfl) (by k_asm) (by k_asm) (by first | k_mem | repeat (first | assumption | apply List.Mem.tail)) (by rw [PySem.sizeLine_eq]; simp) ?_)) | fail); (all_goals k_steps))))
    refine own_read (by k_asm) (by k_asm) (by k_asm) hb (fun p hp => by repeat (first | exact sub p hp | refine List.Mem.tail _ ?_ | refine List.mem_append_right _ ?_)) rfl (by k_is) (by k_is) (by k_is) (by k_is) rfl ?_
    (k_steps; repeat' (first | ((with_reducible refine Halt.go ?_); (first | (k_here; (with_reducible show wpAny _ _ (eval (Expr.ListComp _ [⟨_, _, [], _⟩] _ _) _) _ _ _); k_dflt (refine comp_tup (F₀ := by k_asm) (by with_unfolding_all rfl) (by decide) (by rfl) (by decide) (by rfl) ?_)) | ((with_reducible show wpAny _ _ (call _ _) _ _ _); (first | (k_here; k_dflt (refine' CallsTo.useP (check_depth_calls _ _ _ ?p1v41) ?k1v41 ?k2v41 ?k3v41 ?k4v41 ?k5v41 ?kHv41 ?kAv41 ?kFv41 ?kKv41 ?kdv41 ?kuv41 ?_; (case k1v41 => k_asm); (case k2v41 => k_asm); (case k3v41 => k_asm); (case k4v41 => k_asm); (case k5v41 => k_asm); (case kHv41 => exact rfl); (case kAv41 => exact rfl); (case kFv41 => first | assumption | exact rfl); (case kKv41 => first | assumption | exact rfl); (case kdv41 => (walk_at "my room")); (case kuv41 => (walk_at "my room")); (case p1v41 => omega); k_whole; (intro h'q tk'q F'q N'q); (try k_sweep); (try k_fold))) | fail)) | fail); (all_goals k_steps)) | ((fail_if_success (with_reducible refine Halt.go ?_)); (first | (k_here; k_dflt (refine TupSrc.mk (by rfl) (by k_asm) (by k_asm) (by first | k_mem | repeat (first | assumption | apply List.Mem.tail)) (by rw [PySem.sizeLine_eq]; simp) ?_)) | fail); (all_goals k_steps))))
    rename News _ _ _ _ => Nq
    refine CallsTo.use0e (list_calls w (d + 1) (R := fun l v x => NR w.params font (ndOf x) l v) (fun s => NR.mono s) partD dd uu la lk its ps (fun v x hx => ndD_of x ▸ H (ndOf x) (hsub x hx) v) _ fr0 _ (fun p hp => by repeat (first | exact sub p hp | refine List.Mem.tail _ ?_ | refine List.mem_append_right _ ?_)) hla (hps.mono fun _ _ h => ⟨NdIn_of h, ffs, tn, hfi, hfn⟩) hlen) (by k_asm) (by k_asm) (by k_asm) Nq (by k_asm) (by exact rfl) (by exact rfl) (by first | assumption | exact rfl) (by first | assumption | exact rfl) (by (walk_at "my room")) (by (walk_at "my room")) ?_
    intro r9 h9 tk9 tl9 F9 N9 lt9 hp9
    (try dsimp only)
    (k_steps; repeat' (first | ((with_reducible refine Halt.go ?_); (first | (k_here; (with_reducible show wpAny _ _ (eval (Expr.ListComp _ [⟨_, _, [], _⟩] _ _) _) _ _ _); k_dflt (refine comp_tup (F₀ := by k_asm) (by with_unfolding_all rfl) (by decide) (by rfl) (by decide) (by rfl) ?_)) | ((with_reducible show wpAny _ _ (call _ _) _ _ _); (first | (k_here; k_dflt (refine' CallsTo.useP (check_depth_calls _ _ _ ?p1v41) ?k1v41 ?k2v41 ?k3v41 ?k4v41 ?k5v41 ?kHv41 ?kAv41 ?kFv41 ?kKv41 ?kdv41 ?kuv41 ?_; (case k1v41 => k_asm); (case k2v41 => k_asm); (case k3v41 => k_asm); (case k4v41 => k_asm); (case k5v41 => k_asm); (case kHv41 => exact rfl); (case kAv41 => exact rfl); (case kFv41 => first | assumption | exact rfl); (case kKv41 => first | assumption | exact rfl); (case kdv41 => (walk_at "my room")); (case kuv41 => (walk_at "my room")); (case p1v41 => omega); k_whole; (intro h'q tk'q F'q N'q); (try k_sweep); (try k_fold))) | fail)) | fail); (all_goals k_steps)) | ((fail_if_success (with_reducible refine Halt.go ?_)); (first | (k_here; k_dflt (refine TupSrc.mk (by rfl) (by k_asm) (by k_asm) (by first | k_mem | repeat (first | assumption | apply List.Mem.tail)) (by rw [PySem.sizeLine_eq]; simp) ?_)) | fail); (all_goals k_steps))))
    have Nt := idNews (by k_asm)
    refine kde_addT (by k_asm) Nt (News.isTup Nt (.tail _ (List.mem_append_right _ (.head _)))) (News.isTup Nt (.head _)) (by simp) (by simp) (by simp) rfl ?_
    intro D3 h3 F3 N3 l3
    (k_steps; repeat' (first | ((with_reducible refine Halt.go ?_); (first | (k_here; (with_reducible show wpAny _ _ (eval (Expr.ListComp _ [⟨_, _, [], _⟩] _ _) _) _ _ _); k_dflt (refine comp_tup (F₀ := by k_asm) (by with_unfolding_all rfl) (by decide) (by rfl) (by decide) (by rfl) ?_)) | ((with_reducible show wpAny _ _ (call _ _) _ _ _); (first | (k_here; k_dflt (refine' CallsTo.useP (check_depth_calls _ _ _ ?p1v41) ?k1v41 ?k2v41 ?k3v41 ?k4v41 ?k5v41 ?kHv41 ?kAv41 ?kFv41 ?kKv41 ?kdv41 ?kuv41 ?_; (case k1v41 => k_asm); (case k2v41 => k_asm); (case k3v41 => k_asm); (case k4v41 => k_asm); (case k5v41 => k_asm); (case kHv41 => exact rfl); (case kAv41 => exact rfl); (case kFv41 => first | assumption | exact rfl); (case kKv41 => first | assumption | exact rfl); (case kdv41 => (walk_at "my room")); (case kuv41 => (walk_at "my room")); (case p1v41 => omega); k_whole; (intro h'q tk'q F'q N'q); (try k_sweep); (try k_fold))) | fail)) | fail); (all_goals k_steps)) | ((fail_if_success (with_reducible refine Halt.go ?_)); (first | (k_here; k_dflt (refine TupSrc.mk (by rfl) (by k_asm) (by k_asm) (by first | k_mem | repeat (first | assumption | apply List.Mem.tail)) (by rw [PySem.sizeLine_eq]; simp) ?_)) | fail); (all_goals k_steps))))
    refine node_fin_box ret (by k_asm) (by k_asm) l3 (lt_of_lt (idL1 (by assumption)) (fun p hp => List.mem_append_right _ (.tail _ (.tail _ (.tail _ hp))))) lt9 (off1_lt (by assumption : _ ∧ _ ∧ AllLt _ fr).2.2) (off1_lt (by assumption : _ ∧ AllLt _ fr).2) (lt_of_lt (idL1 (by assumption)) (fun _ h => h))
      (And.intro rfl ?_)
    rw [hdat]
    exact (.tuple (.head _) (.cons (datsI hk2 rfl) (.cons (.int _ _) (.cons (.int _ _) (.cons (.int _ _) (.cons (.int _ _) (.cons (.int _ _) (.cons (.int _ _) (.cons (.tuple (List.mem_append_right _ hra) (.cons (.int _ _) (.cons (.int _ _) .nil))) (.cons (dat_up hp9 fun p hp => (List.mem_append.mp hp).elim (fun h => List.mem_append_left _ (.tail _ (.tail _ (List.mem_append_left _ h)))) fun h => List.mem_append_right _ h) .nil))))))))))
  · exact (inv3 (by assumption)).elim
  · refine el2 (inv4 (by assumption) hi) fun ow od hO30 => an2 hO30 fun hr0 hdat => ?_
    refine el3 (hr0) fun wv t2 dv hO31 => an3 hO31 fun hW hD hr => ?_
    refine own_read (by k_asm) (by k_asm) (by k_asm) hr (fun p hp => by repeat (first | exact sub p hp | refine List.Mem.tail _ ?_ | refine List.mem_append_right _ ?_)) rfl (by k_is) (by k_is) (by k_is) (by k_is) hW.handed ?_
    (k_steps; repeat' (first | ((with_reducible refine Halt.go ?_); (first | (k_here; (with_reducible show wpAny _ _ (eval (Expr.ListComp _ [⟨_, _, [], _⟩] _ _) _) _ _ _); k_dflt (refine comp_tup (F₀ := by k_asm) (by with_unfolding_all rfl) (by decide) (by rfl) (by decide) (by rfl) ?_)) | ((with_reducible show wpAny _ _ (call _ _) _ _ _); (first | (k_here; k_dflt (refine' CallsTo.useP (check_depth_calls _ _ _ ?p1v41) ?k1v41 ?k2v41 ?k3v41 ?k4v41 ?k5v41 ?kHv41 ?kAv41 ?kFv41 ?kKv41 ?kdv41 ?kuv41 ?_; (case k1v41 => k_asm); (case k2v41 => k_asm); (case k3v41 => k_asm); (case k4v41 => k_asm); (case k5v41 => k_asm); (case kHv41 => exact rfl); (case kAv41 => exact rfl); (case kFv41 => first | assumption | exact rfl); (case kKv41 => first | assumption | exact rfl); (case kdv41 => (walk_at "my room")); (case kuv41 => (walk_at "my room")); (case p1v41 => omega); k_whole; (intro h'q tk'q F'q N'q); (try k_sweep); (try k_fold))) | fail)) | fail); (all_goals k_steps)) | ((fail_if_success (with_reducible refine Halt.go ?_)); (first | (k_here; k_dflt (refine TupSrc.mk (by rfl) (by k_asm) (by k_asm) (by first | k_mem | repeat (first | assumption | apply List.Mem.tail)) (by rw [PySem.sizeLine_eq]; simp) ?_)) | fail); (all_goals k_steps))))
    refine own_read (by k_asm) (by k_asm) (by k_asm) hr (fun p hp => by repeat (first | exact sub p hp | refine List.Mem.tail _ ?_ | refine List.mem_append_right _ ?_)) rfl (by k_is) (by k_is) (by k_is) (by k_is) rfl ?_
    (k_steps; repeat' (first | ((with_reducible refine Halt.go ?_); (first | (k_here; (with_reducible show wpAny _ _ (eval (Expr.ListComp _ [⟨_, _, [], _⟩] _ _) _) _ _ _); k_dflt (refine comp_tup (F₀ := by k_asm) (by with_unfolding_all rfl) (by decide) (by rfl) (by decide) (by rfl) ?_)) | ((with_reducible show wpAny _ _ (call _ _) _ _ _); (first | (k_here; k_dflt (refine' CallsTo.useP (check_depth_calls _ _ _ ?p1v41) ?k1v41 ?k2v41 ?k3v41 ?k4v41 ?k5v41 ?kHv41 ?kAv41 ?kFv41 ?kKv41 ?kdv41 ?kuv41 ?_; (case k1v41 => k_asm); (case k2v41 => k_asm); (case k3v41 => k_asm); (case k4v41 => k_asm); (case k5v41 => k_asm); (case kHv41 => exact rfl); (case kAv41 => exact rfl); (case kFv41 => first | assumption | exact rfl); (case kKv41 => first | assumption | exact rfl); (case kdv41 => (walk_at "my room")); (case kuv41 => (walk_at "my room")); (case p1v41 => omega); k_whole; (intro h'q tk'q F'q N'q); (try k_sweep); (try k_fold))) | fail)) | fail); (all_goals k_steps)) | ((fail_if_success (with_reducible refine Halt.go ?_)); (first | (k_here; k_dflt (refine TupSrc.mk (by rfl) (by k_asm) (by k_asm) (by first | k_mem | repeat (first | assumption | apply List.Mem.tail)) (by rw [PySem.sizeLine_eq]; simp) ?_)) | fail); (all_goals k_steps))))
    refine own_read (by k_asm) (by k_asm) (by k_asm) hr (fun p hp => by repeat (first | exact sub p hp | refine List.Mem.tail _ ?_ | refine List.mem_append_right _ ?_)) rfl (by k_is) (by k_is) (by k_is) (by k_is) hD.handed ?_
    (k_steps; repeat' (first | ((with_reducible refine Halt.go ?_); (first | (k_here; (with_reducible show wpAny _ _ (eval (Expr.ListComp _ [⟨_, _, [], _⟩] _ _) _) _ _ _); k_dflt (refine comp_tup (F₀ := by k_asm) (by with_unfolding_all rfl) (by decide) (by rfl) (by decide) (by rfl) ?_)) | ((with_reducible show wpAny _ _ (call _ _) _ _ _); (first | (k_here; k_dflt (refine' CallsTo.useP (check_depth_calls _ _ _ ?p1v41) ?k1v41 ?k2v41 ?k3v41 ?k4v41 ?k5v41 ?kHv41 ?kAv41 ?kFv41 ?kKv41 ?kdv41 ?kuv41 ?_; (case k1v41 => k_asm); (case k2v41 => k_asm); (case k3v41 => k_asm); (case k4v41 => k_asm); (case k5v41 => k_asm); (case kHv41 => exact rfl); (case kAv41 => exact rfl); (case kFv41 => first | assumption | exact rfl); (case kKv41 => first | assumption | exact rfl); (case kdv41 => (walk_at "my room")); (case kuv41 => (walk_at "my room")); (case p1v41 => omega); k_whole; (intro h'q tk'q F'q N'q); (try k_sweep); (try k_fold))) | fail)) | fail); (all_goals k_steps)) | ((fail_if_success (with_reducible refine Halt.go ?_)); (first | (k_here; k_dflt (refine TupSrc.mk (by rfl) (by k_asm) (by k_asm) (by first | k_mem | repeat (first | assumption | apply List.Mem.tail)) (by rw [PySem.sizeLine_eq]; simp) ?_)) | fail); (all_goals k_steps))))
    refine Halt.go (fun gz => ?_)
    refine comp_grow (R := fun tl v o => DatIn tl v (optD o)) (fun s => DatIn.mono s) (src := [ow, some 3, od]) rfl (fun tl => List.mem_append_right _ (.head _)) ?turn ?fin
    case turn =>
      intro i u o ys I oI C oC D m₂ h tk E' fr2 hb hvi hC hx2 F2 sub2 N2 off3 ne3
      have hu : WidthV u o := by
        match i, hb, hvi with
        | 0, hb, hvi => cases hb; cases hvi; exact hW
        | 1, hb, hvi => cases hb; cases hvi; exact ⟨_, rfl⟩
        | 2, hb, hvi => cases hb; cases hvi; exact hD
        | i + 3, hb, hvi => simp at hb
      clear sub2
      cases o with
      | none =>
        obtain rfl : u = .none := hu
        (k_steps; repeat' (first | ((with_reducible refine Halt.go ?_); (first | (k_here; (with_reducible show wpAny _ _ (eval (Expr.ListComp _ [⟨_, _, [], _⟩] _ _) _) _ _ _); k_dflt (refine comp_tup (F₀ := by k_asm) (by with_unfolding_all rfl) (by decide) (by rfl) (by decide) (by rfl) ?_)) | ((with_reducible show wpAny _ _ (call _ _) _ _ _); (first | (k_here; k_dflt (refine' CallsTo.useP (check_depth_calls _ _ _ ?p1v41) ?k1v41 ?k2v41 ?k3v41 ?k4v41 ?k5v41 ?kHv41 ?kAv41 ?kFv41 ?kKv41 ?kdv41 ?kuv41 ?_; (case k1v41 => k_asm); (case k2v41 => k_asm); (case k3v41 => k_asm); (case k4v41 => k_asm); (case k5v41 => k_asm); (case kHv41 => exact rfl); (case kAv41 => exact rfl); (case kFv41 => first | assumption | exact rfl); (case kKv41 => first | assumption | exact rfl); (case kdv41 => (walk_at "my room")); (case kuv41 => (walk_at "my room")); (case p1v41 => omega); k_whole; (intro h'q tk'q F'q N'q); (try k_sweep); (try k_fold))) | fail)) | fail); (all_goals k_steps)) | ((fail_if_success (with_reducible refine Halt.go ?_)); (first | (k_here; k_dflt (refine TupSrc.mk (by rfl) (by k_asm) (by k_asm) (by first | k_mem | repeat (first | assumption | apply List.Mem.tail)) (by rw [PySem.sizeLine_eq]; simp) ?_)) | fail); (all_goals k_steps))))
        exact GrowTurn.mk (tl' := [_]) (by k_asm) (by k_asm) (by walk_at "my ord") (.tuple (.head _) .nil)
      | some j =>
        obtain ⟨tj, rfl⟩ := (id hu : ∃ t, u = .int j t)
        (k_steps; repeat' (first | ((with_reducible refine Halt.go ?_); (first | (k_here; (with_reducible show wpAny _ _ (eval (Expr.ListComp _ [⟨_, _, [], _⟩] _ _) _) _ _ _); k_dflt (refine comp_tup (F₀ := by k_asm) (by with_unfolding_all rfl) (by decide) (by rfl) (by decide) (by rfl) ?_)) | ((with_reducible show wpAny _ _ (call _ _) _ _ _); (first | (k_here; k_dflt (refine' CallsTo.useP (check_depth_calls _ _ _ ?p1v41) ?k1v41 ?k2v41 ?k3v41 ?k4v41 ?k5v41 ?kHv41 ?kAv41 ?kFv41 ?kKv41 ?kdv41 ?kuv41 ?_; (case k1v41 => k_asm); (case k2v41 => k_asm); (case k3v41 => k_asm); (case k4v41 => k_asm); (case k5v41 => k_asm); (case kHv41 => exact rfl); (case kAv41 => exact rfl); (case kFv41 => first | assumption | exact rfl); (case kKv41 => first | assumption | exact rfl); (case kdv41 => (walk_at "my room")); (case kuv41 => (walk_at "my room")); (case p1v41 => omega); k_whole; (intro h'q tk'q F'q N'q); (try k_sweep); (try k_fold))) | fail)) | fail); (all_goals k_steps)) | ((fail_if_success (with_reducible refine Halt.go ?_)); (first | (k_here; k_dflt (refine TupSrc.mk (by rfl) (by k_asm) (by k_asm) (by first | k_mem | repeat (first | assumption | apply List.Mem.tail)) (by rw [PySem.sizeLine_eq]; simp) ?_)) | fail); (all_goals k_steps))))
        exact GrowTurn.mk (tl' := [_]) (by k_asm) (by k_asm) (by walk_at "my ord") (.tuple (.head _) (.cons (.int _ _) .nil))
    case fin =>
      intro ys tl hx2 lt
      obtain _ | ⟨hy1, hx2⟩ := hx2
      obtain _ | ⟨hy2, hx2⟩ := hx2
      obtain _ | ⟨hy3, hx2⟩ := hx2
      obtain _ | _ := hx2
      unfold LCg.FinE
      intro Dm hm2 tkm Fm Nm om
      (try dsimp only)
      (k_steps; repeat' (first | ((with_reducible refine Halt.go ?_); (first | (k_here; (with_reducible show wpAny _ _ (eval (Expr.ListComp _ [⟨_, _, [], _⟩] _ _) _) _ _ _); k_dflt (refine comp_tup (F₀ := by k_asm) (by with_unfolding_all rfl) (by decide) (by rfl) (by decide) (by rfl) ?_)) | ((with_reducible show wpAny _ _ (call _ _) _ _ _); (first | (k_here; k_dflt (refine' CallsTo.useP (check_depth_calls _ _ _ ?p1v41) ?k1v41 ?k2v41 ?k3v41 ?k4v41 ?k5v41 ?kHv41 ?kAv41 ?kFv41 ?kKv41 ?kdv41 ?kuv41 ?_; (case k1v41 => k_asm); (case k2v41 => k_asm); (case k3v41 => k_asm); (case k4v41 => k_asm); (case k5v41 => k_asm); (case kHv41 => exact rfl); (case kAv41 => exact rfl); (case kFv41 => first | assumption | exact rfl); (case kKv41 => first | assumption | exact rfl); (case kdv41 => (walk_at "my room")); (case kuv41 => (walk_at "my room")); (case p1v41 => omega); k_whole; (intro h'q tk'q F'q N'q); (try k_sweep); (try k_fold))) | fail)) | fail); (all_goals k_steps)) | ((fail_if_success (with_reducible refine Halt.go ?_)); (first | (k_here; k_dflt (refine TupSrc.mk (by rfl) (by k_asm) (by k_asm) (by first | k_mem | repeat (first | assumption | apply List.Mem.tail)) (by rw [PySem.sizeLine_eq]; simp) ?_)) | fail); (all_goals k_steps))))
      have Nt := idNews (by k_asm)
      refine kde_addT (by k_asm) Nt (News.isTup Nt (.tail _ (.tail _ (List.mem_append_right _ (.tail _ (.head _)))))) (News.isTup Nt (.head _)) (by simp) (by simp) (by simp) rfl ?_
      intro D3 h3 F3 N3 l3
      (k_steps; repeat' (first | ((with_reducible refine Halt.go ?_); (first | (k_here; (with_reducible show wpAny _ _ (eval (Expr.ListComp _ [⟨_, _, [], _⟩] _ _) _) _ _ _); k_dflt (refine comp_tup (F₀ := by k_asm) (by with_unfolding_all rfl) (by decide) (by rfl) (by decide) (by rfl) ?_)) | ((with_reducible show wpAny _ _ (call _ _) _ _ _); (first | (k_here; k_dflt (refine' CallsTo.useP (check_depth_calls _ _ _ ?p1v41) ?k1v41 ?k2v41 ?k3v41 ?k4v41 ?k5v41 ?kHv41 ?kAv41 ?kFv41 ?kKv41 ?kdv41 ?kuv41 ?_; (case k1v41 => k_asm); (case k2v41 => k_asm); (case k3v41 => k_asm); (case k4v41 => k_asm); (case k5v41 => k_asm); (case kHv41 => exact rfl); (case kAv41 => exact rfl); (case kFv41 => first | assumption | exact rfl); (case kKv41 => first | assumption | exact rfl); (case kdv41 => (walk_at "my room")); (case kuv41 => (walk_at "my room")); (case p1v41 => omega); k_whole; (intro h'q tk'q F'q N'q); (try k_sweep); (try k_fold))) | fail)) | fail); (all_goals k_steps)) | ((fail_if_success (with_reducible refine Halt.go ?_)); (first | (k_here; k_dflt (refine TupSrc.mk (by rfl) (by k_asm) (by k_asm) (by first | k_mem | repeat (first | assumption | apply List.Mem.tail)) (by rw [PySem.sizeLine_eq]; simp) ?_)) | fail); (all_goals k_steps))))
      refine node_fin_rule ret (by k_asm) (by k_asm) (lt_of_lt l3 fun p hp => .tail _ (.tail _ (List.mem_append_right _ (.tail _ (.tail _ hp))))) (off1_sub (off1_lt (by assumption : _ ∧ AllLt _ (tl ++ _)).2) fun p hp => List.mem_append_right _ (.tail _ (.tail _ hp))) (off1_sub om fun p hp => List.mem_append_right _ (.tail _ (.tail _ hp))) lt (off1_lt (by assumption : _ ∧ AllLt _ fr).2) (lt_of_lt (idL1 (by assumption)) fun _ h => h) (And.intro rfl ?_)
      rw [hdat]
      exact .tuple (.head _) (.cons (.int _ _) (.cons (dat_up5 hy1) (.cons (dat_up5 hy2) (.cons (dat_up5 hy3) .nil))))
  · refine Exists.elim (inv5 (by assumption) hi) fun kw hO32 => an2 hO32 fun e hk0 => ?_
    refine el2 (hk0) fun t1 t2 hk => ?_
    refine own_read (by k_asm) (by k_asm) (by k_asm) hk (fun p hp => by repeat (first | exact sub p hp | refine List.Mem.tail _ ?_ | refine List.mem_append_right _ ?_)) rfl (by k_is) (by k_is) (by k_is) (by k_is) rfl ?_
    (k_steps; repeat' (first | ((with_reducible refine Halt.go ?_); (first | (k_here; (with_reducible show wpAny _ _ (eval (Expr.ListComp _ [⟨_, _, [], _⟩] _ _) _) _ _ _); k_dflt (refine comp_tup (F₀ := by k_asm) (by with_unfolding_all rfl) (by decide) (by rfl) (by decide) (by rfl) ?_)) | ((with_reducible show wpAny _ _ (call _ _) _ _ _); (first | (k_here; k_dflt (refine' CallsTo.useP (check_depth_calls _ _ _ ?p1v41) ?k1v41 ?k2v41 ?k3v41 ?k4v41 ?k5v41 ?kHv41 ?kAv41 ?kFv41 ?kKv41 ?kdv41 ?kuv41 ?_; (case k1v41 => k_asm); (case k2v41 => k_asm); (case k3v41 => k_asm); (case k4v41 => k_asm); (case k5v41 => k_asm); (case kHv41 => exact rfl); (case kAv41 => exact rfl); (case kFv41 => first | assumption | exact rfl); (case kKv41 => first | assumption | exact rfl); (case kdv41 => (walk_at "my room")); (case kuv41 => (walk_at "my room")); (case p1v41 => omega); k_whole; (intro h'q tk'q F'q N'q); (try k_sweep); (try k_fold))) | fail)) | fail); (all_goals k_steps)) | ((fail_if_success (with_reducible refine Halt.go ?_)); (first | (k_here; k_dflt (refine TupSrc.mk (by rfl) (by k_asm) (by k_asm) (by first | k_mem | repeat (first | assumption | apply List.Mem.tail)) (by rw [PySem.sizeLine_eq]; simp) ?_)) | fail); (all_goals k_steps))))
    refine own_read (by k_asm) (by k_asm) (by k_asm) hk (fun p hp => by repeat (first | exact sub p hp | refine List.Mem.tail _ ?_ | refine List.mem_append_right _ ?_)) rfl (by k_is) (by k_is) (by k_is) (by k_is) rfl ?_
    (k_steps; repeat' (first | ((with_reducible refine Halt.go ?_); (first | (k_here; (with_reducible show wpAny _ _ (eval (Expr.ListComp _ [⟨_, _, [], _⟩] _ _) _) _ _ _); k_dflt (refine comp_tup (F₀ := by k_asm) (by with_unfolding_all rfl) (by decide) (by rfl) (by decide) (by rfl) ?_)) | ((with_reducible show wpAny _ _ (call _ _) _ _ _); (first | (k_here; k_dflt (refine' CallsTo.useP (check_depth_calls _ _ _ ?p1v41) ?k1v41 ?k2v41 ?k3v41 ?k4v41 ?k5v41 ?kHv41 ?kAv41 ?kFv41 ?kKv41 ?kdv41 ?kuv41 ?_; (case k1v41 => k_asm); (case k2v41 => k_asm); (case k3v41 => k_asm); (case k4v41 => k_asm); (case k5v41 => k_asm); (case kHv41 => exact rfl); (case kAv41 => exact rfl); (case kFv41 => first | assumption | exact rfl); (case kKv41 => first | assumption | exact rfl); (case kdv41 => (walk_at "my room")); (case kuv41 => (walk_at "my room")); (case p1v41 => omega); k_whole; (intro h'q tk'q F'q N'q); (try k_sweep); (try k_fold))) | fail)) | fail); (all_goals k_steps)) | ((fail_if_success (with_reducible refine Halt.go ?_)); (first | (k_here; k_dflt (refine TupSrc.mk (by rfl) (by k_asm) (by k_asm) (by first | k_mem | repeat (first | assumption | apply List.Mem.tail)) (by rw [PySem.sizeLine_eq]; simp) ?_)) | fail); (all_goals k_steps))))
    exact ret _ _ _ [] [_] (by k_asm) (by k_asm) (by walk_at "my ord") (And.intro rfl (dat_eq e (.tuple (.head _) (.cons (.int _ _) (.cons (.int _ _) (.cons (.int _ _) .nil))))))
  · refine el5 (inv6 (by assumption) hi) fun sn gw st so sh hO34 => Exists.elim hO34 fun ho hO35 => an2 hO35 fun e hs0 => ?_
    refine el3 (hs0) fun gv lv tg hO36 => an3 hO36 fun hg hs hl => ?_
    refine Exists.elim (GlueIn.isRef hg) fun g eg => ?_
    subst eg
    refine el5 (id hg) fun gt1 gt2 gt3 gt4 gt5 hgi => ?_
    have H2 : sn = true → Nd.rule none (some 0) ∈ Sub nd := fun es => by rw [e, es]; exact .head _
    cases sn with
    | false =>
      simp only [Bool.false_eq_true, if_false] at hl hs
      obtain rfl : lv = .none := hl
      refine own_read (by k_asm) (by k_asm) (by k_asm) hs (fun p hp => by repeat (first | exact sub p hp | refine List.Mem.tail _ ?_ | refine List.mem_append_right _ ?_)) rfl (by k_is) (by k_is) (by k_is) (by k_is) rfl ?_
      (k_steps; repeat' (first | ((with_reducible refine Halt.go ?_); (first | (k_here; (with_reducible show wpAny _ _ (eval (Expr.ListComp _ [⟨_, _, [], _⟩] _ _) _) _ _ _); k_dflt (refine comp_tup (F₀ := by k_asm) (by with_unfolding_all rfl) (by decide) (by rfl) (by decide) (by rfl) ?_)) | ((with_reducible show wpAny _ _ (call _ _) _ _ _); (first | (k_here; k_dflt (refine' CallsTo.useP (check_depth_calls _ _ _ ?p1v41) ?k1v41 ?k2v41 ?k3v41 ?k4v41 ?k5v41 ?kHv41 ?kAv41 ?kFv41 ?kKv41 ?kdv41 ?kuv41 ?_; (case k1v41 => k_asm); (case k2v41 => k_asm); (case k3v41 => k_asm); (case k4v41 => k_asm); (case k5v41 => k_asm); (case kHv41 => exact rfl); (case kAv41 => exact rfl); (case kFv41 => first | assumption | exact rfl); (case kKv41 => first | assumption | exact rfl); (case kdv41 => (walk_at "my room")); (case kuv41 => (walk_at "my room")); (case p1v41 => omega); k_whole; (intro h'q tk'q F'q N'q); (try k_sweep); (try k_fold))) | fail)) | fail); (all_goals k_steps)) | ((fail_if_success (with_reducible refine Halt.go ?_)); (first | (k_here; k_dflt (refine TupSrc.mk (by rfl) (by k_asm) (by k_asm) (by first | k_mem | repeat (first | assumption | apply List.Mem.tail)) (by rw [PySem.sizeLine_eq]; simp) ?_)) | fail); (all_goals k_steps))))
      refine meth_read (by k_asm) (by k_asm) (by k_asm) hgi sub rfl (by k_is) (by k_is) (by k_is) ?_
      (k_steps; repeat' (first | ((with_reducible refine Halt.go ?_); (first | (k_here; (with_reducible show wpAny _ _ (eval (Expr.ListComp _ [⟨_, _, [], _⟩] _ _) _) _ _ _); k_dflt (refine comp_tup (F₀ := by k_asm) (by with_unfolding_all rfl) (by decide) (by rfl) (by decide) (by rfl) ?_)) | ((with_reducible show wpAny _ _ (call _ _) _ _ _); (first | (k_here; k_dflt (refine' CallsTo.useP (check_depth_calls _ _ _ ?p1v41) ?k1v41 ?k2v41 ?k3v41 ?k4v41 ?k5v41 ?kHv41 ?kAv41 ?kFv41 ?kKv41 ?kdv41 ?kuv41 ?_; (case k1v41 => k_asm); (case k2v41 => k_asm); (case k3v41 => k_asm); (case k4v41 => k_asm); (case k5v41 => k_asm); (case kHv41 => exact rfl); (case kAv41 => exact rfl); (case kFv41 => first | assumption | exact rfl); (case kKv41 => first | assumption | exact rfl); (case kdv41 => (walk_at "my room")); (case kuv41 => (walk_at "my room")); (case p1v41 => omega); k_whole; (intro h'q tk'q F'q N'q); (try k_sweep); (try k_fold))) | fail)) | fail); (all_goals k_steps)) | ((fail_if_success (with_reducible refine Halt.go ?_)); (first | (k_here; k_dflt (refine TupSrc.mk (by rfl) (by k_asm) (by k_asm) (by first | k_mem | repeat (first | assumption | apply List.Mem.tail)) (by rw [PySem.sizeLine_eq]; simp) ?_)) | fail); (all_goals k_steps))))
      rename News _ _ _ _ => Nq
      refine CallsTo.use0e (parts_calls w _ _ _ _ _ _ fr0 _ sub hg) (by k_asm) (by k_asm) (by k_asm) Nq (by k_asm) (by exact rfl) (by exact rfl) (by first | assumption | exact rfl) (by first | assumption | exact rfl) (by (walk_at "my room")) (by (walk_at "my room")) ?_
      intro r9 h9 tk9 tl9 F9 N9 lt9 hp9
      (try dsimp only)
      (k_steps; repeat' (first | ((with_reducible refine Halt.go ?_); (first | (k_here; (with_reducible show wpAny _ _ (eval (Expr.ListComp _ [⟨_, _, [], _⟩] _ _) _) _ _ _); k_dflt (refine comp_tup (F₀ := by k_asm) (by with_unfolding_all rfl) (by decide) (by rfl) (by decide) (by rfl) ?_)) | ((with_reducible show wpAny _ _ (call _ _) _ _ _); (first | (k_here; k_dflt (refine' CallsTo.useP (check_depth_calls _ _ _ ?p1v41) ?k1v41 ?k2v41 ?k3v41 ?k4v41 ?k5v41 ?kHv41 ?kAv41 ?kFv41 ?kKv41 ?kdv41 ?kuv41 ?_; (case k1v41 => k_asm); (case k2v41 => k_asm); (case k3v41 => k_asm); (case k4v41 => k_asm); (case k5v41 => k_asm); (case kHv41 => exact rfl); (case kAv41 => exact rfl); (case kFv41 => first | assumption | exact rfl); (case kKv41 => first | assumption | exact rfl); (case kdv41 => (walk_at "my room")); (case kuv41 => (walk_at "my room")); (case p1v41 => omega); k_whole; (intro h'q tk'q F'q N'q); (try k_sweep); (try k_fold))) | fail)) | fail); (all_goals k_steps)) | ((fail_if_success (with_reducible refine Halt.go ?_)); (first | (k_here; k_dflt (refine TupSrc.mk (by rfl) (by k_asm) (by k_asm) (by first | k_mem | repeat (first | assumption | apply List.Mem.tail)) (by rw [PySem.sizeLine_eq]; simp) ?_)) | fail); (all_goals k_steps))))
      refine own_read (by k_asm) (by k_asm) (by k_asm) hs (fun p hp => by repeat (first | exact sub p hp | refine List.Mem.tail _ ?_ | refine List.mem_append_right _ ?_)) rfl (by k_is) (by k_is) (by k_is) (by k_is) rfl ?_
      (k_steps; repeat' (first | ((with_reducible refine Halt.go ?_); (first | (k_here; (with_reducible show wpAny _ _ (eval (Expr.ListComp _ [⟨_, _, [], _⟩] _ _) _) _ _ _); k_dflt (refine comp_tup (F₀ := by k_asm) (by with_unfolding_all rfl) (by decide) (by rfl) (by decide) (by rfl) ?_)) | ((with_reducible show wpAny _ _ (call _ _) _ _ _); (first | (k_here; k_dflt (refine' CallsTo.useP (check_depth_calls _ _ _ ?p1v41) ?k1v41 ?k2v41 ?k3v41 ?k4v41 ?k5v41 ?kHv41 ?kAv41 ?kFv41 ?kKv41 ?kdv41 ?kuv41 ?_; (case k1v41 => k_asm); (case k2v41 => k_asm); (case k3v41 => k_asm); (case k4v41 => k_asm); (case k5v41 => k_asm); (case kHv41 => exact rfl); (case kAv41 => exact rfl); (case kFv41 => first | assumption | exact rfl); (case kKv41 => first | assumption | exact rfl); (case kdv41 => (walk_at "my room")); (case kuv41 => (walk_at "my room")); (case p1v41 => omega); k_whole; (intro h'q tk'q F'q N'q); (try k_sweep); (try k_fold))) | fail)) | fail); (all_goals k_steps)) | ((fail_if_success (with_reducible refine Halt.go ?_)); (first | (k_here; k_dflt (refine TupSrc.mk (by rfl) (by k_asm) (by k_asm) (by first | k_mem | repeat (first | assumption | apply List.Mem.tail)) (by rw [PySem.sizeLine_eq]; simp) ?_)) | fail); (all_goals k_steps))))
      refine own_read (by k_asm) (by k_asm) (by k_asm) hs (fun p hp => by repeat (first | exact sub p hp | refine List.Mem.tail _ ?_ | refine List.mem_append_right _ ?_)) rfl (by k_is) (by k_is) (by k_is) (by k_is) rfl ?_
      (k_steps; repeat' (first | ((with_reducible refine Halt.go ?_); (first | (k_here; (with_reducible show wpAny _ _ (eval (Expr.ListComp _ [⟨_, _, [], _⟩] _ _) _) _ _ _); k_dflt (refine comp_tup (F₀ := by k_asm) (by with_unfolding_all rfl) (by decide) (by rfl) (by decide) (by rfl) ?_)) | ((with_reducible show wpAny _ _ (call _ _) _ _ _); (first | (k_here; k_dflt (refine' CallsTo.useP (check_depth_calls _ _ _ ?p1v41) ?k1v41 ?k2v41 ?k3v41 ?k4v41 ?k5v41 ?kHv41 ?kAv41 ?kFv41 ?kKv41 ?kdv41 ?kuv41 ?_; (case k1v41 => k_asm); (case k2v41 => k_asm); (case k3v41 => k_asm); (case k4v41 => k_asm); (case k5v41 => k_asm); (case kHv41 => exact rfl); (case kAv41 => exact rfl); (case kFv41 => first | assumption | exact rfl); (case kKv41 => first | assumption | exact rfl); (case kdv41 => (walk_at "my room")); (case kuv41 => (walk_at "my room")); (case p1v41 => omega); k_whole; (intro h'q tk'q F'q N'q); (try k_sweep); (try k_fold))) | fail)) | fail); (all_goals k_steps)) | ((fail_if_success (with_reducible refine Halt.go ?_)); (first | (k_here; k_dflt (refine TupSrc.mk (by rfl) (by k_asm) (by k_asm) (by first | k_mem | repeat (first | assumption | apply List.Mem.tail)) (by rw [PySem.sizeLine_eq]; simp) ?_)) | fail); (all_goals k_steps))))
      exact node_fin_e ret (by k_asm) (by k_asm) (off1_sub (off1_lt (by assumption : _ ∧ AllLt _ (tl9 ++ fr)).2) fun p hp => List.mem_append_right _ hp) (lt_of_lt (idL1 (by assumption)) fun p hp => List.mem_append_right _ hp) lt9 (And.intro rfl (dat_eq e (.tuple (.head _) (.cons (.int _ _) (.cons (dat_up hp9 fun p hp => (List.mem_append.mp hp).elim (fun h => List.mem_append_left _ (.tail _ (.tail _ h))) fun h => List.mem_append_right _ h) (.cons (.int _ _) (.cons (.tuple (List.mem_append_left _ (.tail _ (.head _))) .nil) .nil)))))))
    | true =>
      simp only [if_true] at hl hs
      obtain ⟨lr, rfl⟩ := (id hl : RuleIn _ _ _ _ _).isRef
      refine own_read (by k_asm) (by k_asm) (by k_asm) hs (fun p hp => by repeat (first | exact sub p hp | refine List.Mem.tail _ ?_ | refine List.mem_append_right _ ?_)) rfl (by k_is) (by k_is) (by k_is) (by k_is) rfl ?_
      (k_steps; repeat' (first | ((with_reducible refine Halt.go ?_); (first | (k_here; (with_reducible show wpAny _ _ (eval (Expr.ListComp _ [⟨_, _, [], _⟩] _ _) _) _ _ _); k_dflt (refine comp_tup (F₀ := by k_asm) (by with_unfolding_all rfl) (by decide) (by rfl) (by decide) (by rfl) ?_)) | ((with_reducible show wpAny _ _ (call _ _) _ _ _); (first | (k_here; k_dflt (refine' CallsTo.useP (check_depth_calls _ _ _ ?p1v41) ?k1v41 ?k2v41 ?k3v41 ?k4v41 ?k5v41 ?kHv41 ?kAv41 ?kFv41 ?kKv41 ?kdv41 ?kuv41 ?_; (case k1v41 => k_asm); (case k2v41 => k_asm); (case k3v41 => k_asm); (case k4v41 => k_asm); (case k5v41 => k_asm); (case kHv41 => exact rfl); (case kAv41 => exact rfl); (case kFv41 => first | assumption | exact rfl); (case kKv41 => first | assumption | exact rfl); (case kdv41 => (walk_at "my room")); (case kuv41 => (walk_at "my room")); (case p1v41 => omega); k_whole; (intro h'q tk'q F'q N'q); (try k_sweep); (try k_fold))) | fail)) | fail); (all_goals k_steps)) | ((fail_if_success (with_reducible refine Halt.go ?_)); (first | (k_here; k_dflt (refine TupSrc.mk (by rfl) (by k_asm) (by k_asm) (by first | k_mem | repeat (first | assumption | apply List.Mem.tail)) (by rw [PySem.sizeLine_eq]; simp) ?_)) | fail); (all_goals k_steps))))
      refine meth_read (by k_asm) (by k_asm) (by k_asm) hgi sub rfl (by k_is) (by k_is) (by k_is) ?_
      (k_steps; repeat' (first | ((with_reducible refine Halt.go ?_); (first | (k_here; (with_reducible show wpAny _ _ (eval (Expr.ListComp _ [⟨_, _, [], _⟩] _ _) _) _ _ _); k_dflt (refine comp_tup (F₀ := by k_asm) (by with_unfolding_all rfl) (by decide) (by rfl) (by decide) (by rfl) ?_)) | ((with_reducible show wpAny _ _ (call _ _) _ _ _); (first | (k_here; k_dflt (refine' CallsTo.useP (check_depth_calls _ _ _ ?p1v41) ?k1v41 ?k2v41 ?k3v41 ?k4v41 ?k5v41 ?kHv41 ?kAv41 ?kFv41 ?kKv41 ?kdv41 ?kuv41 ?_; (case k1v41 => k_asm); (case k2v41 => k_asm); (case k3v41 => k_asm); (case k4v41 => k_asm); (case k5v41 => k_asm); (case kHv41 => exact rfl); (case kAv41 => exact rfl); (case kFv41 => first | assumption | exact rfl); (case kKv41 => first | assumption | exact rfl); (case kdv41 => (walk_at "my room")); (case kuv41 => (walk_at "my room")); (case p1v41 => omega); k_whole; (intro h'q tk'q F'q N'q); (try k_sweep); (try k_fold))) | fail)) | fail); (all_goals k_steps)) | ((fail_if_success (with_reducible refine Halt.go ?_)); (first | (k_here; k_dflt (refine TupSrc.mk (by rfl) (by k_asm) (by k_asm) (by first | k_mem | repeat (first | assumption | apply List.Mem.tail)) (by rw [PySem.sizeLine_eq]; simp) ?_)) | fail); (all_goals k_steps))))
      rename News _ _ _ _ => Nq
      refine CallsTo.use0e (parts_calls w _ _ _ _ _ _ fr0 _ sub hg) (by k_asm) (by k_asm) (by k_asm) Nq (by k_asm) (by exact rfl) (by exact rfl) (by first | assumption | exact rfl) (by first | assumption | exact rfl) (by (walk_at "my room")) (by (walk_at "my room")) ?_
      intro r9 h9 tk9 tl9 F9 N9 lt9 hp9
      (try dsimp only)
      (k_steps; repeat' (first | ((with_reducible refine Halt.go ?_); (first | (k_here; (with_reducible show wpAny _ _ (eval (Expr.ListComp _ [⟨_, _, [], _⟩] _ _) _) _ _ _); k_dflt (refine comp_tup (F₀ := by k_asm) (by with_unfolding_all rfl) (by decide) (by rfl) (by decide) (by rfl) ?_)) | ((with_reducible show wpAny _ _ (call _ _) _ _ _); (first | (k_here; k_dflt (refine' CallsTo.useP (check_depth_calls _ _ _ ?p1v41) ?k1v41 ?k2v41 ?k3v41 ?k4v41 ?k5v41 ?kHv41 ?kAv41 ?kFv41 ?kKv41 ?kdv41 ?kuv41 ?_; (case k1v41 => k_asm); (case k2v41 => k_asm); (case k3v41 => k_asm); (case k4v41 => k_asm); (case k5v41 => k_asm); (case kHv41 => exact rfl); (case kAv41 => exact rfl); (case kFv41 => first | assumption | exact rfl); (case kKv41 => first | assumption | exact rfl); (case kdv41 => (walk_at "my room")); (case kuv41 => (walk_at "my room")); (case p1v41 => omega); k_whole; (intro h'q tk'q F'q N'q); (try k_sweep); (try k_fold))) | fail)) | fail); (all_goals k_steps)) | ((fail_if_success (with_reducible refine Halt.go ?_)); (first | (k_here; k_dflt (refine TupSrc.mk (by rfl) (by k_asm) (by k_asm) (by first | k_mem | repeat (first | assumption | apply List.Mem.tail)) (by rw [PySem.sizeLine_eq]; simp) ?_)) | fail); (all_goals k_steps))))
      refine own_read (by k_asm) (by k_asm) (by k_asm) hs (fun p hp => by repeat (first | exact sub p hp | refine List.Mem.tail _ ?_ | refine List.mem_append_right _ ?_)) rfl (by k_is) (by k_is) (by k_is) (by k_is) rfl ?_
      (k_steps; repeat' (first | ((with_reducible refine Halt.go ?_); (first | (k_here; (with_reducible show wpAny _ _ (eval (Expr.ListComp _ [⟨_, _, [], _⟩] _ _) _) _ _ _); k_dflt (refine comp_tup (F₀ := by k_asm) (by with_unfolding_all rfl) (by decide) (by rfl) (by decide) (by rfl) ?_)) | ((with_reducible show wpAny _ _ (call _ _) _ _ _); (first | (k_here; k_dflt (refine' CallsTo.useP (check_depth_calls _ _ _ ?p1v41) ?k1v41 ?k2v41 ?k3v41 ?k4v41 ?k5v41 ?kHv41 ?kAv41 ?kFv41 ?kKv41 ?kdv41 ?kuv41 ?_; (case k1v41 => k_asm); (case k2v41 => k_asm); (case k3v41 => k_asm); (case k4v41 => k_asm); (case k5v41 => k_asm); (case kHv41 => exact rfl); (case kAv41 => exact rfl); (case kFv41 => first | assumption | exact rfl); (case kKv41 => first | assumption | exact rfl); (case kdv41 => (walk_at "my room")); (case kuv41 => (walk_at "my room")); (case p1v41 => omega); k_whole; (intro h'q tk'q F'q N'q); (try k_sweep); (try k_fold))) | fail)) | fail); (all_goals k_steps)) | ((fail_if_success (with_reducible refine Halt.go ?_)); (first | (k_here; k_dflt (refine TupSrc.mk (by rfl) (by k_asm) (by k_asm) (by first | k_mem | repeat (first | assumption | apply List.Mem.tail)) (by rw [PySem.sizeLine_eq]; simp) ?_)) | fail); (all_goals k_steps))))
      refine own_read (by k_asm) (by k_asm) (by k_asm) hs (fun p hp => by repeat (first | exact sub p hp | refine List.Mem.tail _ ?_ | refine List.mem_append_right _ ?_)) rfl (by k_is) (by k_is) (by k_is) (by k_is) rfl ?_
      (k_steps; repeat' (first | ((with_reducible refine Halt.go ?_); (first | (k_here; (with_reducible show wpAny _ _ (eval (Expr.ListComp _ [⟨_, _, [], _⟩] _ _) _) _ _ _); k_dflt (refine comp_tup (F₀ := by k_asm) (by with_unfolding_all rfl) (by decide) (by rfl) (by decide) (by rfl) ?_)) | ((with_reducible show wpAny _ _ (call _ _) _ _ _); (first | (k_here; k_dflt (refine' CallsTo.useP (check_depth_calls _ _ _ ?p1v41) ?k1v41 ?k2v41 ?k3v41 ?k4v41 ?k5v41 ?kHv41 ?kAv41 ?kFv41 ?kKv41 ?kdv41 ?kuv41 ?_; (case k1v41 => k_asm); (case k2v41 => k_asm); (case k3v41 => k_asm); (case k4v41 => k_asm); (case k5v41 => k_asm); (case kHv41 => exact rfl); (case kAv41 => exact rfl); (case kFv41 => first | assumption | exact rfl); (case kKv41 => first | assumption | exact rfl); (case kdv41 => (walk_at "my room")); (case kuv41 => (walk_at "my room")); (case p1v41 => omega); k_whole; (intro h'q tk'q F'q N'q); (try k_sweep); (try k_fold))) | fail)) | fail); (all_goals k_steps)) | ((fail_if_success (with_reducible refine Halt.go ?_)); (first | (k_here; k_dflt (refine TupSrc.mk (by rfl) (by k_asm) (by k_asm) (by first | k_mem | repeat (first | assumption | apply List.Mem.tail)) (by rw [PySem.sizeLine_eq]; simp) ?_)) | fail); (all_goals k_steps))))
      refine own_read (by k_asm) (by k_asm) (by k_asm) hs (fun p hp => by repeat (first | exact sub p hp | refine List.Mem.tail _ ?_ | refine List.mem_append_right _ ?_)) rfl (by k_is) (by k_is) (by k_is) (by k_is) rfl ?_
      (k_steps; repeat' (first | ((with_reducible refine Halt.go ?_); (first | (k_here; (with_reducible show wpAny _ _ (eval (Expr.ListComp _ [⟨_, _, [], _⟩] _ _) _) _ _ _); k_dflt (refine comp_tup (F₀ := by k_asm) (by with_unfolding_all rfl) (by decide) (by rfl) (by decide) (by rfl) ?_)) | ((with_reducible show wpAny _ _ (call _ _) _ _ _); (first | (k_here; k_dflt (refine' CallsTo.useP (check_depth_calls _ _ _ ?p1v41) ?k1v41 ?k2v41 ?k3v41 ?k4v41 ?k5v41 ?kHv41 ?kAv41 ?kFv41 ?kKv41 ?kdv41 ?kuv41 ?_; (case k1v41 => k_asm); (case k2v41 => k_asm); (case k3v41 => k_asm); (case k4v41 => k_asm); (case k5v41 => k_asm); (case kHv41 => exact rfl); (case kAv41 => exact rfl); (case kFv41 => first | assumption | exact rfl); (case kKv41 => first | assumption | exact rfl); (case kdv41 => (walk_at "my room")); (case kuv41 => (walk_at "my room")); (case p1v41 => omega); k_whole; (intro h'q tk'q F'q N'q); (try k_sweep); (try k_fold))) | fail)) | fail); (all_goals k_steps)) | ((fail_if_success (with_reducible refine Halt.go ?_)); (first | (k_here; k_dflt (refine TupSrc.mk (by rfl) (by k_asm) (by k_asm) (by first | k_mem | repeat (first | assumption | apply List.Mem.tail)) (by rw [PySem.sizeLine_eq]; simp) ?_)) | fail); (all_goals k_steps))))
      have Nr := idNews (by k_asm)
      refine CallsTo.use0e (H (.rule none (some 0)) (H2 rfl) (.ref lr) fr0 _ _ _ (.inl rfl) (fun p hp => List.mem_append_right _ (sub p hp)) ⟨hl, ffs, tn, hfi, hfn⟩) (by k_asm) (by k_asm) (by k_asm) Nr (by k_asm) (by exact rfl) (by exact rfl) (by first | assumption | exact rfl) (by first | assumption | exact rfl) (by (walk_at "my room")) (by (walk_at "my room")) ?_
      intro r8 h8 tk8 tl8 F8 N8 lt8 hp8
      (try dsimp only)
      (k_steps; repeat' (first | ((with_reducible refine Halt.go ?_); (first | (k_here; (with_reducible show wpAny _ _ (eval (Expr.ListComp _ [⟨_, _, [], _⟩] _ _) _) _ _ _); k_dflt (refine comp_tup (F₀ := by k_asm) (by with_unfolding_all rfl) (by decide) (by rfl) (by decide) (by rfl) ?_)) | ((with_reducible show wpAny _ _ (call _ _) _ _ _); (first | (k_here; k_dflt (refine' CallsTo.useP (check_depth_calls _ _ _ ?p1v41) ?k1v41 ?k2v41 ?k3v41 ?k4v41 ?k5v41 ?kHv41 ?kAv41 ?kFv41 ?kKv41 ?kdv41 ?kuv41 ?_; (case k1v41 => k_asm); (case k2v41 => k_asm); (case k3v41 => k_asm); (case k4v41 => k_asm); (case k5v41 => k_asm); (case kHv41 => exact rfl); (case kAv41 => exact rfl); (case kFv41 => first | assumption | exact rfl); (case kKv41 => first | assumption | exact rfl); (case kdv41 => (walk_at "my room")); (case kuv41 => (walk_at "my room")); (case p1v41 => omega); k_whole; (intro h'q tk'q F'q N'q); (try k_sweep); (try k_fold))) | fail)) | fail); (all_goals k_steps)) | ((fail_if_success (with_reducible refine Halt.go ?_)); (first | (k_here; k_dflt (refine TupSrc.mk (by rfl) (by k_asm) (by k_asm) (by first | k_mem | repeat (first | assumption | apply List.Mem.tail)) (by rw [PySem.sizeLine_eq]; simp) ?_)) | fail); (all_goals k_steps))))
      exact node_fin_t2 ret (by k_asm) (by k_asm) (idL1 (by assumption)) lt9 lt8 (And.intro rfl (dat_eq e (.tuple (.head _) (.cons (.int _ _) (.cons (dat_up hp9 fun p hp => (List.mem_append.mp hp).elim (fun h => List.mem_append_left _ (.tail _ (List.mem_append_right _ h))) fun h => List.mem_append_right _ h) (.cons (.int _ _) (.cons (dat_up hp8 fun p hp => (List.mem_append.mp hp).elim (fun h => List.mem_append_left _ (.tail _ (List.mem_append_left _ h))) fun h => List.mem_append_right _ h) .nil)))))))
  · refine an2 (inv7 (by assumption) hi) fun e hk0 => ?_
    refine Exists.elim (hk0) fun t1 hk => ?_
    refine own_read (by k_asm) (by k_asm) (by k_asm) hk (fun p hp => by repeat (first | exact sub p hp | refine List.Mem.tail _ ?_ | refine List.mem_append_right _ ?_)) rfl (by k_is) (by k_is) (by k_is) (by k_is) rfl ?_
    (k_steps; repeat' (first | ((with_reducible refine Halt.go ?_); (first | (k_here; (with_reducible show wpAny _ _ (eval (Expr.ListComp _ [⟨_, _, [], _⟩] _ _) _) _ _ _); k_dflt (refine comp_tup (F₀ := by k_asm) (by with_unfolding_all rfl) (by decide) (by rfl) (by decide) (by rfl) ?_)) | ((with_reducible show wpAny _ _ (call _ _) _ _ _); (first | (k_here; k_dflt (refine' CallsTo.useP (check_depth_calls _ _ _ ?p1v41) ?k1v41 ?k2v41 ?k3v41 ?k4v41 ?k5v41 ?kHv41 ?kAv41 ?kFv41 ?kKv41 ?kdv41 ?kuv41 ?_; (case k1v41 => k_asm); (case k2v41 => k_asm); (case k3v41 => k_asm); (case k4v41 => k_asm); (case k5v41 => k_asm); (case kHv41 => exact rfl); (case kAv41 => exact rfl); (case kFv41 => first | assumption | exact rfl); (case kKv41 => first | assumption | exact rfl); (case kdv41 => (walk_at "my room")); (case kuv41 => (walk_at "my room")); (case p1v41 => omega); k_whole; (intro h'q tk'q F'q N'q); (try k_sweep); (try k_fold))) | fail)) | fail); (all_goals k_steps)) | ((fail_if_success (with_reducible refine Halt.go ?_)); (first | (k_here; k_dflt (refine TupSrc.mk (by rfl) (by k_asm) (by k_asm) (by first | k_mem | repeat (first | assumption | apply List.Mem.tail)) (by rw [PySem.sizeLine_eq]; simp) ?_)) | fail); (all_goals k_steps))))
    exact ret _ _ _ [] [_] (by k_asm) (by k_asm) (by walk_at "my ord") (And.intro rfl (dat_eq e (.tuple (.head _) (.cons (.int _ _) (.cons (.int _ _) .nil)))))
  · refine an2 (inv9 (by assumption) hi) fun e hk0 => ?_
    refine el5 (hk0) fun ta tb n k t1 hO40 => Exists.elim hO40 fun t2 hO41 => an3 hO41 fun hk hta htb => ?_
    refine own_read (by k_asm) (by k_asm) (by k_asm) hk (fun p hp => by repeat (first | exact sub p hp | refine List.Mem.tail _ ?_ | refine List.mem_append_right _ ?_)) rfl (by k_is) (by k_is) (by k_is) (by k_is) rfl ?_
    (k_steps; repeat' (first | ((with_reducible refine Halt.go ?_); (first | (k_here; (with_reducible show wpAny _ _ (eval (Expr.ListComp _ [⟨_, _, [], _⟩] _ _) _) _ _ _); k_dflt (refine comp_tup (F₀ := by k_asm) (by with_unfolding_all rfl) (by decide) (by rfl) (by decide) (by rfl) ?_)) | ((with_reducible show wpAny _ _ (call _ _) _ _ _); (first | (k_here; k_dflt (refine' CallsTo.useP (check_depth_calls _ _ _ ?p1v41) ?k1v41 ?k2v41 ?k3v41 ?k4v41 ?k5v41 ?kHv41 ?kAv41 ?kFv41 ?kKv41 ?kdv41 ?kuv41 ?_; (case k1v41 => k_asm); (case k2v41 => k_asm); (case k3v41 => k_asm); (case k4v41 => k_asm); (case k5v41 => k_asm); (case kHv41 => exact rfl); (case kAv41 => exact rfl); (case kFv41 => first | assumption | exact rfl); (case kKv41 => first | assumption | exact rfl); (case kdv41 => (walk_at "my room")); (case kuv41 => (walk_at "my room")); (case p1v41 => omega); k_whole; (intro h'q tk'q F'q N'q); (try k_sweep); (try k_fold))) | fail)) | fail); (all_goals k_steps)) | ((fail_if_success (with_reducible refine Halt.go ?_)); (first | (k_here; k_dflt (refine TupSrc.mk (by rfl) (by k_asm) (by k_asm) (by first | k_mem | repeat (first | assumption | apply List.Mem.tail)) (by rw [PySem.sizeLine_eq]; simp) ?_)) | fail); (all_goals k_steps))))
    exact ret _ _ _ [] [_] (by k_asm) (by k_asm) (by walk_at "my ord") (And.intro rfl (dat_eq e (.tuple (.head _) (.cons (.int _ _) (.cons (.tuple (List.mem_append_right _ hta) (.cons (.tuple (List.mem_append_right _ htb) (.cons (.int _ _) (.cons (.int _ _) .nil))) .nil)) .nil)))))
  · refine Exists.elim (inv12 (by assumption) hi) fun ew hO42 => an2 hO42 fun e hk0 => ?_
    refine Exists.elim (hk0) fun t1 hk => ?_
    refine own_read (by k_asm) (by k_asm) (by k_asm) hk (fun p hp => by repeat (first | exact sub p hp | refine List.Mem.tail _ ?_ | refine List.mem_append_right _ ?_)) rfl (by k_is) (by k_is) (by k_is) (by k_is) rfl ?_
    (k_steps; repeat' (first | ((with_reducible refine Halt.go ?_); (first | (k_here; (with_reducible show wpAny _ _ (eval (Expr.ListComp _ [⟨_, _, [], _⟩] _ _) _) _ _ _); k_dflt (refine comp_tup (F₀ := by k_asm) (by with_unfolding_all rfl) (by decide) (by rfl) (by decide) (by rfl) ?_)) | ((with_reducible show wpAny _ _ (call _ _) _ _ _); (first | (k_here; k_dflt (refine' CallsTo.useP (check_depth_calls _ _ _ ?p1v41) ?k1v41 ?k2v41 ?k3v41 ?k4v41 ?k5v41 ?kHv41 ?kAv41 ?kFv41 ?kKv41 ?kdv41 ?kuv41 ?_; (case k1v41 => k_asm); (case k2v41 => k_asm); (case k3v41 => k_asm); (case k4v41 => k_asm); (case k5v41 => k_asm); (case kHv41 => exact rfl); (case kAv41 => exact rfl); (case kFv41 => first | assumption | exact rfl); (case kKv41 => first | assumption | exact rfl); (case kdv41 => (walk_at "my room")); (case kuv41 => (walk_at "my room")); (case p1v41 => omega); k_whole; (intro h'q tk'q F'q N'q); (try k_sweep); (try k_fold))) | fail)) | fail); (all_goals k_steps)) | ((fail_if_success (with_reducible refine Halt.go ?_)); (first | (k_here; k_dflt (refine TupSrc.mk (by rfl) (by k_asm) (by k_asm) (by first | k_mem | repeat (first | assumption | apply List.Mem.tail)) (by rw [PySem.sizeLine_eq]; simp) ?_)) | fail); (all_goals k_steps))))
    refine own_read (by k_asm) (by k_asm) (by k_asm) hk (fun p hp => by repeat (first | exact sub p hp | refine List.Mem.tail _ ?_ | refine List.mem_append_right _ ?_)) rfl (by k_is) (by k_is) (by k_is) (by k_is) rfl ?_
    (k_steps; repeat' (first | ((with_reducible refine Halt.go ?_); (first | (k_here; (with_reducible show wpAny _ _ (eval (Expr.ListComp _ [⟨_, _, [], _⟩] _ _) _) _ _ _); k_dflt (refine comp_tup (F₀ := by k_asm) (by with_unfolding_all rfl) (by decide) (by rfl) (by decide) (by rfl) ?_)) | ((with_reducible show wpAny _ _ (call _ _) _ _ _); (first | (k_here; k_dflt (refine' CallsTo.useP (check_depth_calls _ _ _ ?p1v41) ?k1v41 ?k2v41 ?k3v41 ?k4v41 ?k5v41 ?kHv41 ?kAv41 ?kFv41 ?kKv41 ?kdv41 ?kuv41 ?_; (case k1v41 => k_asm); (case k2v41 => k_asm); (case k3v41 => k_asm); (case k4v41 => k_asm); (case k5v41 => k_asm); (case kHv41 => exact rfl); (case kAv41 => exact rfl); (case kFv41 => first | assumption | exact rfl); (case kKv41 => first | assumption | exact rfl); (case kdv41 => (walk_at "my room")); (case kuv41 => (walk_at "my room")); (case p1v41 => omega); k_whole; (intro h'q tk'q F'q N'q); (try k_sweep); (try k_fold))) | fail)) | fail); (all_goals k_steps)) | ((fail_if_success (with_reducible refine Halt.go ?_)); (first | (k_here; k_dflt (refine TupSrc.mk (by rfl) (by k_asm) (by k_asm) (by first | k_mem | repeat (first | assumption | apply List.Mem.tail)) (by rw [PySem.sizeLine_eq]; simp) ?_)) | fail); (all_goals k_steps))))
    exact ret _ _ _ [] [_] (by k_asm) (by k_asm) (by walk_at "my ord") (And.intro rfl (dat_eq e (.tuple (.head _) (.cons (.int _ _) (.cons (.int _ _) (.cons (.int _ _) .nil))))))
  · refine Exists.elim (inv8 (by assumption) (by assumption) (by assumption) (by assumption) (by assumption) (by assumption) (by assumption) (by assumption) (by assumption)) fun xs e => ?_
    subst e
    have Nq := idNews (by k_asm)
    refine CallsTo.use0e (rest_calls w d hd0 hd1 font xs dd uu H (.ref x) fr0 _ td sub ⟨hi, ffs, tn, hfi, hfn⟩) (by k_asm) (by k_asm) (by k_asm) Nq (by k_asm) (by exact rfl) (by exact rfl) (by first | assumption | exact rfl) (by first | assumption | exact rfl) (by (walk_at "my room")) (by (walk_at "my room")) ?_
    intro r9 h9 tk9 tl9 F9 N9 lt9 hp9
    (try dsimp only)
    (k_steps; repeat' (first | ((with_reducible refine Halt.go ?_); (first | (k_here; (with_reducible show wpAny _ _ (eval (Expr.ListComp _ [⟨_, _, [], _⟩] _ _) _) _ _ _); k_dflt (refine comp_tup (F₀ := by k_asm) (by with_unfolding_all rfl) (by decide) (by rfl) (by decide) (by rfl) ?_)) | ((with_reducible show wpAny _ _ (call _ _) _ _ _); (first | (k_here; k_dflt (refine' CallsTo.useP (check_depth_calls _ _ _ ?p1v41) ?k1v41 ?k2v41 ?k3v41 ?k4v41 ?k5v41 ?kHv41 ?kAv41 ?kFv41 ?kKv41 ?kdv41 ?kuv41 ?_; (case k1v41 => k_asm); (case k2v41 => k_asm); (case k3v41 => k_asm); (case k4v41 => k_asm); (case k5v41 => k_asm); (case kHv41 => exact rfl); (case kAv41 => exact rfl); (case kFv41 => first | assumption | exact rfl); (case kKv41 => first | assumption | exact rfl); (case kdv41 => (walk_at "my room")); (case kuv41 => (walk_at "my room")); (case p1v41 => omega); k_whole; (intro h'q tk'q F'q N'q); (try k_sweep); (try k_fold))) | fail)) | fail); (all_goals k_steps)) | ((fail_if_success (with_reducible refine Halt.go ?_)); (first | (k_here; k_dflt (refine TupSrc.mk (by rfl) (by k_asm) (by k_asm) (by first | k_mem | repeat (first | assumption | apply List.Mem.tail)) (by rw [PySem.sizeLine_eq]; simp) ?_)) | fail); (all_goals k_steps))))
    exact node_fin ret (by k_asm) (by k_asm) lt9 (fun _ h => h) (And.intro rfl hp9)
end
end
section
theorem Tell.up {w : World} {d : Int} {R : Led → Value → Prop} {v : Value} {e : Dat} {dd uu dd' uu' : Nat} (h : Tell w d R v e dd uu) (h1 : dd ≤ dd') (h2 : uu ≤ uu') : Tell w d R v e dd' uu' := by
  intro fr0 fr td args hb sub hR prog p loose mean mg mb A env outer A₀ base h₀ L m s Q E B F X N T hh hA hf hk hd hu ret
  exact h fr0 fr td args hb sub hR prog p loose mean mg mb A env outer A₀ base h₀ L m s Q E B F X N T hh hA hf hk (by omega) (by omega) ret
theorem described_rule (w : World) (d : Int) (hd0 : 0 ≤ d) (hd1 : d ≤ 50) (font : Addr) (ow od : Option Int) (v : Value) : Tell w d (NR w.params font (.rule ow od)) v (ndD (.rule ow od)) 12 200 :=
  described_gen w d hd0 hd1 font (.rule ow od) 0 0 (fun _ h => nomatch h) v
theorem described_flat (w : World) (d : Int) (hd0 : 0 ≤ d) (hd1 : d ≤ 48) (font : Addr) (x : Flat) (v : Value) : Tell w d (NR w.params font (.f x)) v (ndD (.f x)) 24 400 :=
  described_gen w d hd0 (by omega) font (.f x) 12 200 (fun e he v => by
    cases x with
    | g s _ _ _ _ _ =>
      cases s with
      | true =>
        rw [List.mem_singleton.mp he]
        exact described_rule w (d + 1) (by omega) (by omega) font none (some 0) v
      | false => cases he
    | _ => cases he) v
theorem described_disc (w : World) (d : Int) (hd0 : 0 ≤ d) (hd1 : d ≤ 46) (font : Addr) (xs : List Flat) (v : Value) : Tell w d (NR w.params font (.c xs)) v (ndD (.c xs)) 36 600 :=
  described_gen w d hd0 (by omega) font (.c xs) 24 400 (fun e he v => by
    rcases List.mem_cons.mp he with rfl | he
    · exact described_flat w (d + 1) (by omega) (by omega) font _ v
    · obtain ⟨y, _, rfl⟩ := List.mem_map.mp he
      exact described_flat w (d + 1) (by omega) (by omega) font y v) v
theorem described_part (w : World) (d : Int) (hd0 : 0 ≤ d) (hd1 : d ≤ 46) (font : Addr) (x : Part) (v : Value) : Tell w d (NR w.params font (ndOf x)) v (ndD (ndOf x)) 36 600 := by
  cases x with
  | f x => exact (described_flat w d hd0 (by omega) font x v).up (by omega) (by omega)
  | c xs => exact described_disc w d hd0 hd1 font xs v
theorem described_box (w : World) (d : Int) (hd0 : 0 ≤ d) (hd1 : d ≤ 44) (font : Addr) (bw sh sg od r1 r2 : Int) (ps : List Part) (v : Value) : Tell w d (NR w.params font (.box bw sh sg od r1 r2 ps)) v (boxD bw sh sg od r1 r2 (ps.map partD)) 48 800 :=
  described_gen w d hd0 (by omega) font (.box bw sh sg od r1 r2 ps) 36 600 (fun e he v => by
    obtain ⟨y, _, rfl⟩ := List.mem_map.mp he
    exact described_part w (d + 1) (by omega) (by omega) font y v) v
end
section
theorem intv {k j : Int} {t : Tok} (h : k = j) : ∃ t', Value.int k t = Value.int j t' := ⟨t, by rw [h]⟩
def flexI (sg od st so sh ho : Int) : Int := if sg = 1 ∧ so = od then st else if sg = 2 ∧ ho = od then -sh else 0
theorem flex_moves (sn : Bool) (gw sg od st so sh ho : Int) (h : sg = 0 ∨ sg = 1 ∨ sg = 2) : (flexI sg od st (if st = 0 then 0 else so) sh (if sh = 0 then 0 else ho) ≠ 0) ↔ Flat.moves sg od (.g sn gw st so sh ho) = true := by
  unfold flexI Flat.moves
  rcases h with rfl | rfl | rfl
  · simp
  · by_cases e : st = 0
    · subst e; simp
    · simp [e]
  · by_cases e : sh = 0
    · subst e; simp
    · simp [e]
section
local macro_rules | `(tactic| walk_at "getAttr ref") => `(tactic| refine halt_of ?_)
set_option maxHeartbeats 4000000 in
theorem flex_calls (w : World) (bw bsh sg od r1 r2 : Int) (its : List Value) (gw st so sh ho : Int) (bv gv : Value) (fr0 fr : Led) (sub : ∀ p ∈ fr0, p ∈ fr) (hb : BoxIn w.params fr0 bw bsh sg od r1 r2 its bv) (hg : GlueIn w.params fr0 gw st so sh ho gv) :
    CallsTo w 520 [bv, gv] [] fr 2 30 (fun r mu' tl => mu' = [] ∧ tl = [] ∧ ∃ t, r = .int (flexI sg od st so sh ho) t) := by
  obtain ⟨t0, t1, t2, t3, t4, t5, t6, t7, t8, la, lk, ra, rk, hbi, hla, hra⟩ := hb
  obtain ⟨g1, g2, g3, g4, g5, hgi⟩ := hg
  obtain ⟨b, rfl⟩ := hbi.isRef
  obtain ⟨g, rfl⟩ := hgi.isRef
  intro prog p loose mean mg mb A env outer A₀ base h₀ L m s Q E B F X N T hh hA hf hk hd hu ret; obtain ⟨hd0, dp, frm, gd, un⟩ := A; obtain ⟨hp0, gs0, dr0, tk0, os0⟩ := s; dsimp only at hh hA hd hu F N ret; subst hh hA; have hSt := StK.mk gs0 dr0 os0; (try simp only [List.cons_append, List.nil_append] at N)
  refine wpAny_call ?_; k_dflt (refine' code_def (binds := [(Str.ofString "box", .ref b), (Str.ofString "glue", .ref g)]) ?k1 ?k2 ?k3 ?k4 ?k5 ?kA ?kF ?kK ?k6 ?k7 ?k8 ?k9 ?kB ?_ ?c2 ?c3 ?c4 ?c5; (case kA => exact rfl); (case kF => first | assumption | exact rfl); (case kK => first | assumption | exact rfl); (case k1 => k_asm); (case k2 => k_asm); (case k3 => k_asm); (case k4 => k_asm); (case k5 => k_asm); (case k6 => k_is); (case k7 => k_is); (case k8 => (walk_at "my room")); (case k9 => first | exact BindsTo.of_eq rfl | exact binds_K (by k_in) rfl (by k_is) rfl rfl rfl); (case c5 => decide); (case kB => exact locs rfl); (case c2 => exact rfl); (case c3 => exact rfl); (case c4 => exact rfl); k_whole; intro g' L' h' FG' F' N' B' X' T'; (refine gen_tk fun tk1 => ?_); (try dsimp only at N'); (try dsimp only); (try k_fold))
  k_steps
  all_goals (try ((first | (refine own_read (by k_asm) (by k_asm) (by k_asm) hgi (fun p hp => by repeat (first | exact sub p hp | refine List.Mem.tail _ ?_ | refine List.mem_append_right _ ?_)) rfl (by k_is) (by k_is) (by k_is) (by k_is) rfl ?_) | (refine own_read (by k_asm) (by k_asm) (by k_asm) hbi (fun p hp => by repeat (first | exact sub p hp | refine List.Mem.tail _ ?_ | refine List.mem_append_right _ ?_)) rfl (by k_is) (by k_is) (by k_is) (by k_is) rfl ?_)); k_steps))
  all_goals (try ((first | (refine own_read (by k_asm) (by k_asm) (by k_asm) hgi (fun p hp => by repeat (first | exact sub p hp | refine List.Mem.tail _ ?_ | refine List.mem_append_right _ ?_)) rfl (by k_is) (by k_is) (by k_is) (by k_is) rfl ?_) | (refine own_read (by k_asm) (by k_asm) (by k_asm) hbi (fun p hp => by repeat (first | exact sub p hp | refine List.Mem.tail _ ?_ | refine List.mem_append_right _ ?_)) rfl (by k_is) (by k_is) (by k_is) (by k_is) rfl ?_)); k_steps))
  all_goals (try ((first | (refine own_read (by k_asm) (by k_asm) (by k_asm) hgi (fun p hp => by repeat (first | exact sub p hp | refine List.Mem.tail _ ?_ | refine List.mem_append_right _ ?_)) rfl (by k_is) (by k_is) (by k_is) (by k_is) rfl ?_) | (refine own_read (by k_asm) (by k_asm) (by k_asm) hbi (fun p hp => by repeat (first | exact sub p hp | refine List.Mem.tail _ ?_ | refine List.mem_append_right _ ?_)) rfl (by k_is) (by k_is) (by k_is) (by k_is) rfl ?_)); k_steps))
  all_goals (try ((first | (refine own_read (by k_asm) (by k_asm) (by k_asm) hgi (fun p hp => by repeat (first | exact sub p hp | refine List.Mem.tail _ ?_ | refine List.mem_append_right _ ?_)) rfl (by k_is) (by k_is) (by k_is) (by k_is) rfl ?_) | (refine own_read (by k_asm) (by k_asm) (by k_asm) hbi (fun p hp => by repeat (first | exact sub p hp | refine List.Mem.tail _ ?_ | refine List.mem_append_right _ ?_)) rfl (by k_is) (by k_is) (by k_is) (by k_is) rfl ?_)); k_steps))
  all_goals (try ((first | (refine own_read (by k_asm) (by k_asm) (by k_asm) hgi (fun p hp => by repeat (first | exact sub p hp | refine List.Mem.tail _ ?_ | refine List.mem_append_right _ ?_)) rfl (by k_is) (by k_is) (by k_is) (by k_is) rfl ?_) | (refine own_read (by k_asm) (by k_asm) (by k_asm) hbi (fun p hp => by repeat (first | exact sub p hp | refine List.Mem.tail _ ?_ | refine List.mem_append_right _ ?_)) rfl (by k_is) (by k_is) (by k_is) (by k_is) rfl ?_)); k_steps))
  all_goals (try ((first | (refine own_read (by k_asm) (by k_asm) (by k_asm) hgi (fun p hp => by repeat (first | exact sub p hp | refine List.Mem.tail _ ?_ | refine List.mem_append_right _ ?_)) rfl (by k_is) (by k_is) (by k_is) (by k_is) rfl ?_) | (refine own_read (by k_asm) (by k_asm) (by k_asm) hbi (fun p hp => by repeat (first | exact sub p hp | refine List.Mem.tail _ ?_ | refine List.mem_append_right _ ?_)) rfl (by k_is) (by k_is) (by k_is) (by k_is) rfl ?_)); k_steps))
  all_goals (try ((first | (refine own_read (by k_asm) (by k_asm) (by k_asm) hgi (fun p hp => by repeat (first | exact sub p hp | refine List.Mem.tail _ ?_ | refine List.mem_append_right _ ?_)) rfl (by k_is) (by k_is) (by k_is) (by k_is) rfl ?_) | (refine own_read (by k_asm) (by k_asm) (by k_asm) hbi (fun p hp => by repeat (first | exact sub p hp | refine List.Mem.tail _ ?_ | refine List.mem_append_right _ ?_)) rfl (by k_is) (by k_is) (by k_is) (by k_is) rfl ?_)); k_steps))
  all_goals (try ((first | (refine own_read (by k_asm) (by k_asm) (by k_asm) hgi (fun p hp => by repeat (first | exact sub p hp | refine List.Mem.tail _ ?_ | refine List.mem_append_right _ ?_)) rfl (by k_is) (by k_is) (by k_is) (by k_is) rfl ?_) | (refine own_read (by k_asm) (by k_asm) (by k_asm) hbi (fun p hp => by repeat (first | exact sub p hp | refine List.Mem.tail _ ?_ | refine List.mem_append_right _ ?_)) rfl (by k_is) (by k_is) (by k_is) (by k_is) rfl ?_)); k_steps))
  all_goals (refine' ret _ _ _ [] [] ?e1 ?e2 lt_tl0 ⟨rfl, rfl, intv ?e4⟩; (case e1 => k_asm); (case e2 => k_asm); (case e4 => (unfold flexI; (repeat' split) <;> first | rfl | omega)))
end
end
section
def FontW (w : World) (font : Addr) (fr0 : Led) : Prop := (∃ fs, Inst w.params fr0 676 fs (.ref font) ∧ fs.lookup (Str.ofString "width") = none) ∧
  ∀ (i : Nat) (t : Tok) (fr : Led), i < 4 → (∀ p ∈ fr0, p ∈ fr) → CallsTo w 617 [.ref font, .int (65 + (i : Int)) t] [] fr 2 30 (fun r mu' tl => mu' = [] ∧ tl = [] ∧ ∃ t', r = .int (menuL.getD i 0) t')
theorem fk2 {x : Flat} (h : (Nd.f x).kind = 2) : ∃ w, x = .b w := by
  rcases x with i | ⟨s, gw, st, so, sh, ho⟩ | bw | ow | kw | ew | _ | _
  case b => exact ⟨bw, rfl⟩
  case l => exact absurd h (ne_if (by decide) (by decide))
  all_goals (exact absurd h (by simp [Nd.kind, Flat.kind]))
theorem fk4 {x : Flat} (h : (Nd.f x).kind = 4) : ∃ w, x = .r w := by
  rcases x with i | ⟨s, gw, st, so, sh, ho⟩ | bw | ow | kw | ew | _ | _
  case r => exact ⟨ow, rfl⟩
  case l => exact absurd h (ne_if (by decide) (by decide))
  all_goals (exact absurd h (by simp [Nd.kind, Flat.kind]))
theorem fkno {x : Flat} {k : Int} (h : (Nd.f x).kind = k) (hk : k = 3 ∨ k = 14 ∨ k = 8) : False := by
  subst h
  rcases x with i | ⟨s, gw, st, so, sh, ho⟩ | bw | ow | kw | ew | _ | _
  case l =>
    rcases hk with hk | hk | hk
    · exact absurd hk (ne_if (by decide) (by decide))
    · exact absurd hk (ne_if (by decide) (by decide))
    · exact absurd hk (ne_if (by decide) (by decide))
  all_goals (exact absurd hk (by simp [Nd.kind, Flat.kind]))
theorem fkrest {x : Flat} (h0 : (Nd.f x).kind ≠ 0) (h1 : (Nd.f x).kind ≠ 1) (h2 : (Nd.f x).kind ≠ 2) (h5 : (Nd.f x).kind ≠ 5) (h12 : (Nd.f x).kind ≠ 12) (h4 : (Nd.f x).kind ≠ 4) (h6 : (Nd.f x).kind ≠ 6) : x.width = 0 := by
  rcases x with i | ⟨s, gw, st, so, sh, ho⟩ | bw | ow | kw | ew | _ | _
  case l =>
    simp only [Nd.kind, Flat.kind] at h0 h1
    by_cases e : menuL.getD i 0 = 0
    · rw [if_pos e] at h1; exact absurd rfl h1
    · rw [if_neg e] at h0; exact absurd rfl h0
  all_goals (first | rfl | exact absurd rfl h2 | exact absurd rfl h4 | exact absurd rfl h5 | exact absurd rfl h6 | exact absurd rfl h12)
section
local macro_rules | `(tactic| walk_at "eval ListComp") => `(tactic| (k_here; refine halt_of ?_))
local macro_rules | `(tactic| walk_at "getAttr ref") => `(tactic| refine halt_of ?_)
local macro_rules | `(tactic| walk_at "getMethod ref") => `(tactic| refine halt_of ?_)
set_option maxHeartbeats 8000000 in
theorem width_calls (w : World) (font : Addr) (x : Flat) (v : Value) (fr0 fr : Led) (sub : ∀ p ∈ fr0, p ∈ fr) (hf : FontW w font fr0) (hi : NodeIn w.params font fr0 v x) :
    CallsTo w 513 [v] [] fr 8 120 (fun r mu' tl => mu' = [] ∧ tl = [] ∧ ∃ t, r = .int x.width t) := by
  refine hide fun Gh back => ?_
  obtain ⟨⟨ffs, hfi, hfw⟩, hfc⟩ := hf
  refine back ?_
  clear back Gh
  have hn : NdIn w.params font fr0 v (.f x) := hi
  intro prog p loose mean mg mb A env outer A₀ base h₀ L m s Q E B F X N T hh hA hf hk hd hu ret; obtain ⟨hd0, dp, frm, gd, un⟩ := A; obtain ⟨hp0, gs0, dr0, tk0, os0⟩ := s; dsimp only at hh hA hd hu F N ret; subst hh hA; have hSt := StK.mk gs0 dr0 os0; (try simp only [List.cons_append, List.nil_append] at N)
  refine wpAny_call ?_; k_dflt (refine' code_def (binds := [(Str.ofString "node", v)]) ?k1 ?k2 ?k3 ?k4 ?k5 ?kA ?kF ?kK ?k6 ?k7 ?k8 ?k9 ?kB ?_ ?c2 ?c3 ?c4 ?c5; (case kA => exact rfl); (case kF => first | assumption | exact rfl); (case kK => first | assumption | exact rfl); (case k1 => k_asm); (case k2 => k_asm); (case k3 => k_asm); (case k4 => k_asm); (case k5 => k_asm); (case k6 => k_is); (case k7 => k_is); (case k8 => (walk_at "my room")); (case k9 => first | exact BindsTo.of_eq rfl | exact binds_K (by k_in) rfl (by k_is) rfl rfl rfl); (case c5 => decide); (case kB => exact locs rfl); (case c2 => exact rfl); (case c3 => exact rfl); (case c4 => exact rfl); k_whole; intro g' L' h' FG' F' N' B' X' T'; (refine gen_tk fun tk1 => ?_); (try dsimp only at N'); (try dsimp only); (try k_fold))
  k_steps
  refine nd_kind (by k_asm) (by k_asm) (by k_asm) hn sub (fun t => ?_)
  k_steps
  · refine hide fun Gh back => ?_
    obtain ⟨i, e, hz, tc, hc⟩ := inv0 (by assumption) hn
    refine back ?_
    clear back Gh
    cases e
    have hi4 := hi.1
    refine hide fun Gh back => ?_
    obtain ⟨y, rfl⟩ := hc.isRef
    refine back ?_
    clear back Gh
    refine own_read (by k_asm) (by k_asm) (by k_asm) hc (fun p hp => by repeat (first | exact sub p hp | refine List.Mem.tail _ ?_ | refine List.mem_append_right _ ?_)) rfl (by k_is) (by k_is) (by k_is) (by k_is) rfl ?_
    k_steps
    refine meth_read (by k_asm) (by k_asm) (by k_asm) hfi sub hfw (by k_is) (by k_is) (by k_is) ?_
    k_steps
    refine own_read (by k_asm) (by k_asm) (by k_asm) hc (fun p hp => by repeat (first | exact sub p hp | refine List.Mem.tail _ ?_ | refine List.mem_append_right _ ?_)) rfl (by k_is) (by k_is) (by k_is) (by k_is) rfl ?_
    k_steps
    have Nq := idNews (by k_asm)
    refine CallsTo.use0i (hfc i _ _ hi4 sub) (by k_asm) (by k_asm) (by k_asm) Nq (by k_asm) (by exact rfl) (by exact rfl) (by first | assumption | exact rfl) (by first | assumption | exact rfl) (by (walk_at "my room")) (by (walk_at "my room")) ?_
    intro h9 tk9 t9 F9 N9
    (try dsimp only)
    k_steps
    exact ret _ _ _ [] [] (by k_asm) (by k_asm) lt_tl0 ⟨rfl, rfl, _, rfl⟩
  · refine hide fun Gh back => ?_
    obtain ⟨i, e, hz, tc, ta, tb, pa, n, hc, hpa⟩ := inv1 (by assumption) hn
    refine back ?_
    clear back Gh
    cases e
    have hi4 := hi.1
    refine hide fun Gh back => ?_
    obtain ⟨y, rfl⟩ := hc.isRef
    refine back ?_
    clear back Gh
    refine own_read (by k_asm) (by k_asm) (by k_asm) hc (fun p hp => by repeat (first | exact sub p hp | refine List.Mem.tail _ ?_ | refine List.mem_append_right _ ?_)) rfl (by k_is) (by k_is) (by k_is) (by k_is) rfl ?_
    k_steps
    refine meth_read (by k_asm) (by k_asm) (by k_asm) hfi sub hfw (by k_is) (by k_is) (by k_is) ?_
    k_steps
    refine own_read (by k_asm) (by k_asm) (by k_asm) hc (fun p hp => by repeat (first | exact sub p hp | refine List.Mem.tail _ ?_ | refine List.mem_append_right _ ?_)) rfl (by k_is) (by k_is) (by k_is) (by k_is) rfl ?_
    k_steps
    have Nq := idNews (by k_asm)
    refine CallsTo.use0i (hfc i _ _ hi4 sub) (by k_asm) (by k_asm) (by k_asm) Nq (by k_asm) (by exact rfl) (by exact rfl) (by first | assumption | exact rfl) (by first | assumption | exact rfl) (by (walk_at "my room")) (by (walk_at "my room")) ?_
    intro h9 tk9 t9 F9 N9
    (try dsimp only)
    k_steps
    exact ret _ _ _ [] [] (by k_asm) (by k_asm) lt_tl0 ⟨rfl, rfl, _, rfl⟩
  · refine hide fun Gh back => ?_
    obtain ⟨bw, rfl⟩ := fk2 (by assumption)
    refine back ?_
    clear back Gh
    refine hide fun Gh back => ?_
    obtain ⟨_, t0, t1, t2, t3, t4, t5, t6, t7, t8, la, lk, ra, rk, hb, _, _⟩ := id hi
    refine back ?_
    clear back Gh
    refine hide fun Gh back => ?_
    obtain ⟨y, rfl⟩ := hb.isRef
    refine back ?_
    clear back Gh
    refine own_read (by k_asm) (by k_asm) (by k_asm) hb (fun p hp => by repeat (first | exact sub p hp | refine List.Mem.tail _ ?_ | refine List.mem_append_right _ ?_)) rfl (by k_is) (by k_is) (by k_is) (by k_is) rfl ?_
    k_steps
    exact ret _ _ _ [] [] (by k_asm) (by k_asm) lt_tl0 ⟨rfl, rfl, _, rfl⟩
  · exact (fkno (by assumption) (.inl rfl)).elim
  · refine hide fun Gh back => ?_
    obtain ⟨kw, e, t1, t2, hk9⟩ := inv5 (by assumption) hn
    refine back ?_
    clear back Gh
    cases e
    refine hide fun Gh back => ?_
    obtain ⟨y, rfl⟩ := hk9.isRef
    refine back ?_
    clear back Gh
    refine own_read (by k_asm) (by k_asm) (by k_asm) hk9 (fun p hp => by repeat (first | exact sub p hp | refine List.Mem.tail _ ?_ | refine List.mem_append_right _ ?_)) rfl (by k_is) (by k_is) (by k_is) (by k_is) rfl ?_
    k_steps
    exact ret _ _ _ [] [] (by k_asm) (by k_asm) lt_tl0 ⟨rfl, rfl, _, rfl⟩
  · refine hide fun Gh back => ?_
    obtain ⟨ew, e, t1, hk9⟩ := inv12 (by assumption) hn
    refine back ?_
    clear back Gh
    cases e
    refine hide fun Gh back => ?_
    obtain ⟨y, rfl⟩ := hk9.isRef
    refine back ?_
    clear back Gh
    refine own_read (by k_asm) (by k_asm) (by k_asm) hk9 (fun p hp => by repeat (first | exact sub p hp | refine List.Mem.tail _ ?_ | refine List.mem_append_right _ ?_)) rfl (by k_is) (by k_is) (by k_is) (by k_is) rfl ?_
    k_steps
    exact ret _ _ _ [] [] (by k_asm) (by k_asm) lt_tl0 ⟨rfl, rfl, _, rfl⟩
  · exact (fkno (by assumption) (.inr (.inl rfl))).elim
  · refine hide fun Gh back => ?_
    obtain ⟨ow, rfl⟩ := fk4 (by assumption)
    refine back ?_
    clear back Gh
    refine hide fun Gh back => ?_
    obtain ⟨_, wv, t2, dv, hW, _, hr⟩ := id hi
    refine back ?_
    clear back Gh
    refine hide fun Gh back => ?_
    obtain ⟨y, rfl⟩ := hr.isRef
    refine back ?_
    clear back Gh
    refine own_read (by k_asm) (by k_asm) (by k_asm) hr (fun p hp => by repeat (first | exact sub p hp | refine List.Mem.tail _ ?_ | refine List.mem_append_right _ ?_)) rfl (by k_is) (by k_is) (by k_is) (by k_is) (WidthV.handed hW) ?_
    cases ow with
    | none =>
      refine hide fun Gh back => ?_
      obtain rfl : wv = .none := hW
      refine back ?_
      clear back Gh
      k_steps
      exact ret _ _ _ [] [] (by k_asm) (by k_asm) lt_tl0 ⟨rfl, rfl, _, rfl⟩
    | some j =>
      refine hide fun Gh back => ?_
      obtain ⟨tj, rfl⟩ := (id hW : ∃ t, wv = .int j t)
      refine back ?_
      clear back Gh
      k_steps
      refine own_read (by k_asm) (by k_asm) (by k_asm) hr (fun p hp => by repeat (first | exact sub p hp | refine List.Mem.tail _ ?_ | refine List.mem_append_right _ ?_)) rfl (by k_is) (by k_is) (by k_is) (by k_is) rfl ?_
      k_steps
      exact ret _ _ _ [] [] (by k_asm) (by k_asm) lt_tl0 ⟨rfl, rfl, _, rfl⟩
  · refine hide fun Gh back => ?_
    obtain ⟨sn, gw, st, so, sh, ho, e, gv, lv, tg, ⟨g1, g2, g3, g4, g5, hgi⟩, hs, hl⟩ := inv6 (by assumption) hn
    refine back ?_
    clear back Gh
    cases e
    refine hide fun Gh back => ?_
    obtain ⟨y, rfl⟩ := hs.isRef
    refine back ?_
    clear back Gh
    refine hide fun Gh back => ?_
    obtain ⟨g, rfl⟩ := hgi.isRef
    refine back ?_
    clear back Gh
    refine own_read (by k_asm) (by k_asm) (by k_asm) hs (fun p hp => by repeat (first | exact sub p hp | refine List.Mem.tail _ ?_ | refine List.mem_append_right _ ?_)) rfl (by k_is) (by k_is) (by k_is) (by k_is) rfl ?_
    k_steps
    refine own_read (by k_asm) (by k_asm) (by k_asm) hgi (fun p hp => by repeat (first | exact sub p hp | refine List.Mem.tail _ ?_ | refine List.mem_append_right _ ?_)) rfl (by k_is) (by k_is) (by k_is) (by k_is) rfl ?_
    k_steps
    exact ret _ _ _ [] [] (by k_asm) (by k_asm) lt_tl0 ⟨rfl, rfl, _, rfl⟩
  · exact (fkno (by assumption) (.inr (.inr rfl))).elim
  · exact ret _ _ _ [] [] (by k_asm) (by k_asm) lt_tl0 ⟨rfl, rfl, intv (fkrest (by assumption) (by assumption) (by assumption) (by assumption) (by assumption) (by assumption) (by assumption)).symm⟩
end
end
section
inductive ItIs (P : Params) (font : Addr) (fr0 : Led) (g' : Heap) (L' : Addr) (mp : Str → Option Value) (gs0 : Array GenState) (dr0 : Drawn) (os0 : OsState) (base : Led) (xs : List Flat) : Value → Shared → Prop
  | mk {a : Addr} {vs : List Value} {k : Nat} {led : Led} {h' : Heap} {tk' : Nat} (F : Fr g' L' h' mp) (N : News g' L' h' led) (hm : (a, listOf vs.toArray k) ∈ led) (sub : ∀ p ∈ base, p ∈ led) (hv : All2 (NodeIn P font fr0) vs xs) : ItIs P font fr0 g' L' mp gs0 dr0 os0 base xs (.ref a) ⟨h', gs0, dr0, tk', os0⟩
theorem drop_at {α : Type} {l : List α} {i : Nat} {x : α} (h : l[i]? = some x) : l.drop i = x :: l.drop (i + 1) := by
  obtain ⟨hl, he⟩ := List.getElem?_eq_some_iff.mp h
  rw [← he]; exact List.drop_eq_getElem_cons hl
theorem idEq (a : Int) : ∃ V, a = V := ⟨_, rfl⟩
abbrev LM (bv : Value) (quad : Int) (tq : Tok) (far reach : Int) (set : Bool) (t1 t2 : Tok) (u1 u2 u3 : Option Value) : Str → Option Value := fun y =>
  if y = Str.ofString "far" then some (.int far t1) else if y = Str.ofString "reach" then some (.int reach t2) else if y = Str.ofString "is_set" then some (.bool set) else
  if y = Str.ofString "item" then u1 else if y = Str.ofString "node" then u2 else if y = Str.ofString "is_seen" then u3 else List.lookup y [(Str.ofString "quad", .int quad tq), (Str.ofString "line", bv)]
section
variable {mv : Flat → Bool} {y : Flat} {l : List Flat} {far reach : Int} {set : Bool}
theorem flex_zero (sn : Bool) (gw sg od st so sh ho : Int) (h : sg = 0 ∨ sg = 1 ∨ sg = 2) (e : flexI sg od st (if st = 0 then 0 else so) sh (if sh = 0 then 0 else ho) = 0) : Flat.moves sg od (.g sn gw st so sh ho) = false := by
  cases q : Flat.moves sg od (.g sn gw st so sh ho) with
  | false => rfl
  | true => exact absurd e ((flex_moves sn gw sg od st so sh ho h).mpr q)
theorem go_stop (hs : y.seen = true) (hm : (set || mv y) = true) : reachGo mv (y :: l) far reach set = mostI := by simp [reachGo, hs, hm]
theorem go_seen (hs : y.seen = true) (hm : (set || mv y) = false) : reachGo mv (y :: l) far reach set = reachGo mv l (far + y.width) (far + y.width) set := by
  obtain ⟨e, e2⟩ := Bool.or_eq_false_iff.mp hm
  subst e
  simp [reachGo, hs, e2]
theorem go_unseen (hs : y.seen = false) : reachGo mv (y :: l) far reach set = reachGo mv l (far + y.width) reach (set || mv y) := by simp [reachGo, hs]
theorem go_unseen1 (hs : y.seen = false) (hm : mv y = true) : reachGo mv (y :: l) far reach set = reachGo mv l (far + y.width) reach true := by simp [reachGo, hs, hm]
theorem go_unseen0 (hs : y.seen = false) (hm : mv y = false) : reachGo mv (y :: l) far reach set = reachGo mv l (far + y.width) reach set := by simp [reachGo, hs, hm]
theorem nog {sg od : Int} (h : y.kind ≠ 6) : Flat.moves sg od y = false ∧ (y.kind ≤ 4 → y.seen = true) ∧ (¬ y.kind ≤ 4 → y.seen = false) := by
  rcases y with i | ⟨s, gw, st, so, sh, ho⟩ | bw | ow | kw | ew | _ | _
  case l =>
    refine ⟨rfl, fun _ => rfl, fun h => absurd ?_ h⟩
    unfold Flat.kind
    (try dsimp only)
    split <;> omega
  case g => exact absurd rfl h
  all_goals (first | exact ⟨rfl, fun _ => rfl, fun h => absurd (by decide) h⟩ | exact ⟨rfl, fun h => absurd h (by simp [Flat.kind]), fun _ => rfl⟩ | exact ⟨rfl, fun _ => rfl, fun h => absurd (by simp [Flat.kind]) h⟩)
end
abbrev envR (L : Addr) : Env := envOf (Str.ofString "line_reach") (dS (st 51)) L 527 (Value.ref 526)
abbrev aroundR (dp un : Nat) (env : Env) (outer : List Env) (gd : Option (List Code) ) : Around := { depth := dp, frames := some (env :: outer), guards := gd, units := un }
def bodyR : List Stmt := match nth (dB (st 51)) 2 with
  | .For _ _ [.For _ _ l _ _] _ _ => l
  | _ => []
def seqR1 (rest : List Stmt) : List Stmt := match bodyR with
  | a :: _ => a :: rest
  | _ => rest
def seqR2 (rest : List Stmt) : List Stmt := match bodyR with
  | _ :: a :: _ => a :: rest
  | _ => rest
def seqR3 : List Stmt := match bodyR with
  | _ :: _ :: l => l
  | _ => []
theorem bodyR_eq : bodyR = seqR1 (seqR2 seqR3) := rfl
section
variable {bv : Value} {quad : Int} {tq : Tok} {far reach : Int} {set : Bool} {t1 t2 : Tok} {u1 u2 u3 : Option Value}
theorem LM_node (v : Option Value) : (fun q => if q = Str.ofString "node" then v else LM bv quad tq far reach set t1 t2 u1 u2 u3 q) = LM bv quad tq far reach set t1 t2 u1 v u3 := by
  funext q
  by_cases e : q = Str.ofString "node"
  · subst e; rfl
  · simp only [if_neg e, LM]
theorem LM_set (v : Bool) : (fun q => if q = Str.ofString "is_set" then some (.bool v) else LM bv quad tq far reach set t1 t2 u1 u2 u3 q) = LM bv quad tq far reach v t1 t2 u1 u2 u3 := by
  funext q
  by_cases e : q = Str.ofString "is_set"
  · subst e; rfl
  · simp only [if_neg e, LM]
theorem LM_seen (v : Option Value) : (fun q => if q = Str.ofString "is_seen" then v else LM bv quad tq far reach set t1 t2 u1 u2 u3 q) = LM bv quad tq far reach set t1 t2 u1 u2 v := by
  funext q
  by_cases e : q = Str.ofString "is_seen"
  · subst e; rfl
  · simp only [if_neg e, LM]
theorem LM_far (x : Int) (t : Tok) : (fun q => if q = Str.ofString "far" then some (.int x t) else LM bv quad tq far reach set t1 t2 u1 u2 u3 q) = LM bv quad tq x reach set t t2 u1 u2 u3 := by
  funext q
  by_cases e : q = Str.ofString "far"
  · subst e; rfl
  · simp only [if_neg e, LM]
theorem LM_reach (x : Int) (t : Tok) : (fun q => if q = Str.ofString "reach" then some (.int x t) else LM bv quad tq far reach set t1 t2 u1 u2 u3 q) = LM bv quad tq far x set t1 t u1 u2 u3 := by
  funext q
  by_cases e : q = Str.ofString "reach"
  · subst e; rfl
  · simp only [if_neg e, LM]
end
theorem LM_both {bv : Value} {quad : Int} {tq : Tok} {far reach : Int} {set : Bool} {t1 t2 : Tok} {u1 u2 u3 : Option Value} (x x2 : Int) (t t' : Tok) : (fun q => if q = Str.ofString "reach" then some (.int x2 t') else if q = Str.ofString "far" then some (.int x t) else LM bv quad tq far reach set t1 t2 u1 u2 u3 q) = LM bv quad tq x x2 set t t' u1 u2 u3 := by
  rw [← LM_far x t, ← LM_reach x2 t']
  funext q
  by_cases e : q = Str.ofString "reach"
  · subst e; rfl
  · simp only [if_neg e]
    by_cases e2 : q = Str.ofString "far"
    · subst e2; rfl
    · simp only [if_neg e2, LM, if_neg e]
theorem seen_le {y : Flat} (h : y.kind ≤ 4) : y.seen = true := (nog (sg := 0) (od := 0) (by omega)).2.1 h
theorem seen_no {y : Flat} (h : ¬ y.kind ≤ 4) (h6 : y.kind ≠ 6) : y.seen = false := (nog (sg := 0) (od := 0) h6).2.2 h
theorem fr_to {h₀ h : Heap} {L : Addr} {m m' : Str → Option Value} (F : Fr h₀ L h m) (e : m = m') : Fr h₀ L h m' := e ▸ F
section
local macro_rules | `(tactic| walk_at "getAttr ref") => `(tactic| refine halt_of ?_)
set_option maxHeartbeats 8000000 in
theorem reach_s1 (w : World) (prog p : Program) (loose : List Str) (mean : ExcName → Option Value) (mg mb : Str → Option Value) (dp un : Nat) (env : Env) (outer : List Env) (gd : Option (List Code) ) (base h₀ h : Heap) (gs0 : Array GenState) (dr0 : Drawn) (tk : Nat) (os0 : OsState) (L : Addr) (B : Below (aroundR dp un env outer gd) base (env :: outer) h₀) (X : (K w.params).In h₀) (T : Top p loose mean mg mb h₀) (hd : dp + 20 < recursionLimit) (hu : un + 300 < cLine)
    (font : Addr) (bw sh sg od r1 r2 quad : Int) (tq : Tok) (its : List Value) (b z : Addr) (fr0 led : Led) (sub : ∀ p ∈ fr0, p ∈ led) (hb : BoxIn w.params fr0 bw sh sg od r1 r2 its (.ref b)) (y : Flat) (hy : NodeIn w.params font fr0 (.ref z) y) (hsg : sg = 0 ∨ sg = 1 ∨ sg = 2) (far reach : Int) (set : Bool) (t1 t2 : Tok) (u1 u3 : Option Value) (N : News h₀ L h led) (Q : Flow → Shared → Prop) (E : Value → Shared → Prop) (rest : List Stmt)
    (F : Fr h₀ L h (LM (.ref b) quad tq far reach set t1 t2 u1 (some (.ref z)) u3))
    (ret : ∀ h' tk', Fr h₀ L h' (LM (.ref b) quad tq far reach (set || Flat.moves sg od y) t1 t2 u1 (some (.ref z)) u3) → News h₀ L h' led → wpAny (model prog w) ((aroundR dp un env outer gd).deeper (envR L)) (execs rest (envR L)) Q E ⟨h', gs0, dr0, tk', os0⟩) :
    wpAny (model prog w) ((aroundR dp un env outer gd).deeper (envR L)) (execs (seqR1 rest) (envR L)) Q E ⟨h, gs0, dr0, tk, os0⟩ := by
  k_steps
  refine node_kind (by k_asm) (by k_asm) (by k_asm) hy sub (fun t => ?_)
  k_steps
  · refine el5 (inv6 (nd := .f y) (by assumption) hy) fun sn gw st so sh' hO45 => Exists.elim hO45 fun ho hO46 => an2 hO46 fun e hx => ?_
    refine el3 (hx) fun gv lv tg hO47 => an3 hO47 fun hg hs hl => ?_
    cases e
    refine Exists.elim (GlueIn.isRef hg) fun g eg => ?_
    subst eg
    refine own_read (by k_asm) (by k_asm) (by k_asm) hs (fun p hp => by repeat (first | exact sub p hp | refine List.Mem.tail _ ?_ | refine List.mem_append_right _ ?_)) rfl (by k_is) (by k_is) (by k_is) (by k_is) rfl ?_
    k_steps
    refine CallsTo.use0i (flex_calls w bw sh sg od r1 r2 its gw st _ sh' _ _ _ fr0 _ sub hb hg) (by k_asm) (by k_asm) (by k_asm) (by k_asm) (by k_asm) (by exact rfl) (by exact rfl) (by first | assumption | exact rfl) (by first | assumption | exact rfl) (by (walk_at "my room")) (by (walk_at "my room")) ?_
    intro h9 tk9 t9 F9 N9
    (try dsimp only)
    k_steps
    · have hmv := (flex_moves sn gw sg od st so sh' ho hsg).1 (by assumption)
      exact ret _ _ (fr_to (by k_asm) (by rw [hmv, Bool.or_true]; exact LM_set true)) (by k_asm)
    · have hmv := flex_zero sn gw sg od st so sh' ho hsg (by assumption)
      exact ret _ _ (fr_to (by k_asm) (by rw [hmv, Bool.or_false])) (by k_asm)
  · have hmv := (nog (sg := sg) (od := od) (by assumption : y.kind ≠ 6)).1
    exact ret _ _ (fr_to (by k_asm) (by rw [hmv, Bool.or_false])) (by k_asm)
set_option maxHeartbeats 8000000 in
theorem reach_s2 (w : World) (prog p : Program) (loose : List Str) (mean : ExcName → Option Value) (mg mb : Str → Option Value) (dp un : Nat) (env : Env) (outer : List Env) (gd : Option (List Code) ) (base h₀ h : Heap) (gs0 : Array GenState) (dr0 : Drawn) (tk : Nat) (os0 : OsState) (L : Addr) (B : Below (aroundR dp un env outer gd) base (env :: outer) h₀) (X : (K w.params).In h₀) (T : Top p loose mean mg mb h₀) (hd : dp + 20 < recursionLimit) (hu : un + 300 < cLine)
    (font : Addr) (bw sh sg od r1 r2 quad : Int) (tq : Tok) (its : List Value) (b z : Addr) (fr0 led : Led) (sub : ∀ p ∈ fr0, p ∈ led) (hb : BoxIn w.params fr0 bw sh sg od r1 r2 its (.ref b)) (y : Flat) (hy : NodeIn w.params font fr0 (.ref z) y) (hsg : sg = 0 ∨ sg = 1 ∨ sg = 2) (far reach : Int) (set : Bool) (t1 t2 : Tok) (u1 u3 : Option Value) (N : News h₀ L h led) (Q : Flow → Shared → Prop) (E : Value → Shared → Prop) (rest : List Stmt)
    (F : Fr h₀ L h (LM (.ref b) quad tq far reach set t1 t2 u1 (some (.ref z)) u3))
    (ret : ∀ h' tk', Fr h₀ L h' (LM (.ref b) quad tq far reach set t1 t2 u1 (some (.ref z)) (some (.bool y.seen))) → News h₀ L h' led → wpAny (model prog w) ((aroundR dp un env outer gd).deeper (envR L)) (execs rest (envR L)) Q E ⟨h', gs0, dr0, tk', os0⟩) :
    wpAny (model prog w) ((aroundR dp un env outer gd).deeper (envR L)) (execs (seqR2 rest) (envR L)) Q E ⟨h, gs0, dr0, tk, os0⟩ := by
  k_steps
  refine node_kind (by k_asm) (by k_asm) (by k_asm) hy sub (fun t => ?_)
  k_steps
  · exact ret _ _ (fr_to (by k_asm) ((LM_seen _).trans (by rw [seen_le (by assumption), decide_eq_true (by assumption : y.kind ≤ 4)]))) (by k_asm)
  · have hn4 : ¬ y.kind ≤ 4 := by omega
    refine node_kind (by k_asm) (by k_asm) (by k_asm) hy sub (fun t => ?_)
    k_steps
    · refine el5 (inv6 (nd := .f y) (by assumption) hy) fun sn gw st so sh' hO49 => Exists.elim hO49 fun ho hO50 => an2 hO50 fun e hx => ?_
      refine el3 (hx) fun gv lv tg hO51 => an3 hO51 fun hg hs hl => ?_
      cases e
      cases sn with
      | false =>
        simp only [Bool.false_eq_true, if_false] at hl
        subst hl
        refine own_read (by k_asm) (by k_asm) (by k_asm) hs (fun p hp => by repeat (first | exact sub p hp | refine List.Mem.tail _ ?_ | refine List.mem_append_right _ ?_)) rfl (by k_is) (by k_is) (by k_is) (by k_is) rfl ?_
        k_steps
        exact ret _ _ (fr_to (by k_asm) (LM_seen _)) (by k_asm)
      | true =>
        obtain ⟨lr, rfl⟩ := (id hl : RuleIn _ _ _ _ _).isRef
        refine own_read (by k_asm) (by k_asm) (by k_asm) hs (fun p hp => by repeat (first | exact sub p hp | refine List.Mem.tail _ ?_ | refine List.mem_append_right _ ?_)) rfl (by k_is) (by k_is) (by k_is) (by k_is) rfl ?_
        k_steps
        exact ret _ _ (fr_to (by k_asm) (LM_seen _)) (by k_asm)
    · exact ret _ _ (fr_to (by k_asm) ((LM_seen _).trans (by rw [seen_no hn4 (by assumption), beq_false_of_ne (by assumption : y.kind ≠ 6)]))) (by k_asm)
set_option maxHeartbeats 8000000 in
theorem reach_s3 (w : World) (prog p : Program) (loose : List Str) (mean : ExcName → Option Value) (mg mb : Str → Option Value) (dp un : Nat) (env : Env) (outer : List Env) (gd : Option (List Code) ) (base h₀ h : Heap) (gs0 : Array GenState) (dr0 : Drawn) (tk : Nat) (os0 : OsState) (L : Addr) (B : Below (aroundR dp un env outer gd) base (env :: outer) h₀) (X : (K w.params).In h₀) (T : Top p loose mean mg mb h₀) (hd : dp + 20 < recursionLimit) (hu : un + 300 < cLine)
    (font : Addr) (bw sh sg od r1 r2 quad : Int) (tq : Tok) (its : List Value) (b z : Addr) (fr0 led : Led) (sub : ∀ p ∈ fr0, p ∈ led) (hb : BoxIn w.params fr0 bw sh sg od r1 r2 its (.ref b)) (y : Flat) (hy : NodeIn w.params font fr0 (.ref z) y) (hsg : sg = 0 ∨ sg = 1 ∨ sg = 2) (far reach : Int) (set : Bool) (t1 t2 : Tok) (u1 u3 : Option Value) (N : News h₀ L h led) (Q : Flow → Shared → Prop) (E : Value → Shared → Prop) (hfw : FontW w font fr0)
    (F : Fr h₀ L h (LM (.ref b) quad tq far reach set t1 t2 u1 (some (.ref z)) (some (.bool y.seen))))
    (stop : (y.seen && set) = true → ∀ h' tk' m' t, Fr h₀ L h' m' → News h₀ L h' led → Q (.ret (.int 1073741823 t)) ⟨h', gs0, dr0, tk', os0⟩)
    (next : (y.seen && set) = false → ∀ h' tk' t3 t4, Fr h₀ L h' (LM (.ref b) quad tq (far + y.width) (if y.seen then far + y.width else reach) set t3 t4 u1 (some (.ref z)) (some (.bool y.seen))) → News h₀ L h' led → Q .next ⟨h', gs0, dr0, tk', os0⟩) :
    wpAny (model prog w) ((aroundR dp un env outer gd).deeper (envR L)) (execs seqR3 (envR L)) Q E ⟨h, gs0, dr0, tk, os0⟩ := by
  k_steps
  · exact stop (by simp [*]) _ _ _ _ (by k_asm) (by k_asm)
  all_goals (refine CallsTo.use0i (width_calls w font y _ fr0 _ sub hfw hy) (by k_asm) (by k_asm) (by k_asm) (by k_asm) (by k_asm) (by exact rfl) (by exact rfl) (by first | assumption | exact rfl) (by first | assumption | exact rfl) (by (walk_at "my room")) (by (walk_at "my room")) ?_; intro h8 tk8 t8' F8 N8; (try dsimp only); k_steps)
  · exact next (by simp [*]) _ _ _ _ (fr_to (by k_asm) ((LM_both _ _ _ _).trans (by rw [if_pos (by assumption : y.seen = true)]))) (by k_asm)
  · have hns : y.seen = false := by first | assumption | exact eq_false_of_ne_true (by assumption)
    exact next (by simp [hns]) _ _ _ _ (fr_to (by k_asm) ((LM_far _ _).trans (by rw [hns]; rfl))) (by k_asm)
end
theorem go_st {mv : Flat → Bool} {y : Flat} {l : List Flat} {far reach : Int} {set : Bool} (h : (y.seen && (set || mv y)) = true) : reachGo mv (y :: l) far reach set = mostI := if_pos h
theorem go_nx {mv : Flat → Bool} {y : Flat} {l : List Flat} {far reach : Int} {set : Bool} (h : (y.seen && (set || mv y)) = false) : reachGo mv (y :: l) far reach set = reachGo mv l (far + y.width) (if y.seen then far + y.width else reach) (set || mv y) := if_neg (by rw [h]; exact Bool.false_ne_true)
inductive RInv (bv : Value) (quad : Int) (tq : Tok) (mv : Flat → Bool) (V : Int) (led : Led) (xs : List Flat) : (Str → Option Value) → Led → Prop
  | mk (far reach : Int) (set : Bool) (t1 t2 : Tok) (u1 u2 u3 : Option Value) (h : reachGo mv xs far reach set = V) : RInv bv quad tq mv V led xs (LM bv quad tq far reach set t1 t2 u1 u2 u3) led
theorem RInv.led_eq {bv : Value} {quad : Int} {tq : Tok} {mv : Flat → Bool} {V : Int} {led nw : Led} {xs : List Flat} {m : Str → Option Value} (h : RInv bv quad tq mv V led xs m nw) : nw = led := by cases h; rfl
theorem RInv.to {bv : Value} {quad : Int} {tq : Tok} {mv : Flat → Bool} {V : Int} {led nw : Led} {xs : List Flat} {m m' : Str → Option Value} (h : RInv bv quad tq mv V led xs m nw) (e : m' = m) : RInv bv quad tq mv V led xs m' nw := e ▸ h
section
local macro_rules | `(tactic| walk_at "exec For Name Attribute cons nil") => `(tactic| refine halt_of ?_)
local macro_rules | `(tactic| walk_at "exec For Name IfExp cons nil") => `(tactic| (k_here; (rename Fr _ _ _ _ => lF'); (with_unfolding_all refine' For_invVF lF' ?k1 ?k2 ?_; (case k1 => exact rfl); (case k2 => exact rfl); k_whole); refine halt_of ?_))
local macro_rules | `(tactic| walk_at "pyIter ref") => `(tactic| refine halt_it ?_)
local macro_rules | `(tactic| walk_at "getAttr ref") => `(tactic| refine halt_of ?_)
set_option maxHeartbeats 8000000 in
theorem reach_calls (w : World) (font : Addr) (bw sh sg od r1 r2 quad : Int) (tq : Tok) (its : List Value) (ps : List Part) (bv : Value) (fr0 fr : Led) (sub : ∀ p ∈ fr0, p ∈ fr) (hfw : FontW w font fr0) (hb : BoxIn w.params fr0 bw sh sg od r1 r2 its bv) (hps : All2 (TopIn w.params font fr0) its ps)
    (hsg : sg = 0 ∨ sg = 1 ∨ sg = 2) (hsh : -1073741823 ≤ sh ∧ sh ≤ 1073741823) (hq : -1073741823 ≤ quad ∧ quad ≤ 1073741823) (hlen : its.length ≤ 10) :
    CallsTo w 527 [bv, .int quad tq] [] fr 20 300 (fun r mu' tl => mu' = [] ∧ tl = [] ∧ ∃ t, r = .int (reachGo (Flat.moves sg od) (flats ps) (sh + 2 * quad) (-mostI) false) t) := by
  refine el8 (id hb) fun t0 t1 t2 t3 t4 t5 t6 t7 hO52 => el5 hO52 fun t8 la lk ra rk hO53 => an3 hO53 fun hbi hla hra => ?_
  obtain ⟨b, rfl⟩ := hbi.isRef
  intro prog p loose mean mg mb A env outer A₀ base h₀ L m s Q E B F X N T hh hA hf hk hd hu ret; obtain ⟨hd0, dp, frm, gd, un⟩ := A; obtain ⟨hp0, gs0, dr0, tk0, os0⟩ := s; dsimp only at hh hA hd hu F N ret; subst hh hA; have hSt := StK.mk gs0 dr0 os0; (try simp only [List.cons_append, List.nil_append] at N)
  refine wpAny_call ?_; k_dflt (refine' code_def (binds := [(Str.ofString "line", .ref b), (Str.ofString "quad", .int quad tq)]) ?k1 ?k2 ?k3 ?k4 ?k5 ?kA ?kF ?kK ?k6 ?k7 ?k8 ?k9 ?kB ?_ ?c2 ?c3 ?c4 ?c5; (case kA => exact rfl); (case kF => first | assumption | exact rfl); (case kK => first | assumption | exact rfl); (case k1 => k_asm); (case k2 => k_asm); (case k3 => k_asm); (case k4 => k_asm); (case k5 => k_asm); (case k6 => k_is); (case k7 => k_is); (case k8 => (walk_at "my room")); (case k9 => first | exact BindsTo.of_eq rfl | exact binds_K (by k_in) rfl (by k_is) rfl rfl rfl); (case c5 => decide); (case kB => exact locs rfl); (case c2 => exact rfl); (case c3 => exact rfl); (case c4 => exact rfl); k_whole; intro g' L' h' FG' F' N' B' X' T'; (refine gen_tk fun tk1 => ?_); (try dsimp only at N'); (try dsimp only); (try k_fold))
  (k_steps; repeat' ((with_reducible refine Halt.go ?_); (first | ((with_reducible show wpAny _ _ (exec _ _) _ _ _); (k_here; (rename Fr _ _ _ _ => lF'q); (with_unfolding_all refine' For_invVF lF'q ?k1v42 ?k2v42 ?_; (case k1v42 => exact rfl); (case k2v42 => exact rfl); k_whole))) | fail); (all_goals k_steps)))
  refine own_read (by k_asm) (by k_asm) (by k_asm) hbi (fun p hp => by repeat (first | exact sub p hp | refine List.Mem.tail _ ?_ | refine List.mem_append_right _ ?_)) rfl (by k_is) (by k_is) (by k_is) (by k_is) rfl ?_
  (k_steps; repeat' ((with_reducible refine Halt.go ?_); (first | ((with_reducible show wpAny _ _ (exec _ _) _ _ _); (k_here; (rename Fr _ _ _ _ => lF'q); (with_unfolding_all refine' For_invVF lF'q ?k1v42 ?k2v42 ?_; (case k1v42 => exact rfl); (case k2v42 => exact rfl); k_whole))) | fail); (all_goals k_steps)))
  refine own_read (by k_asm) (by k_asm) (by k_asm) hbi (fun p hp => by repeat (first | exact sub p hp | refine List.Mem.tail _ ?_ | refine List.mem_append_right _ ?_)) rfl (by k_is) (by k_is) (by k_is) (by k_is) rfl ?_
  (k_steps; repeat' ((with_reducible refine Halt.go ?_); (first | ((with_reducible show wpAny _ _ (exec _ _) _ _ _); (k_here; (rename Fr _ _ _ _ => lF'q); (with_unfolding_all refine' For_invVF lF'q ?k1v42 ?k2v42 ?_; (case k1v42 => exact rfl); (case k2v42 => exact rfl); k_whole))) | fail); (all_goals k_steps)))
  refine Exists.elim (idEq (reachGo (Flat.moves sg od) (flats ps) (sh + 2 * quad) (-mostI) false)) fun V hV => ?_
  refine Halt.go ?_
  have N0 := idNews (by k_asm)
  rename Fr g' L' _ _ => F0
  refine for_list (fun i m₁ nw => RInv (.ref b) quad tq (Flat.moves sg od) V fr (flats (ps.drop i)) m₁ nw) (by rfl) F0 (news_sub N0 (fun p hp => by repeat (first | exact hp | refine List.Mem.tail _ ?_))) (RInv.to (RInv.mk _ _ _ _ _ none none none hV) (by (funext y; rcases Decidable.em (y = Str.ofString "far") with rfl | e0; exact rfl; rcases Decidable.em (y = Str.ofString "reach") with rfl | e1; exact rfl; rcases Decidable.em (y = Str.ofString "is_set") with rfl | e2; exact rfl; rcases Decidable.em (y = Str.ofString "item") with rfl | e3; exact rfl; rcases Decidable.em (y = Str.ofString "node") with rfl | e4; exact rfl; rcases Decidable.em (y = Str.ofString "is_seen") with rfl | e5; exact rfl; simp only [LM, if_neg e0, if_neg e1, if_neg e2, if_neg e3, if_neg e4, if_neg e5]; try rfl))) (fun _ _ _ h => h.led_eq ▸ sub _ hla) ?turn ?done
  case turn =>
    intro i v m₁ nw I oI h tk hv hinv
    cases hinv with | mk far reach set t1 t2 u1 u2 u3 hgo0 => ?_
    intro o1 F1 N1
    refine Exists.elim (hps.get (by simpa using hv)) fun x hO55 => an2 hO55 fun hxi hx => ?_
    have hgo := (congrArg (fun z => reachGo (Flat.moves sg od) (flats z) far reach set) (drop_at hxi)).symm.trans hgo0
    (k_steps; repeat' ((with_reducible refine Halt.go ?_); (first | ((with_reducible show wpAny _ _ (exec _ _) _ _ _); (k_here; (rename Fr _ _ _ _ => lF'q); (with_unfolding_all refine' For_invVF lF'q ?k1v42 ?k2v42 ?_; (case k1v42 => exact rfl); (case k2v42 => exact rfl); k_whole))) | fail); (all_goals k_steps)))
    refine Halt.go (wpAny_mono (Q := ItIs w.params font fr0 g' L' (fun y => if y = Str.ofString "item" then some v else LM (.ref b) quad tq far reach set t1 t2 u1 u2 u3 y) gs0 dr0 os0 ((I, oI) :: fr) (flatP x)) ?ev ?it fun _ _ e => e)
    case ev =>
      clear hgo hgo0
      cases x with
      | f x =>
        refine Exists.elim (node_ref hx) fun y e => ?_
        subst e
        (k_steps; repeat' ((with_reducible refine Halt.go ?_); (first | ((with_reducible show wpAny _ _ (exec _ _) _ _ _); (k_here; (rename Fr _ _ _ _ => lF'q); (with_unfolding_all refine' For_invVF lF'q ?k1v42 ?k2v42 ?_; (case k1v42 => exact rfl); (case k2v42 => exact rfl); k_whole))) | fail); (all_goals k_steps)))
        refine node_kind (by k_asm) (by k_asm) (by k_asm) hx (fun p hp => .tail _ (sub p hp)) (fun t => ?_)
        (k_steps; repeat' ((with_reducible refine Halt.go ?_); (first | ((with_reducible show wpAny _ _ (exec _ _) _ _ _); (k_here; (rename Fr _ _ _ _ => lF'q); (with_unfolding_all refine' For_invVF lF'q ?k1v42 ?k2v42 ?_; (case k1v42 => exact rfl); (case k2v42 => exact rfl); k_whole))) | fail); (all_goals k_steps)))
        · exact (fkno (x := x) (by assumption) (.inr (.inr rfl))).elim
        · exact ItIs.mk (by k_asm) (by k_asm) (.head _) (fun p hp => .tail _ hp) (.cons hx .nil)
      | c xs =>
        refine an3 (hx) fun sh' sz hx2 => ?_
        refine el8 (hx2) fun a1 n1 a2 n2 a3 n3 cv vs hO57 => an6 hO57 fun hk9 m1 m2 m3 hc hvv => ?_
        refine Exists.elim (hk9.isRef) fun y e => ?_
        subst e
        (k_steps; repeat' ((with_reducible refine Halt.go ?_); (first | ((with_reducible show wpAny _ _ (exec _ _) _ _ _); (k_here; (rename Fr _ _ _ _ => lF'q); (with_unfolding_all refine' For_invVF lF'q ?k1v42 ?k2v42 ?_; (case k1v42 => exact rfl); (case k2v42 => exact rfl); k_whole))) | fail); (all_goals k_steps)))
        refine disc_kind (by k_asm) (by k_asm) (by k_asm) hk9 (fun p hp => .tail _ (sub p hp)) rfl (fun t => ?_)
        (k_steps; repeat' ((with_reducible refine Halt.go ?_); (first | ((with_reducible show wpAny _ _ (exec _ _) _ _ _); (k_here; (rename Fr _ _ _ _ => lF'q); (with_unfolding_all refine' For_invVF lF'q ?k1v42 ?k2v42 ?_; (case k1v42 => exact rfl); (case k2v42 => exact rfl); k_whole))) | fail); (all_goals k_steps)))
        refine own_read (by k_asm) (by k_asm) (by k_asm) hk9 (fun p hp => by repeat (first | exact sub p hp | refine List.Mem.tail _ ?_ | refine List.mem_append_right _ ?_)) rfl (by k_is) (by k_is) (by k_is) (by k_is) rfl ?_
        (k_steps; repeat' ((with_reducible refine Halt.go ?_); (first | ((with_reducible show wpAny _ _ (exec _ _) _ _ _); (k_here; (rename Fr _ _ _ _ => lF'q); (with_unfolding_all refine' For_invVF lF'q ?k1v42 ?k2v42 ?_; (case k1v42 => exact rfl); (case k2v42 => exact rfl); k_whole))) | fail); (all_goals k_steps)))
        exact ItIs.mk (by k_asm) (by k_asm) (.tail _ (sub _ m3)) (fun _ h => h) hvv
    case it =>
      intro xv s₁ hit
      cases hit with | mk F2 N2 hma hsub hall => ?_
      rename_i a vs k led h' tk'
      refine for_list (fun j m₁ nw => RInv (.ref b) quad tq (Flat.moves sg od) V led ((flatP x).drop j ++ flats (ps.drop (i + 1))) m₁ nw) (by rfl) F2 N2 (RInv.to (RInv.mk far reach set t1 t2 (some v) u2 u3 hgo) (by (funext y; rcases Decidable.em (y = Str.ofString "far") with rfl | e0; exact rfl; rcases Decidable.em (y = Str.ofString "reach") with rfl | e1; exact rfl; rcases Decidable.em (y = Str.ofString "is_set") with rfl | e2; exact rfl; rcases Decidable.em (y = Str.ofString "item") with rfl | e3; exact rfl; rcases Decidable.em (y = Str.ofString "node") with rfl | e4; exact rfl; rcases Decidable.em (y = Str.ofString "is_seen") with rfl | e5; exact rfl; simp only [LM, if_neg e0, if_neg e1, if_neg e2, if_neg e3, if_neg e4, if_neg e5]; try rfl))) (fun _ _ _ h => h.led_eq ▸ hma) ?turn2 ?done2
      case turn2 =>
        intro j u m₁ nw2 I2 oI2 h2 tk2 hu9 hinv
        cases hinv with | mk far2 reach2 set2 t3 t4 u6 u4 u5 hgo3 => ?_
        intro o2 F3 N3
        refine Exists.elim (hall.get (by simpa using hu9)) fun y hO59 => an2 hO59 fun hyj hy => ?_
        have hgo2 := (congrArg (fun z => reachGo (Flat.moves sg od) (z ++ flats (ps.drop (i + 1))) far2 reach2 set2) (drop_at hyj)).symm.trans hgo3
        refine Exists.elim (node_ref hy) fun z e => ?_
        subst e
        have subn : ∀ p ∈ fr0, p ∈ (I2, oI2) :: led := fun p hp => .tail _ (hsub p (.tail _ (sub p hp)))
        refine reach_s1 w prog p loose mean mg mb dp un env outer gd base g' h2 gs0 dr0 tk2 os0 L' B' X' T' hd hu font bw sh sg od r1 r2 quad tq its b z fr0 ((I2, oI2) :: led) subn hb y hy hsg far2 reach2 set2 t3 t4 u6 u5 N3 _ _ (seqR2 seqR3) (fr_to F3 (LM_node _)) ?_
        intro h3 tk3 F4 N4
        refine reach_s2 w prog p loose mean mg mb dp un env outer gd base g' h3 gs0 dr0 tk3 os0 L' B' X' T' hd hu font bw sh sg od r1 r2 quad tq its b z fr0 ((I2, oI2) :: led) subn hb y hy hsg far2 reach2 _ t3 t4 u6 u5 N4 _ _ seqR3 F4 ?_
        intro h4 tk4 F5 N5
        refine reach_s3 w prog p loose mean mg mb dp un env outer gd base g' h4 gs0 dr0 tk4 os0 L' B' X' T' hd hu font bw sh sg od r1 r2 quad tq its b z fr0 ((I2, oI2) :: led) subn hb y hy hsg far2 reach2 _ t3 t4 u6 none N5 _ _ hfw F5 ?stop ?next
        case stop =>
          intro hst h5 tk5 m5 t5 F6 N6
          dsimp only [ForPost]
          (k_steps; repeat' ((with_reducible refine Halt.go ?_); (first | ((with_reducible show wpAny _ _ (exec _ _) _ _ _); (k_here; (rename Fr _ _ _ _ => lF'q); (with_unfolding_all refine' For_invVF lF'q ?k1v42 ?k2v42 ?_; (case k1v42 => exact rfl); (case k2v42 => exact rfl); k_whole))) | fail); (all_goals k_steps)))
          (try dsimp only [ForPost])
          (try (k_steps; repeat' ((with_reducible refine Halt.go ?_); (first | ((with_reducible show wpAny _ _ (exec _ _) _ _ _); (k_here; (rename Fr _ _ _ _ => lF'q); (with_unfolding_all refine' For_invVF lF'q ?k1v42 ?k2v42 ?_; (case k1v42 => exact rfl); (case k2v42 => exact rfl); k_whole))) | fail); (all_goals k_steps))))
          refine' ret _ _ _ [] [] ?e1 ?e2 lt_tl0 ⟨rfl, rfl, intv ?e4⟩
          case e1 => k_asm
          case e2 => exact news_sub (by k_asm) (fun p hp => .tail _ (hsub p (.tail _ hp)))
          case e4 => rw [hV, ← hgo2]; exact (go_st hst).symm
        case next =>
          intro hst h5 tk5 t5 t6 F6 N6
          exact ForPost.next F6 N6 o2 (RInv.mk _ _ _ _ _ _ _ _ ((go_nx hst).symm.trans hgo2))
      case done2 =>
        intro m₁ nw2 h2 tk2 hinv
        cases hinv with | mk far2 reach2 set2 t3 t4 u6 u4 u5 hgo2 => ?_
        intro F3 N3
        have hnil : (flatP x).drop vs.toArray.size = [] := by simp [hall.length]
        rw [hnil] at hgo2
        (k_steps; repeat' ((with_reducible refine Halt.go ?_); (first | ((with_reducible show wpAny _ _ (exec _ _) _ _ _); (k_here; (rename Fr _ _ _ _ => lF'q); (with_unfolding_all refine' For_invVF lF'q ?k1v42 ?k2v42 ?_; (case k1v42 => exact rfl); (case k2v42 => exact rfl); k_whole))) | fail); (all_goals k_steps)))
        exact ForPost.next F3 (news_sub N3 hsub) o1 (RInv.mk far2 reach2 set2 t3 t4 u6 u4 u5 hgo2)
  case done =>
    intro m₁ nw h tk hinv
    cases hinv with | mk far reach set t1 t2 u1 u2 u3 hgo => ?_
    intro F1 N1
    have hnil : ps.drop its.toArray.size = [] := by simp [hps.length]
    rw [hnil] at hgo
    have hgo : clampI reach = V := hgo
    (k_steps; repeat' ((with_reducible refine Halt.go ?_); (first | ((with_reducible show wpAny _ _ (exec _ _) _ _ _); (k_here; (rename Fr _ _ _ _ => lF'q); (with_unfolding_all refine' For_invVF lF'q ?k1v42 ?k2v42 ?_; (case k1v42 => exact rfl); (case k2v42 => exact rfl); k_whole))) | fail); (all_goals k_steps)))
    refine' ret _ _ _ [] [] ?e1 ?e2 lt_tl0 ⟨rfl, rfl, intv ?e4⟩
    case e1 => k_asm
    case e2 => k_asm
    case e4 =>
      rw [hV, ← hgo]
      simp only [clampI, mostI]
      repeat' split
      all_goals omega
end
end
section
theorem CallsTo.useP1 {prog : Program} {w : World} {f : Addr} {args : List Value} {news : Led} {dd uu : Nat} {p : Program} {loose : List Str} {mean : ExcName → Option Value} {mg mb : Str → Option Value} {A : Around} {env : Env} {outer : List Env} {A₀ : Around} {base h₀ : Heap} {L : Addr} {m : Str → Option Value} {hp : Heap} {gs : Array GenState} {dr : Drawn} {tk0 : Nat} {os : OsState} {Q E : Value → Shared → Prop} {v : Value} (C : CallsTo w f args [] news dd uu (fun r mu' tl => mu' = [] ∧ tl = [] ∧ r = v))
    (B : Below A₀ base outer h₀) (F : Fr h₀ L hp m) (X : (K w.params).In h₀) (N : News h₀ L hp news) (T : Top p loose mean mg mb h₀) (hh : A.handled = none) (hA : A.frames = some (env :: outer)) (hf : env.frame = some L) (hk : env.scope.kind = .function)
    (hd : A.depth + dd < recursionLimit) (hu : A.units + uu < cLine)
    (ret : ∀ h' tk', Fr h₀ L h' m → News h₀ L h' news → Q v ⟨h', gs, dr, tk', os⟩) : wpAny (model prog w) A (call (.ref f) args) Q E ⟨hp, gs, dr, tk0, os⟩ := by
  refine C prog p loose mean mg mb A env outer A₀ base h₀ L m ⟨hp, gs, dr, tk0, os⟩ Q E B F X N T hh hA hf hk hd hu ?_
  rintro r h' tk' _ _ F' N' _ ⟨rfl, rfl, rfl⟩
  exact ret h' tk' F' N'
theorem most_calls (w : World) (fr : Led) : CallsTo w 704 [] [] fr 2 24 (fun r mu' tl => mu' = [] ∧ tl = [] ∧ ∃ t, r = .int 1073741823 t) := by
  intro prog p loose mean mg mb A env outer A₀ base h₀ L m s Q E B F X N T hh hA hf hk hd hu ret; obtain ⟨hd0, dp, frm, gd, un⟩ := A; obtain ⟨hp0, gs0, dr0, tk0, os0⟩ := s; dsimp only at hh hA hd hu F N ret; subst hh hA; have hSt := StK.mk gs0 dr0 os0; (try simp only [List.cons_append, List.nil_append] at N)
  refine wpAny_call ?_; k_dflt (refine' code_def (binds := []) ?k1 ?k2 ?k3 ?k4 ?k5 ?kA ?kF ?kK ?k6 ?k7 ?k8 ?k9 ?kB ?_ ?c2 ?c3 ?c4 ?c5; (case kA => exact rfl); (case kF => first | assumption | exact rfl); (case kK => first | assumption | exact rfl); (case k1 => k_asm); (case k2 => k_asm); (case k3 => k_asm); (case k4 => k_asm); (case k5 => k_asm); (case k6 => k_is); (case k7 => k_is); (case k8 => (walk_at "my room")); (case k9 => first | exact BindsTo.of_eq rfl | exact binds_K (by k_in) rfl (by k_is) rfl rfl rfl); (case c5 => decide); (case kB => exact locs rfl); (case c2 => exact rfl); (case c3 => exact rfl); (case c4 => exact rfl); k_whole; intro g' L' h' FG' F' N' B' X' T'; (refine gen_tk fun tk1 => ?_); (try dsimp only at N'); (try dsimp only); (try k_fold))
  k_steps
  refine' ret _ _ _ [] [] ?e1 ?e2 lt_tl0 ⟨rfl, rfl, ?e4⟩; (case e1 => k_asm); (case e2 => k_asm); (case e4 => exact ⟨_, rfl⟩)
theorem most_use {prog : Program} {w : World} {news : Led} {p : Program} {loose : List Str} {mean : ExcName → Option Value} {mg mb : Str → Option Value} {A : Around} {env : Env} {outer : List Env} {A₀ : Around} {base h₀ : Heap} {L : Addr} {m : Str → Option Value} {hp : Heap} {gs : Array GenState} {dr : Drawn} {tk0 : Nat} {os : OsState} {Q E : Value → Shared → Prop}
    (B : Below A₀ base outer h₀) (F : Fr h₀ L hp m) (X : (K w.params).In h₀) (N : News h₀ L hp news) (T : Top p loose mean mg mb h₀) (hh : A.handled = none) (hA : A.frames = some (env :: outer)) (hf : env.frame = some L) (hk : env.scope.kind = .function)
    (hd : A.depth + 2 < recursionLimit) (hu : A.units + 24 < cLine)
    (ret : ∀ t h' tk', Fr h₀ L h' m → News h₀ L h' news → Q (.int 1073741823 t) ⟨h', gs, dr, tk', os⟩) : wpAny (model prog w) A (call (.ref 704) []) Q E ⟨hp, gs, dr, tk0, os⟩ := by
  refine most_calls w news prog p loose mean mg mb A env outer A₀ base h₀ L m ⟨hp, gs, dr, tk0, os⟩ Q E B F X N T hh hA hf hk hd hu ?_
  rintro r h' tk' _ _ F' N' _ ⟨rfl, rfl, t, rfl⟩
  exact ret t h' tk' F' N'
theorem mv_none {x : Flat} {s o : Int} (h : x.mv = none) : Flat.moves s o x = false := by cases x <;> first | rfl | cases h
theorem mv_some {x : Flat} {ws : List Int} (h : x.mv = some ws) : ∃ sn w st so sh ho, x = .g sn w st so sh ho ∧ ws = [w, st, so, sh, ho] := by
  cases x <;> first | (cases h; exact ⟨_, _, _, _, _, _, rfl, rfl⟩) | cases h
theorem mvA {sn : Bool} {gw sg od st so sh ho : Int} (h1 : sg = 1) (h : st ≠ 0) : (so == od) = Flat.moves sg od (.g sn gw st so sh ho) := by
  subst h1
  unfold Flat.moves
  by_cases e : so = od <;> simp [h, e]
theorem mvB {sn : Bool} {gw sg od st so sh ho : Int} (h0 : sg ≠ 0) (h1 : sg ≠ 1) (h : sh ≠ 0) : (ho == od) = Flat.moves sg od (.g sn gw st so sh ho) := by
  unfold Flat.moves
  by_cases e : ho = od <;> simp [h, e, h0, h1]
section
set_option maxHeartbeats 4000000 in
theorem moves_calls (w : World) (x : Flat) (v : Value) (sg od : Int) (ts to : Tok) (fr0 fr : Led) (sub : ∀ p ∈ fr0, p ∈ fr) (hx : FlatIn fr0 v x) (hsg : sg = 0 ∨ sg = 1 ∨ sg = 2) :
    CallsTo w 750 [v, .int sg ts, .int od to] [] fr 2 30 (fun r mu' tl => mu' = [] ∧ tl = [] ∧ r = .bool (Flat.moves sg od x)) := by
  obtain ⟨ok, a, la, n, k, t0, wv, dv, rfl, m1, m2, W, G⟩ := hx
  have m1 := sub _ m1
  cases hmv : x.mv with
  | none =>
    rw [hmv] at G
    obtain rfl : dv = .none := G
    have hm : Flat.moves sg od x = false := mv_none hmv
    intro prog p loose mean mg mb A env outer A₀ base h₀ L m s Q E B F X N T hh hA hf hk hd hu ret; obtain ⟨hd0, dp, frm, gd, un⟩ := A; obtain ⟨hp0, gs0, dr0, tk0, os0⟩ := s; dsimp only at hh hA hd hu F N ret; subst hh hA; have hSt := StK.mk gs0 dr0 os0; (try simp only [List.cons_append, List.nil_append] at N)
    refine wpAny_call ?_; k_dflt (refine' code_def (binds := [(Str.ofString "part", .ref a), (Str.ofString "sign", .int sg ts), (Str.ofString "order", .int od to)]) ?k1 ?k2 ?k3 ?k4 ?k5 ?kA ?kF ?kK ?k6 ?k7 ?k8 ?k9 ?kB ?_ ?c2 ?c3 ?c4 ?c5; (case kA => exact rfl); (case kF => first | assumption | exact rfl); (case kK => first | assumption | exact rfl); (case k1 => k_asm); (case k2 => k_asm); (case k3 => k_asm); (case k4 => k_asm); (case k5 => k_asm); (case k6 => k_is); (case k7 => k_is); (case k8 => (walk_at "my room")); (case k9 => first | exact BindsTo.of_eq rfl | exact binds_K (by k_in) rfl (by k_is) rfl rfl rfl); (case c5 => decide); (case kB => exact locs rfl); (case c2 => exact rfl); (case c3 => exact rfl); (case c4 => exact rfl); k_whole; intro g' L' h' FG' F' N' B' X' T'; (refine gen_tk fun tk1 => ?_); (try dsimp only at N'); (try dsimp only); (try k_fold))
    k_steps
    all_goals first | exact none | skip
    all_goals (refine' ret _ _ _ [] [] ?e1 ?e2 lt_tl0 ⟨rfl, rfl, ?e4⟩; (case e1 => k_asm); (case e2 => k_asm); (case e4 => rw [hm]))
  | some ws =>
    rw [hmv] at G
    obtain ⟨sn, gw, st, so, sh, ho, rfl, rfl⟩ := mv_some hmv
    obtain ⟨ta, nt, vs, rfl, m3, iv⟩ := (G : ∃ ta n vs, dv = .ref ta ∧ (ta, tupO vs n) ∈ fr0 ∧ IntsAre vs _)
    have m3 := sub _ m3
    obtain _ | ⟨_, u1, iv⟩ := iv
    obtain _ | ⟨_, u2, iv⟩ := iv
    obtain _ | ⟨_, u3, iv⟩ := iv
    obtain _ | ⟨_, u4, iv⟩ := iv
    obtain _ | ⟨_, u5, iv⟩ := iv
    obtain _ | _ := iv
    intro prog p loose mean mg mb A env outer A₀ base h₀ L m s Q E B F X N T hh hA hf hk hd hu ret; obtain ⟨hd0, dp, frm, gd, un⟩ := A; obtain ⟨hp0, gs0, dr0, tk0, os0⟩ := s; dsimp only at hh hA hd hu F N ret; subst hh hA; have hSt := StK.mk gs0 dr0 os0; (try simp only [List.cons_append, List.nil_append] at N)
    refine wpAny_call ?_; k_dflt (refine' code_def (binds := [(Str.ofString "part", .ref a), (Str.ofString "sign", .int sg ts), (Str.ofString "order", .int od to)]) ?k1 ?k2 ?k3 ?k4 ?k5 ?kA ?kF ?kK ?k6 ?k7 ?k8 ?k9 ?kB ?_ ?c2 ?c3 ?c4 ?c5; (case kA => exact rfl); (case kF => first | assumption | exact rfl); (case kK => first | assumption | exact rfl); (case k1 => k_asm); (case k2 => k_asm); (case k3 => k_asm); (case k4 => k_asm); (case k5 => k_asm); (case k6 => k_is); (case k7 => k_is); (case k8 => (walk_at "my room")); (case k9 => first | exact BindsTo.of_eq rfl | exact binds_K (by k_in) rfl (by k_is) rfl rfl rfl); (case c5 => decide); (case kB => exact locs rfl); (case c2 => exact rfl); (case c3 => exact rfl); (case c4 => exact rfl); k_whole; intro g' L' h' FG' F' N' B' X' T'; (refine gen_tk fun tk1 => ?_); (try dsimp only at N'); (try dsimp only); (try k_fold))
    k_steps
    all_goals first | exact none | skip
    all_goals (refine' ret _ _ _ [] [] ?e1 ?e2 lt_tl0 ⟨rfl, rfl, ?e4⟩; (case e1 => k_asm); (case e2 => exact news_sub (by k_asm) (fun p hp => by repeat (first | exact hp | refine List.Mem.tail _ ?_))); (case e4 => (clear ret; apply congrArg Value.bool; first | exact mvA (by omega) (by omega) | exact mvB (by omega) (by omega) (by omega) | (unfold Flat.moves; (repeat' split) <;> first | rfl | (exfalso; omega) | (simp_all; done)))))
end
end
section
section
variable {prog : Program} {w : World} {A : Around} {E : Value → Shared → Prop} {s : Shared} {h₀ : Heap} {L : Addr} {m : Str → Option Value} {news : Led}
theorem adj_ab (a b n : Nat) (h1 : a ≤ b) (h2 : b ≤ n) : Builtin.Slice.sliceAdjust (some (a : Int)) (some (b : Int)) 1 (n : Int) = ((a : Int), (b : Int)) := by
  unfold Builtin.Slice.sliceAdjust
  have e1 : ¬ ((1 : Int) < 0) := by omega
  have e2 : ¬ ((a : Int) < 0) := by omega
  have e3 : ¬ ((b : Int) < 0) := by omega
  simp only [e1, e2, e3, if_false]
  rw [Int.min_eq_left (by omega), Int.min_eq_left (by omega)]
theorem adj_b (b n : Nat) (h2 : b ≤ n) : Builtin.Slice.sliceAdjust none (some (b : Int)) 1 (n : Int) = (((0 : Nat) : Int), (b : Int)) := by
  unfold Builtin.Slice.sliceAdjust
  have e1 : ¬ ((1 : Int) < 0) := by omega
  have e3 : ¬ ((b : Int) < 0) := by omega
  simp only [e1, e3, if_false]
  rw [Int.min_eq_left (by omega)]
  rfl
theorem places_ab (a b : Nat) (h : a ≤ b) : Builtin.Slice.slicePlaces (a : Int) (b : Int) 1 = b - a := by
  unfold Builtin.Slice.slicePlaces
  have h1 : (1 : Int) > 0 := by omega
  simp only [h1, if_true, Int.ediv_one]
  split <;> omega
theorem applied_ab {sl : Addr} {a b n : Nat} {u v : Tok} {Q : Int × Int × Nat → Shared → Prop} (hs : s.heap.IsSliceOf sl (.int a u) (.int b v) .none) (h1 : a ≤ b) (h2 : b ≤ n) (h : Q ((a : Int), 1, b - a) s) :
    wpAny (model prog w) A (Builtin.Slice.sliceApplied (.ref sl) (pure (n : Int))) Q E s := by
  obtain ⟨os, hos, hcs, hds⟩ := id hs
  unfold Builtin.Slice.sliceApplied Builtin.Slice.sliceFields
  refine wpAny_bind (wpAny_bind (wpAny_field hos hds (x := .int a u) rfl (wpAny_bind (wpAny_field hos hds (x := .int b v) rfl (wpAny_bind (wpAny_field hos hds (x := .none) rfl (wpAny_pure ?_)))))))
  refine wpAny_bind (slicePart_none ?_)
  show wpAny _ _ (if ((1 : Int) == 0) = true then _ else _) _ _ s
  rw [if_neg (by decide)]
  refine wpAny_bind (slicePart_int (wpAny_bind (slicePart_int (wpAny_bind (wpAny_pure ?_)))))
  show wpAny _ _ (match Builtin.Slice.sliceAdjust (some (a : Int)) (some (b : Int)) 1 (n : Int) with | (lo, hi) => pure (lo, (1 : Int), Builtin.Slice.slicePlaces lo hi 1)) _ _ s
  rw [adj_ab a b n h1 h2]
  show wpAny _ _ (pure ((a : Int), (1 : Int), Builtin.Slice.slicePlaces (a : Int) (b : Int) 1)) _ _ s
  rw [places_ab a b h1]
  exact wpAny_pure h
theorem applied_b {sl : Addr} {b n : Nat} {v : Tok} {Q : Int × Int × Nat → Shared → Prop} (hs : s.heap.IsSliceOf sl .none (.int b v) .none) (h2 : b ≤ n) (h : Q (((0 : Nat) : Int), 1, b) s) :
    wpAny (model prog w) A (Builtin.Slice.sliceApplied (.ref sl) (pure (n : Int))) Q E s := by
  obtain ⟨os, hos, hcs, hds⟩ := id hs
  unfold Builtin.Slice.sliceApplied Builtin.Slice.sliceFields
  refine wpAny_bind (wpAny_bind (wpAny_field hos hds (x := .none) rfl (wpAny_bind (wpAny_field hos hds (x := .int b v) rfl (wpAny_bind (wpAny_field hos hds (x := .none) rfl (wpAny_pure ?_)))))))
  refine wpAny_bind (slicePart_none ?_)
  show wpAny _ _ (if ((1 : Int) == 0) = true then _ else _) _ _ s
  rw [if_neg (by decide)]
  refine wpAny_bind (slicePart_none (wpAny_bind (slicePart_int (wpAny_bind (wpAny_pure ?_)))))
  show wpAny _ _ (match Builtin.Slice.sliceAdjust none (some (b : Int)) 1 (n : Int) with | (lo, hi) => pure (lo, (1 : Int), Builtin.Slice.slicePlaces lo hi 1)) _ _ s
  rw [adj_b b n h2]
  show wpAny _ _ (pure (((0 : Nat) : Int), (1 : Int), Builtin.Slice.slicePlaces ((0 : Nat) : Int) (b : Int) 1)) _ _ s
  rw [places_ab 0 b (Nat.zero_le _)]
  exact wpAny_pure h
theorem get_tup_slice {t sl : Addr} {items : Array Value} {a k : Nat} {zs : List Value} {Q : Value → Shared → Prop} (ht : IsTup s.heap t items) {va vb : Value} (hs : s.heap.IsSliceOf sl va vb .none)
    (ap : ∀ {R : Int × Int × Nat → Shared → Prop}, R ((a : Int), 1, k) s → ∀ {A : Around} {E : Value → Shared → Prop}, wpAny (model prog w) A (Builtin.Slice.sliceApplied (.ref sl) (pure (items.size : Int))) R E s)
    (hk : k ≠ items.size) (e : ((List.range k).filterMap fun (j : Nat) => items[((a : Int) + (j : Int) * 1).toNat]?).toArray = zs.toArray) (hz : zs.length ≤ sizeLine)
    (h : Q (.ref s.heap.objs.size) { s with heap := s.heap.push { cls := .type "tuple", data := .seq zs.toArray } }) : wpAny (model prog w) A (getItem (.ref t) (.ref sl)) Q E s := by
  have hdrop : sizeOk (.seq zs.toArray) := by
    show zs.toArray.size ≤ sizeLine
    rw [List.size_toArray]; exact hz
  obtain ⟨os, hos, hcs, hds⟩ := id hs
  have hTs : s.TypeIs (.ref sl) "slice" := ⟨os, hos, hcs⟩
  unfold getItem
  try with_reducible refine wpAny_holding ?_
  first | refine wpAny_bind (wpAny_pure ?_) | skip
  refine wpAny_bind (wpAny_sequenceKey ht.typeIs (by decide) ?_)
  refine wpAny_bind (wpAny_callSpecial?_slot (name := Str.ofString "__getitem__") ht.typeIs slot_tuple_getitem
    (wpAny_call_entry slot_tuple_getitem ht.typeIs entry_tuple_getitem ?_ (args_tuple_getitem _ _)))
  show wpAny _ _ (Builtin.Tuple.tupleItemsOf (.ref t) >>= _) _ _ s
  refine wpAny_bind (tupleItemsOf_ ht ?_)
  refine wpAny_bind (wpAny_typeOf hTs ?_)
  rw [if_pos (by decide)]
  refine wpAny_bind (ap ?_)
  have hno : ¬ (((a : Int) == 0 && (1 : Int) == 1 && k == items.size) = true) := by
    have : (k == items.size) = false := by rw [beq_eq_false_iff_ne]; exact hk
    rw [this]; simp
  show wpAny _ _ (if ((a : Int) == 0 && (1 : Int) == 1 && k == items.size) = true then _ else _) _ _ s
  rw [if_neg hno, e]
  first
    | exact wpAny_bind (m := Builtin.Tuple.tupleExact _) (wpAny_newObj_type (wpAny_pure ⟨_, rfl, wpAny_pure h⟩) hdrop)
    | exact wpAny_bind (m := Builtin.Tuple.tupleExact _) (wpAny_newObj_type (wpAny_bind (wpAny_pure (wpAny_pure ⟨_, rfl, wpAny_pure h⟩))) hdrop)
    | exact wpAny_bind (wpAny_bind (m := Builtin.Tuple.tupleExact _) (wpAny_newObj_type (wpAny_pure (wpAny_pure ⟨_, rfl, wpAny_pure h⟩)) hdrop))
    | exact wpAny_bind (wpAny_bind (m := Builtin.Tuple.tupleExact _) (wpAny_newObj_type (wpAny_pure ⟨_, rfl, wpAny_pure h⟩) hdrop))
theorem tup_slice {value slice : Expr} {t : Addr} {items : Array Value} {a k : Nat} {zs : List Value} {va vb : Value} {Q : Value → Shared → Prop} (F : Fr h₀ L s.heap m) (N : News h₀ L s.heap news) (ht : IsTup s.heap t items)
    (ap : ∀ {s : Shared} {sl : Addr}, s.heap.IsSliceOf sl va vb .none → ∀ {R : Int × Int × Nat → Shared → Prop}, R ((a : Int), 1, k) s → ∀ {A : Around} {E : Value → Shared → Prop}, wpAny (model prog w) A (Builtin.Slice.sliceApplied (.ref sl) (pure (items.size : Int))) R E s)
    (hk : k ≠ items.size) (e : ((List.range k).filterMap fun (j : Nat) => items[((a : Int) + (j : Int) * 1).toNat]?) = zs) (hz : zs.length ≤ 100)
    (h : ∀ D h', Fr h₀ L h' m → News h₀ L h' ((D, tupO zs 0) :: news) → (∀ p ∈ news, p.1 < D) → Q (.ref D) { s with heap := h' })
    (hs : subscripted slice false (.ref t) (.ref s.heap.objs.size) = operate [.ref s.heap.objs.size, .ref t] (getItem (.ref t) (.ref s.heap.objs.size)) := by with_unfolding_all rfl)
    (hg : ∀ r, letTemporaryGo value (.ref t) r = pure () := by intro _; with_unfolding_all rfl) :
    wpAny (model prog w) A (subscriptTail value slice (.ref t) (.ref s.heap.objs.size)) Q E { s with heap := s.heap.push { cls := .type "slice", data := .fields #[va, vb, .none] } } := by
  have ht' : IsTup (s.heap.push { cls := .type "slice", data := .fields #[va, vb, .none] }) t items := ht.keeps fun _ _ e => Heap.get?_push_of_some _ e
  refine subscriptTail_ops (s := { s with heap := s.heap.push { cls := .type "slice", data := .fields #[va, vb, .none] } }) ht'.typeIs slot_tuple_getitem.lookup
    (get_tup_slice ht' (Heap.IsSliceOf.new ..) (ap (Heap.IsSliceOf.new ..)) hk (congrArg _ e) (by rw [PySem.sizeLine_eq]; omega) ?_) hs hg
  have N1 := News.push (F.push { cls := .type "slice", data := .fields #[va, vb, .none] }) (N.grown fun _ _ e => Heap.get?_push_of_some _ e) { cls := .type "tuple", data := .seq zs.toArray }
  rw [Heap.size_push] at N1
  show Q (.ref (s.heap.push _).objs.size) _
  rw [Heap.size_push]
  exact h _ _ ((F.push _).push _) N1 fun p hp => Nat.lt_succ_of_lt (Heap.lt_size (N p hp).1)
end
section
variable {prog : Program} {w : World} {A : Around} {E : Value → Shared → Prop} {s : Shared} {h₀ : Heap} {L : Addr} {m : Str → Option Value} {news : Led}
theorem slice17 {value slice : Expr} {t : Addr} {n : Nat} {x0 x1 x2 x3 x4 x5 x6 : Value} {u v : Tok} {Q : Value → Shared → Prop} (F : Fr h₀ L s.heap m) (N : News h₀ L s.heap news) (ht : (t, tupO [x0, x1, x2, x3, x4, x5, x6] n) ∈ news)
    (h : ∀ D h', Fr h₀ L h' m → News h₀ L h' ((D, tupO [x1, x2, x3, x4, x5, x6] 0) :: news) → (∀ p ∈ news, p.1 < D) → Q (.ref D) { s with heap := h' })
    (hs : subscripted slice false (.ref t) (.ref s.heap.objs.size) = operate [.ref s.heap.objs.size, .ref t] (getItem (.ref t) (.ref s.heap.objs.size)))
    (hg : ∀ r, letTemporaryGo value (.ref t) r = pure ()) :
    wpAny (model prog w) A (subscriptTail value slice (.ref t) (.ref s.heap.objs.size)) Q E { s with heap := s.heap.push { cls := .type "slice", data := .fields #[.int 1 u, .int 7 v, .none] } } :=
  tup_slice (a := 1) (k := 6) F N (News.isTup N ht) (fun hs _ h _ _ => applied_ab (a := 1) (b := 7) (n := 7) hs (by decide) (by decide) h) (show (6 : Nat) ≠ 7 by decide) rfl (show (6 : Nat) ≤ 100 by decide) h hs hg
theorem slice4 {value slice : Expr} {t : Addr} {n : Nat} {x0 x1 x2 x3 x4 x5 : Value} {v : Tok} {Q : Value → Shared → Prop} (F : Fr h₀ L s.heap m) (N : News h₀ L s.heap news) (ht : (t, tupO [x0, x1, x2, x3, x4, x5] n) ∈ news)
    (h : ∀ D h', Fr h₀ L h' m → News h₀ L h' ((D, tupO [x0, x1, x2, x3] 0) :: news) → (∀ p ∈ news, p.1 < D) → Q (.ref D) { s with heap := h' })
    (hs : subscripted slice false (.ref t) (.ref s.heap.objs.size) = operate [.ref s.heap.objs.size, .ref t] (getItem (.ref t) (.ref s.heap.objs.size)))
    (hg : ∀ r, letTemporaryGo value (.ref t) r = pure ()) :
    wpAny (model prog w) A (subscriptTail value slice (.ref t) (.ref s.heap.objs.size)) Q E { s with heap := s.heap.push { cls := .type "slice", data := .fields #[.none, .int 4 v, .none] } } :=
  tup_slice (a := 0) (k := 4) F N (News.isTup N ht) (fun hs _ h _ _ => applied_b (b := 4) (n := 6) hs (by decide) h) (show (4 : Nat) ≠ 6 by decide) rfl (show (4 : Nat) ≤ 100 by decide) h hs hg
end
end
section
theorem idFr {h₀ h : Heap} {L : Addr} {m : Str → Option Value} (F : Fr h₀ L h m) : Fr h₀ L h m := F
theorem for_list_ext {prog : Program} {w : World} {A : Around} {E : Value → Shared → Prop} {s : Shared} {h₀ : Heap} {env : Env} {a l : Addr} {its : Array Value} {k : Nat} {rest : Led} {m₀ : Str → Option Value} {x : Str} {body : List Stmt} {Q : Flow → Shared → Prop} (Inv : Nat → List Value → Prop) (hh : A.handled = none) (F : Fr h₀ env.locals s.heap m₀)
    (N : News h₀ env.locals s.heap ((l, listOf ([] : List Value).toArray 0) :: rest)) (hm : (a, ({ cls := .type "list", data := .seq its k } : Obj)) ∈ rest) (h0 : Inv 0 [])
    (turn : ∀ (i : Nat) v fvs kk I oI h tk, its[i]? = some v → Inv i fvs → LCg.Off1 I ((l, listOf fvs.toArray kk) :: rest) → Fr h₀ env.locals h (fun y => if y = x then some v else m₀ y) → News h₀ env.locals h ((I, oI) :: (l, listOf fvs.toArray kk) :: rest) →
      wpAny (model prog w) A (execs body env) (ForPost h₀ env.locals (fun m' nx => ∃ fvs kk, nx = (l, listOf fvs.toArray kk) :: rest ∧ Inv (i + 1) fvs ∧ ∀ y, y ≠ x → m' y = m₀ y) I oI { s with heap := h, toks := tk } Q) E { s with heap := h, toks := tk })
    (done : ∀ u fvs kk h tk, Inv its.size fvs → Fr h₀ env.locals h (fun y => if y = x then u else m₀ y) → News h₀ env.locals h ((l, listOf fvs.toArray kk) :: rest) → Q .next { s with heap := h, toks := tk }) :
    wpAny (model prog w) A (pyIter (.ref a)) (fun it s₂ => LoopAtV prog w A h₀ env x body Q E it s₂) E s := by
  refine for_list (fun i m₁ nw => ∃ fvs kk, nw = (l, listOf fvs.toArray kk) :: rest ∧ Inv i fvs ∧ ∀ y, y ≠ x → m₁ y = m₀ y) hh F N ⟨[], 0, rfl, h0, fun _ _ => rfl⟩ (fun _ _ _ h => by obtain ⟨_, _, rfl, _⟩ := h; exact .tail _ hm) ?_ ?_
  · rintro i v m₁ nw I oI h tk hv ⟨fvs, kk, rfl, hi, hj⟩ o F' N'
    rw [keep_map hj] at F'
    exact turn i v fvs kk I oI h tk hv hi o F' N'
  · rintro m₁ nw h tk ⟨fvs, kk, rfl, hi, hj⟩ F' N'
    rw [keep_done hj] at F'
    exact done _ fvs kk h tk hi F' N'
theorem ext_any {prog : Program} {w : World} {A : Around} {E : Value → Shared → Prop} {s : Shared} {h₀ : Heap} {L D b : Addr} {m : Str → Option Value} {news : Led} {g : Nat → Led} {fvs ws : List Value} {n n2 : Nat} {Q : Value → Shared → Prop}
    (F : Fr h₀ L s.heap m) (N : News h₀ L s.heap news) (hb : (b, listOf ws.toArray n2) ∈ news) (U : ∀ k, Upd D (listOf fvs.toArray n) (listOf (fvs ++ ws).toArray k) news (g k)) (h1 : fvs.length ≤ 50) (h2 : ws.length ≤ 50)
    (h : ∀ h' k, Fr h₀ L h' m → News h₀ L h' (g k) → Q .none { s with heap := h' }) : wpAny (model prog w) A (call (.builtin "list.extend") [.ref D, .ref b]) Q E s := by
  have hd : ¬(!fvs.toArray.isEmpty && Builtin.List.listTooLong (fvs.toArray.size + ws.toArray.size)) = true := by
    simp [Builtin.List.listTooLong, PySem.sizeLine_eq]; omega
  have z1 : fvs.toArray.toList.length ≤ sizeLine := by rw [PySem.sizeLine_eq]; simp; omega
  have z2 : fvs.toArray.size + ws.toArray.size ≤ sizeLine + 1 := by rw [PySem.sizeLine_eq]; simp; omega
  by_cases e : ws = []
  · subst e
    refine kxn_extend (n := n) F N hb rfl ?_ hd z1 z2 fun h' F' N' => h h' n F' N'
    have := U n
    rwa [List.append_nil] at this
  · refine kl_extend (l := fvs ++ ws) F N hb (by simp) ?_ (U (n + 1)) hd z1 z2 fun h' F' N' => h h' (n + 1) F' N'
    simpa using e
theorem ne_of_all {d : Addr} {l : Led} (h : AllLt d l) : ∀ p ∈ l, p.1 ≠ d := fun p hp => Nat.ne_of_lt (ktn_ltOf h p hp)
theorem flats_len {fr0 : Led} {vs : List Value} {ps : List Part} (h : All2 (PartIn fr0) vs ps) : ∀ i, (flats (ps.take i)).length ≤ 2 * vs.length := by
  induction h with
  | nil => intro i; simp [flats]
  | @cons v x vs ps hx _ ih =>
    intro i
    cases i with
    | zero => simp [flats]
    | succ i =>
      have h1 := ih i
      have h2 : (flatP x).length ≤ 2 := by
        cases x with
        | f x => simp [flatP]
        | c xs => exact hx.2.1
      simp only [flats, List.take_succ_cons, List.flatMap_cons, List.length_append, List.length_cons] at h1 ⊢
      omega
theorem all2_app {α β : Type} {R : α → β → Prop} {a c : List α} {b d : List β} (h : All2 R a b) (k : All2 R c d) : All2 R (a ++ c) (b ++ d) := by
  induction h with
  | nil => exact k
  | cons x _ ih => exact .cons x ih
theorem ForPost.ext {h₀ h' : Heap} {L I l : Addr} {oI : Obj} {m₀ m' : Str → Option Value} {rest : Led} {fvs fv0 : List Value} {kk k0 tk i : Nat} {x : Str} {Inv : Nat → List Value → Prop} {s₁ : Shared} {Q : Flow → Shared → Prop} (F : Fr h₀ L h' m') (N : News h₀ L h' ((I, oI) :: (l, listOf fvs.toArray kk) :: rest)) (o : LCg.Off1 I ((l, listOf fv0.toArray k0) :: rest)) (inv : Inv (i + 1) fvs) (hm : ∀ y, y ≠ x → m' y = m₀ y) :
    ForPost h₀ L (fun m' nx => ∃ fvs kk, nx = (l, listOf fvs.toArray kk) :: rest ∧ Inv (i + 1) fvs ∧ ∀ y, y ≠ x → m' y = m₀ y) I oI s₁ Q .next { s₁ with heap := h', toks := tk } := ⟨h', tk, m', _, rfl, F, N, ⟨o.1, o.2⟩, fvs, kk, rfl, inv, hm⟩
theorem sort_c {x : Flat} : (x.sort == Str.ofString "c") = false := by
  cases x with
  | g s _ _ _ _ _ => cases s <;> rfl
  | _ => rfl
theorem comp_pick {β : Type} {R : Value → β → Prop} {keep : Nat → Option β} {prog : Program} {w : World} {A : Around} {h₀ : Heap} {L : Addr} {m : Str → Option Value} {env : Env} {ct elt : Expr} {x : Str} {scope : Scope} {cl : List (Str × Addr)} {s : Shared} {S : Led → Prop} {P : Nat → Value → Prop} {Fin : List Value → Led → Prop} {n : Nat} {news : Led} (hS : S news)
    (turn : ∀ i v ys I oI C oC D m₂ h tk (E' : Value → Shared → Prop), i < n → P i v → LCg.NsObj oC m₂ → m₂ x = some v → Fr h₀ L h m → News h₀ L h ((I, oI) :: (C, oC) :: (D, LCg.lst ys) :: news) → LCg.Off3 I C D news → ((@Ne Nat I C) ∧ (@Ne Nat I D) ∧ (@Ne Nat C D)) →
      wpAny (model prog w) A (isTrue ct (compEnvC scope cl C env) (eval ct (compEnvC scope cl C env))) (fun ok s' => if ok = true then
        wpAny (model prog w) A (eval elt (compEnvC scope cl C env)) (Keep h₀ L m { s with heap := h, toks := tk } ((I, oI) :: (C, oC) :: (D, LCg.lst ys) :: news) (fun y => ∃ z, keep i = some z ∧ R y z)) E' s'
        else Keep h₀ L m { s with heap := h, toks := tk } ((I, oI) :: (C, oC) :: (D, LCg.lst ys) :: news) (fun _ => keep i = none) Value.none s') E' { s with heap := h, toks := tk })
    (fin : ∀ ys, All2 R ys ((List.range n).filterMap keep) → Fin ys news) : LCt.CompRestT prog w A h₀ L m env ct elt x scope cl s S P Fin n 0 [] news := by
  refine comp_invT (fun i ys nw => nw = news ∧ All2 R ys ((List.range i).filterMap keep)) ?_ ?_ ⟨rfl, .nil⟩
  · rintro i v ys nw I oI C oC D m₂ h tk E' hi ⟨rfl, hz⟩ hv hC hx F N off ne
    refine wpAny_mono (turn i v ys I oI C oC D m₂ h tk E' hi hv hC hx F N off ne) (fun ok s' hq => ?_) fun _ _ e => e
    by_cases ho : ok = true
    · rw [if_pos ho] at hq ⊢
      refine wpAny_mono hq ?_ fun _ _ e => e
      rintro y s2 ⟨h', tk', rfl, F', N', z, hk, hr⟩
      refine ⟨h', tk', nw, rfl, F', N', off, hS, rfl, ?_⟩
      rw [List.range_succ, List.filterMap_append]
      simpa [hk] using hz.snoc hr
    · rw [if_neg ho] at hq ⊢
      obtain ⟨h', tk', rfl, F', N', hk⟩ := hq
      refine ⟨h', tk', nw, rfl, F', N', off, hS, rfl, ?_⟩
      rw [List.range_succ, List.filterMap_append]
      simpa [hk] using hz
  · rintro ys nw ⟨rfl, hz⟩
    exact fin ys hz
def pick (p : Flat → Bool) (l : List Flat) (i : Nat) : Option Nat := (l[i]?).bind fun x => if p x then some i else none
theorem idxOf_range (p : Flat → Bool) : ∀ (l : List Flat) (k : Nat), idxOf p l k = (List.range l.length).filterMap fun i => (pick p l i).map (· + k) := by
  intro l
  induction l with
  | nil => intro k; rfl
  | cons x l ih =>
    intro k
    have e : (List.range l.length).filterMap ((fun i => (pick p (x :: l) i).map (· + k)) ∘ Nat.succ) = idxOf p l (k + 1) := by
      rw [ih (k + 1)]
      congr 1
      funext i
      simp only [Function.comp, pick, Nat.succ_eq_add_one, List.getElem?_cons_succ]
      cases l[i]? with
      | none => rfl
      | some y => by_cases h : p y <;> simp [h] <;> omega
    simp only [idxOf, List.length_cons, List.range_succ_eq_map, List.filterMap_cons, List.filterMap_map]
    rw [e]
    by_cases h : p x <;> simp [pick, h]
theorem idxOf_pick (p : Flat → Bool) (l : List Flat) (n : Nat) (hn : n = l.length) : (List.range n).filterMap (pick p l) = idxOf p l 0 := by
  subst hn
  rw [idxOf_range p l 0]
  congr 1
  funext i
  cases pick p l i <;> simp
theorem picks_ints {ys : List Value} {ks : List Nat} (h : All2 (fun v (k : Nat) => ∃ t, v = Value.int (k : Int) t) ys ks) : IntsAre ys (ks.map (fun k : Nat => (k : Int))) := by
  induction h with
  | nil => exact .nil
  | cons hx _ ih =>
    obtain ⟨t, rfl⟩ := hx
    exact .cons _ t ih
theorem pick_yes {p : Flat → Bool} {l : List Flat} {i : Nat} {x : Flat} {t : Tok} (hx : l[i]? = some x) (hp : p x = true) : ∃ z, pick p l i = some z ∧ ∃ t', Value.int (0 + (i : Int)) t = .int (z : Int) t' := ⟨i, by simp [pick, hx, hp], t, by rw [Int.zero_add]⟩
theorem pick_no {p : Flat → Bool} {l : List Flat} {i : Nat} {x : Flat} (hx : l[i]? = some x) (hp : p x = false) : pick p l i = none := by simp [pick, hx, hp]
theorem sub_t {a b : Led} {x : Addr × Obj} (h : ∀ p ∈ a, p ∈ b) : ∀ p ∈ a, p ∈ x :: b := fun p hp => .tail _ (h p hp)
theorem sub_last {prog : Program} {w : World} {A : Around} {E : Value → Shared → Prop} {s : Shared} {h₀ : Heap} {L a : Addr} {m : Str → Option Value} {news : Led} {Q : Value → Shared → Prop} {value slice : Expr} {vs : List Value} {n : Nat} {u : Tok} {v : Value} (N : News h₀ L s.heap news) (hm : (a, listOf vs.toArray n) ∈ news) (hx : vs.getLast? = some v) (h : Q v s)
    (hs : subscripted slice false (.ref a) (.int (-1) u) = operate [.ref a, .int (-1) u] (getItem (.ref a) (.int (-1) u)) := by with_unfolding_all rfl) :
    wpAny (model prog w) A (subscriptTail value slice (.ref a) (.int (-1) u)) Q E s := by
  have hL : s.heap.IsList a vs.toArray := ⟨_, N.get hm, rfl, n, rfl⟩
  have hne : vs ≠ [] := by intro e; subst e; cases hx
  have hp : 0 < vs.length := List.length_pos_iff.mpr hne
  refine tail_any hL.typeIs slot_list_getitem.lookup (wpAny_getItem_list_neg hL (by omega) (by simp only [List.size_toArray]; omega) (by omega) ?_ h) hs
  rw [List.getLast?_eq_getElem?] at hx
  rw [← hx, List.size_toArray, show ((-1 : Int) + (vs.length : Int)).toNat = vs.length - 1 by omega]
  simp
theorem sl_upto {prog : Program} {w : World} {A : Around} {E : Value → Shared → Prop} {s : Shared} {h₀ : Heap} {L l : Addr} {m : Str → Option Value} {news : Led} {value slice : PySem.Expr} {vs : List Value} {n : Nat} {j : Nat} {t : Tok} {Q : Value → Shared → Prop} (F : Fr h₀ L s.heap m) (N : News h₀ L s.heap news) (hm : (l, listOf vs.toArray n) ∈ news) (hz : vs.length ≤ 40)
    (h : ∀ D h', Fr h₀ L h' m → News h₀ L h' ((D, listOf (vs.take (j + 1)).toArray 0) :: news) → (∀ p ∈ news, p.1 < D) → Q (.ref D) { s with heap := h' })
    (hs : subscripted slice false (.ref l) (.ref s.heap.objs.size) = operate [.ref s.heap.objs.size, .ref l] (getItem (.ref l) (.ref s.heap.objs.size))) (ht : ∀ r, letTemporaryGo value (.ref l) r = pure ()) :
    wpAny (model prog w) A (subscriptTail value slice (.ref l) (.ref s.heap.objs.size)) Q E { s with heap := s.heap.push { cls := .type "slice", data := .fields #[.none, .int ((j : Int) + 1) t, .none] } } := by
  refine kms_slice_lit F N (News.isList N hm) .none (.int _ t) ?_ h hs ht (by rw [PySem.sizeLine_eq]; simp only [List.size_toArray]; omega)
  have e1 : kms_lo none vs.toArray.toList.length = 0 := rfl
  have e2 : kms_hi (some ((j : Int) + 1)) vs.toArray.toList.length = min (j + 1) vs.length := by
    unfold kms_hi
    (try dsimp only)
    rw [if_neg (by omega), show ((j : Int) + 1).toNat = j + 1 by omega]
  unfold kms_pick
  rw [e1, e2]
  simp
theorem all2_last {α β : Type} {R : α → β → Prop} {a : List α} {b : List β} (h : All2 R a b) {y : β} (hy : b.getLast? = some y) : ∃ x, a.getLast? = some x ∧ R x y := by
  rw [List.getLast?_eq_getElem?] at hy
  obtain ⟨hlt, _⟩ := List.getElem?_eq_some_iff.mp hy
  have hl := h.length
  have ha : a[a.length - 1]? = some a[a.length - 1] := List.getElem?_eq_getElem (by omega)
  obtain ⟨y', e, hr⟩ := h.get ha
  rw [hl] at e
  rw [hy] at e
  cases e
  exact ⟨_, by rw [List.getLast?_eq_getElem?]; exact ha, hr⟩
theorem due_nil {mv : Flat → Bool} {l : List Flat} {a : Int} {js : List Nat} (e : idxOf Flat.seen l 0 = js) (h : decide (js.map (fun k : Nat => (k : Int)) = []) = true) : dueOf mv l a = -1073741823 := by
  have h2 := of_decide_eq_true h
  obtain rfl : js = [] := List.map_eq_nil_iff.mp h2
  unfold dueOf
  rw [e]
  rfl
theorem last_of {l : List Flat} {js : List Nat} (e : idxOf Flat.seen l 0 = js) (h : decide (js.map (fun k : Nat => (k : Int)) = []) = false) : ∃ j, js.getLast? = some j ∧ j < l.length := by
  have h2 := of_decide_eq_false h
  have h3 : js ≠ [] := fun e => h2 (by rw [e]; rfl)
  refine ⟨js.getLast h3, List.getLast?_eq_some_getLast h3, ?_⟩
  have := idxOf_lt Flat.seen l 0 (js.getLast h3) (by rw [e]; exact List.getLast_mem h3)
  omega
theorem clamp_flat {mv : Flat → Bool} {l : List Flat} {a : Int} {j : Nat} (e : (idxOf Flat.seen l 0).getLast? = some j) (h : idxOf mv l 0 = [] ∨ ∃ i r, idxOf mv l 0 = i :: r ∧ j < i) : dueOf mv l a = clampI (a + sumW (l.take (j + 1))) := by
  unfold dueOf
  rw [e]
  rcases h with h | ⟨i, r, h, h2⟩
  · rw [h]; rfl
  · rw [h]
    dsimp only [List.head?]
    rw [if_neg (by omega)]
theorem due_most {mv : Flat → Bool} {l : List Flat} {a : Int} {j i : Nat} {r : List Nat} (e : (idxOf Flat.seen l 0).getLast? = some j) (h : idxOf mv l 0 = i :: r) (hij : (i : Int) ≤ j) : dueOf mv l a = 1073741823 := by
  unfold dueOf
  rw [e, h]
  dsimp only [List.head?]
  rw [if_pos (by omega)]
  rfl
theorem ne_cons_nil {prog : Program} {w : World} {A : Around} {E : Value → Shared → Prop} {s : Shared} {a b : Addr} {x : Value} {xs : List Value} {z : Int} {zs : List Int} {Q : Value → Shared → Prop} (ha : s.heap.IsList a (x :: xs).toArray) (hb : s.heap.IsList b ([] : List Value).toArray) (hi : IntsAre (x :: xs) (z :: zs)) (hu : A.units + 64 < cLine) (h : Q (.bool true) s) :
    wpAny (model prog w) A (compareOp .NotEq (.ref a) (.ref b)) Q E s := ke_ne_ints (ns := z :: zs) ha hb hi IntsAre.nil hu h
theorem ne_nil_nil {prog : Program} {w : World} {A : Around} {E : Value → Shared → Prop} {s : Shared} {a b : Addr} {Q : Value → Shared → Prop} (ha : s.heap.IsList a ([] : List Value).toArray) (hb : s.heap.IsList b ([] : List Value).toArray) (hu : A.units + 64 < cLine) (h : Q (.bool false) s) :
    wpAny (model prog w) A (compareOp .NotEq (.ref a) (.ref b)) Q E s := ke_ne_ints (ns := []) ha hb IntsAre.nil IntsAre.nil hu h
theorem width_ints {ys : List Value} {l : List Flat} (h : All2 (fun v (x : Flat) => ∃ t, v = Value.int x.width t) ys l) : IntsAre ys (l.map Flat.width) := by
  induction h with
  | nil => exact .nil
  | cons hx _ ih =>
    obtain ⟨t, rfl⟩ := hx
    exact .cons _ t ih
theorem clamp_if (x : Int) : (if (if x < 1073741823 then x else 1073741823) > -1073741823 then if x < 1073741823 then x else 1073741823 else -1073741823) = clampI x := by
  unfold clampI mostI
  rw [Int.min_def, Int.max_def]
  repeat' split
  all_goals omega
def hitB (mi : List Nat) (j : Nat) : Bool := match mi with
  | [] => false
  | i :: _ => decide ((i : Int) ≤ (j : Int))
theorem hit_t {i j : Nat} {l : List Nat} (h : (i : Int) ≤ (j : Int)) : true = hitB (i :: l) j := (decide_eq_true h).symm
theorem hit_f {i j : Nat} {l : List Nat} (h : ¬ (i : Int) ≤ (j : Int)) : false = hitB (i :: l) j := (decide_eq_false h).symm
theorem due_hit {mv : Flat → Bool} {l : List Flat} {a : Int} {j : Nat} {mi : List Nat} (e : (idxOf Flat.seen l 0).getLast? = some j) (h : idxOf mv l 0 = mi) (hh : hitB mi j = true) : dueOf mv l a = 1073741823 := by
  cases mi with
  | nil => cases hh
  | cons i r => exact due_most e h (of_decide_eq_true hh)
theorem due_no {mv : Flat → Bool} {l : List Flat} {a : Int} {j : Nat} {mi : List Nat} (e : (idxOf Flat.seen l 0).getLast? = some j) (h : idxOf mv l 0 = mi) (hh : hitB mi j = false) : dueOf mv l a = clampI (a + sumW (l.take (j + 1))) := by
  cases mi with
  | nil => exact clamp_flat e (.inl h)
  | cons i r =>
    have := of_decide_eq_false hh
    exact clamp_flat e (.inr ⟨i, r, h, by omega⟩)
theorem join_test2 {prog : Program} {w : World} {A : Around} {E : Value → Shared → Prop} {s : Shared} {h₀ h₁ : Heap} {L : Addr} {m : Str → Option Value} {news : Led} {t : Sem Bool} {Q : Bool → Shared → Prop} {good : Bool} (F₀ : Fr h₀ L h₁ m) (N₀ : News h₀ L h₁ news)
    (h : wpAny (model prog w) A t (TestPost h₀ L m news s good) E s) (kt : ∀ h' tk', good = true → Fr h₀ L h' m → News h₀ L h' news → Q true { s with heap := h', toks := tk' }) (kf : ∀ h' tk', good = false → Fr h₀ L h' m → News h₀ L h' news → Q false { s with heap := h', toks := tk' }) : wpAny (model prog w) A t Q E s :=
  join_test F₀ N₀ h fun h' tk' F N => by
    cases good with
    | true => exact kt h' tk' rfl F N
    | false => exact kf h' tk' rfl F N
section
local macro_rules | `(tactic| walk_at "isTrue BoolOp") => `(tactic| (k_here; (fail_if_success (with_reducible show wpAny _ _ _ (TestPost _ _ _ _ _ _) _ _)); refine halt_of ?_))
local macro_rules | `(tactic| walk_at "exec Assign cons ListComp") => `(tactic| refine halt_of ?_)
local macro_rules | `(tactic| walk_at "eval ListComp") => `(tactic| refine halt_of ?_)
local macro_rules | `(tactic| walk_at "CompSrc") => `(tactic| refine halt_of ?_)
local macro_rules | `(tactic| walk_at "CompSrcT") => `(tactic| refine halt_of ?_)
local macro_rules | `(tactic| walk_at "subscriptTail Name Name ref int") => `(tactic| refine halt_of ?_)
local macro_rules | `(tactic| walk_at "compareOp Eq ref ref") => `(tactic| refine halt_of ?_)
local macro_rules | `(tactic| walk_at "compareOp NotEq ref ref") => `(tactic| refine halt_of ?_)
local macro_rules | `(tactic| walk_at "subscriptTail Name UnaryOp ref int") => `(tactic| refine halt_of ?_)
local macro_rules | `(tactic| walk_at "subscriptTail Name Slice ref ref") => `(tactic| refine halt_of ?_)
local macro_rules | `(tactic| walk_at "call ref") => `(tactic| refine halt_of ?_)
local macro_rules | `(tactic| walk_at "exec For Name Name cons nil") => `(tactic| refine halt_of ?_)
local macro_rules | `(tactic| walk_at "pyIter ref") => `(tactic| refine halt_it ?_)
set_option maxHeartbeats 8000000 in
theorem due_calls (w : World) (pa : Addr) (pk : Nat) (vs : List Value) (ps : List Part) (aside quad sg od : Int) (ta tq ts to : Tok) (fr0 fr : Led) (sub : ∀ p ∈ fr0, p ∈ fr) (hm : (pa, listOf vs.toArray pk) ∈ fr0) (hps : All2 (PartIn fr0) vs ps) (hsg : sg = 0 ∨ sg = 1 ∨ sg = 2) (hlen : vs.length ≤ 10) :
    CallsTo w 755 [.ref pa, .int aside ta, .int quad tq, .int sg ts, .int od to] [] fr 20 300 (fun r mu' tl => mu' = [] ∧ tl = [] ∧ ∃ t, r = .int (dueOf (Flat.moves sg od) (flats ps) (aside + 2 * quad)) t) := by
  intro prog p loose mean mg mb A env outer A₀ base h₀ L m s Q E B F X N T hh hA hf hk hd hu ret; obtain ⟨hd0, dp, frm, gd, un⟩ := A; obtain ⟨hp0, gs0, dr0, tk0, os0⟩ := s; dsimp only at hh hA hd hu F N ret; subst hh hA; have hSt := StK.mk gs0 dr0 os0; (try simp only [List.cons_append, List.nil_append] at N)
  refine wpAny_call ?_; k_dflt (refine' code_defC (binds := [(Str.ofString "parts", .ref pa), (Str.ofString "aside", .int aside ta), (Str.ofString "quad", .int quad tq), (Str.ofString "sign", .int sg ts), (Str.ofString "order", .int od to)]) ?k1 ?k2 ?k3 ?k4 ?k5 ?kA ?kF ?kK ?k6 ?k7 ?k8 ?k9 ?kB ?kD ?_ ?c2 ?c3 ?c4; (case kA => exact rfl); (case kF => first | assumption | exact rfl); (case kK => first | assumption | exact rfl); (case k1 => k_asm); (case k2 => k_asm); (case k3 => k_asm); (case k4 => k_asm); (case k5 => k_asm); (case k6 => k_is); (case k7 => k_is); (case k8 => (walk_at "my room")); (case k9 => first | exact BindsTo.of_eq rfl | exact binds_K (by k_in) rfl (by k_is) rfl rfl rfl); (case kB => exact rfl); (case kD => decide +kernel); (case c2 => exact rfl); (case c3 => exact rfl); (case c4 => exact rfl); k_whole; intro g' L' h' tk' cells' FG' F' N' Y' B' X' T' l1; (try k_lt l1); k_cells Y'; (try simp only [List.cons_append, List.nil_append] at N'); (try dsimp only); (try k_fold))
  have l0 := idL1 (by assumption)
  have c1 : ∀ p ∈ fr, p.1 ≠ L' + 1 := fun p hp => Nat.ne_of_lt (Nat.lt_of_lt_of_le (l0 p hp) (by omega))
  have c2 : ∀ p ∈ fr, p.1 ≠ L' + 1 + 1 := fun p hp => Nat.ne_of_lt (Nat.lt_of_lt_of_le (l0 p hp) (by omega))
  have c3 : ∀ p ∈ fr, p.1 ≠ L' + 1 + 1 + 1 := fun p hp => Nat.ne_of_lt (Nat.lt_of_lt_of_le (l0 p hp) (by omega))
  (k_steps; repeat' ((with_reducible refine Halt.go ?_); (first | ((with_reducible show wpAny _ _ (exec _ _) _ _ _); (k_here; (rename Fr _ _ _ _ => lF'q); (with_unfolding_all refine' For_invVF lF'q ?k1v58 ?k2v58 ?_; (case k1v58 => exact rfl); (case k2v58 => exact rfl); k_whole))) | fail); (all_goals k_steps)))
  refine Halt.go ?_
  rename _ ∧ _ ∧ _ ∧ AllLt _ fr => hl3
  rename (_ : Obj).data = Data.cell (some (.ref _)) => hdat
  have N0 := idNews (by k_asm)
  have F0 := idFr (by k_asm)
  refine for_list_ext (fun i fvs => All2 (FlatIn fr0) fvs (flats (ps.take i))) (by rfl) F0 N0 (.tail _ (.tail _ (.tail _ (sub _ hm)))) .nil ?turn ?done
  case turn =>
    intro i v fvs kk I oI h tk hv hinv o1 F1 N1
    refine hide fun Gh back => ?_
    obtain ⟨x, hxi, hx⟩ := hps.get (by simpa using hv)
    refine back ?_
    clear back Gh
    have htk : flats (ps.take (i + 1)) = flats (ps.take i) ++ flatP x := by
      rw [List.take_add_one, hxi]
      simp [flats]
    have hfl : fvs.length ≤ 40 := by
      have := flats_len hps i
      rw [hinv.length]; omega
    have o4 := ne_of_all hl3.2.2.2
    have o1' := o1
    simp only [LCg.Off1, and_true] at o1
    cases x with
    | f x =>
      have hx0 := hx
      refine hide fun Gh back => ?_
      obtain ⟨ok, a, la, n, k9, t0, wv, dv, rfl, m1, m2, W, G⟩ := hx
      refine back ?_
      clear back Gh
      have m1 := sub _ m1
      k_steps
      all_goals first | exact none | skip
      · exact Bool.noConfusion (sort_c.symm.trans (by assumption))
      · have Nq := idNews (by k_asm)
        refine ext_any (by k_asm) Nq (.head _) (fun k => by k_upd) (by omega) (by simp) (fun h' k F' N' => ?_)
        k_steps
        have inv2 : All2 (FlatIn fr0) (fvs ++ [Value.ref a]) (flats (ps.take (i + 1))) := by rw [htk]; exact hinv.snoc hx0
        exact ForPost.ext (Inv := fun i fvs => All2 (FlatIn fr0) fvs (flats (ps.take i))) (by k_asm) (news_tl (by k_asm)) o1' inv2 (fun y hy => if_neg hy)
    | c xs =>
      refine hide fun Gh back => ?_
      obtain ⟨sh, sz, a, la, n, k9, t0, t1, vs', rfl, m1, m2, hv'⟩ := hx
      refine back ?_
      clear back Gh
      have m1 := sub _ m1
      have m2 := sub _ m2
      have hl2 : vs'.length ≤ 2 := by rw [hv'.length]; exact sz
      k_steps
      all_goals first | exact none | skip
      have Nq := idNews (by k_asm)
      refine ext_any (by k_asm) Nq (.tail _ (.tail _ (.tail _ (.tail _ (.tail _ m2))))) (fun k => by k_upd) (by omega) (by omega) (fun h' k F' N' => ?_)
      k_steps
      have inv2 : All2 (FlatIn fr0) (fvs ++ vs') (flats (ps.take (i + 1))) := by rw [htk]; exact all2_app hinv hv'
      exact ForPost.ext (Inv := fun i fvs => All2 (FlatIn fr0) fvs (flats (ps.take i))) (by k_asm) (by k_asm) o1' inv2 (fun y hy => if_neg hy)
  case done =>
    intro u fvs kk h tk hinv F1 N1
    have hall : ps.take vs.toArray.size = ps := by rw [List.size_toArray, hps.length]; exact List.take_length
    rw [hall] at hinv
    have hfl : fvs.length ≤ 40 := by
      have := flats_len hps vs.length
      rw [hps.length, List.take_length] at this
      rw [hinv.length]; have := hps.length; omega
    have hfs : fvs.toArray.size ≤ 40 := by simpa using hfl
    have o4 := ne_of_all hl3.2.2.2
    (k_steps; repeat' (first | ((with_reducible refine Halt.go ?_); (first | ((with_reducible show wpAny _ _ (exec _ _) _ _ _); (k_here; (rename Fr _ _ _ _ => lF'q); (with_unfolding_all refine' For_invVF lF'q ?k1v58 ?k2v58 ?_; (case k1v58 => exact rfl); (case k2v58 => exact rfl); k_whole))) | (k_here; (with_reducible show wpAny _ _ (subscriptTail _ (PySem.Expr.Slice _ _ none _) (Value.ref _) (Value.ref _)) _ _ _); k_dflt (refine' sl_upto ?Fv55 ?Nv55 ?lv55 ?zv55 ?_ ?sv55 ?tv55; (case Fv55 => k_asm); (case Nv55 => k_asm); (case lv55 => k_mem); (case zv55 => assumption); (case sv55 => with_unfolding_all rfl); (case tv55 => kmk_pure)); intro D'q h'q F'q N'q l1; (try k_lt l1); (try k_sweep)) | (k_here; (with_reducible show wpAny _ _ (subscriptTail _ (PySem.Expr.UnaryOp _ _ _) _ _) _ _ _); k_dflt (refine' sub_last ?Nv54 ?mv54 ?xv54 ?_; (case Nv54 => k_asm); (case mv54 => k_mem); (case xv54 => assumption); k_whole)) | (k_here; (with_reducible show wpAny _ _ (compareOp CmpOp.NotEq _ _) _ _ _); k_dflt (first | (refine' ne_nil_nil ?av53 ?bv53 ?uv53 ?_; (case av53 => exact News.isList (items := ([] : List Value).toArray) (by k_asm) (by k_mem)); (case bv53 => exact News.isList (items := ([] : List Value).toArray) (by k_asm) (by k_mem)); (case uv53 => (walk_at "my room"))) | (refine' ne_cons_nil ?av53 ?bv53 ?iv53 ?uv53 ?_; (case av53 => exact News.isList (by k_asm) (by k_mem)); (case bv53 => exact News.isList (items := ([] : List Value).toArray) (by k_asm) (by k_mem)); (case iv53 => assumption); (case uv53 => (walk_at "my room"))))) | (k_here; (with_reducible show wpAny _ _ (compareOp CmpOp.Eq (Value.ref _) (Value.ref _)) _ _ _); k_dflt (refine ke_eq_ints (News.isList (by k_asm) (by k_mem)) (News.isList (items := ([] : List Value).toArray) (by k_asm) (by k_mem)) (by assumption) IntsAre.nil (by (walk_at "my room")) ?_)) | (k_here; (with_reducible show wpAny _ _ (subscriptTail _ (PySem.Expr.Name _ _) _ _) _ _ _); k_dflt (refine sub_list (by k_asm) (by k_mem) (by omega) (by omega) (by assumption) ?_)) | (k_here; k_dflt (first | refine src_rangeT (by rfl) (by k_asm) (by k_asm) (by assumption) (small_one (by omega) (by omega) (by omega) (by omega)) (rangeSize_nat _ _) (by rw [PySem.sizeLine_eq]; omega) ?_ | refine src_listT (by rfl) (by k_asm) (by k_asm) (by k_mem) (by rw [PySem.sizeLine_eq]; simp only [List.size_toArray]; omega) ?_)) | (k_here; k_dflt (first | refine src_range (by rfl) (by k_asm) (by k_asm) (by assumption) (small_one (by omega) (by omega) (by omega) (by omega)) (rangeSize_nat _ _) (by rw [PySem.sizeLine_eq]; omega) ?_ | refine src_list (by rfl) (by k_asm) (by k_asm) (by k_mem) (by rw [PySem.sizeLine_eq]; simp only [List.size_toArray]; omega) ?_)) | (k_here; (with_reducible show wpAny _ _ (eval (Expr.ListComp _ [⟨_, _, [_], _⟩] _ _) _) _ _ _); k_dflt (refine LCt.ListComp_T (F₀ := by k_asm) (by with_unfolding_all rfl) (by decide) (by rfl) (by decide) (by rfl) ?_)) | (k_here; (with_reducible show wpAny _ _ (eval (Expr.ListComp _ [⟨_, _, [], _⟩] _ _) _) _ _ _); k_dflt (refine LCg.ListComp_U (F₀ := by k_asm) (by with_unfolding_all rfl) (by decide) (by rfl) (by decide) (by rfl) ?_)) | (k_here; (with_reducible show wpAny _ _ (exec (Stmt.Assign _ (Expr.ListComp _ [⟨_, _, [_], _⟩] _ _) _) _) _ _ _); k_dflt (refine LCt.Assign_ListComp_T (F₀ := by k_asm) (by rfl) (by with_unfolding_all rfl) (by with_unfolding_all rfl) (by decide) (by rfl) (by decide) (by rfl) (by rfl) (by rfl) ?_)) | (k_here; (with_reducible show wpAny _ _ (exec (Stmt.Assign _ (Expr.ListComp _ [⟨_, _, [], _⟩] _ _) _) _) _ _ _); k_dflt (refine LCg.Assign_ListComp_U (F₀ := by k_asm) (by rfl) (by with_unfolding_all rfl) (by with_unfolding_all rfl) (by decide) (by rfl) (by decide) (by rfl) (by rfl) (by rfl) ?_)) | ((with_reducible show wpAny _ _ (call _ _) _ _ _); (first | (k_here; k_dflt (refine' CallsTo.useP1 (moves_calls _ _ _ _ _ _ _ _ _ ?psv57 ?pxv57 ?pgv57) ?k1v57 ?k2v57 ?k3v57 ?k4v57 ?k5v57 ?kHv57 ?kAv57 ?kFv57 ?kKv57 ?kdv57 ?kuv57 ?_; (case pxv57 => assumption); (case k1v57 => k_asm); (case k2v57 => k_asm); (case k3v57 => k_asm); (case k4v57 => k_asm); (case k5v57 => k_asm); (case kHv57 => exact rfl); (case kAv57 => exact rfl); (case kFv57 => first | assumption | exact rfl); (case kKv57 => first | assumption | exact rfl); (case kdv57 => (walk_at "my room")); (case kuv57 => (walk_at "my room")); (case psv57 => repeat (first | assumption | refine sub_t ?_)); (case pgv57 => assumption); k_whole; (intro h'q tk'q F'q N'q); (try k_sweep); (try k_fold))) | (k_here; k_dflt (refine' most_use ?k1v56 ?k2v56 ?k3v56 ?k4v56 ?k5v56 ?kHv56 ?kAv56 ?kFv56 ?kKv56 ?kdv56 ?kuv56 ?_; (case k1v56 => k_asm); (case k2v56 => k_asm); (case k3v56 => k_asm); (case k4v56 => k_asm); (case k5v56 => k_asm); (case kHv56 => exact rfl); (case kAv56 => exact rfl); (case kFv56 => first | assumption | exact rfl); (case kKv56 => first | assumption | exact rfl); (case kdv56 => (walk_at "my room")); (case kuv56 => (walk_at "my room")); k_whole; (intro t'q h'q tk'q F'q N'q); (try k_sweep); (try k_fold))) | fail)) | fail); (all_goals k_steps)) | ((fail_if_success (with_reducible refine Halt.go ?_)); (first | (k_here; (with_reducible show wpAny _ _ (call (Value.builtin "len") [Value.ref _]) _ _ _); k_dflt (refine PyProof.Rows.len_list (News.isList (by k_asm) (by k_mem)) (by simp only [List.size_toArray]; omega) ?_)) | (k_here; (with_reducible show wpAny _ _ (eval (Expr.Name _ _) (compEnvC _ _ _ _)) _ _ _); k_dflt (refine' lcf_free ?Nv49 ?cv49 ?mv49 ?dv49 ?_ ?av49 ?bv49; (case av49 => rfl); (case bv49 => rfl); (case Nv49 => k_asm); (case cv49 => rfl); (case mv49 => assumption); (case dv49 => assumption); k_whole)) | fail); (all_goals k_steps))))
    refine Halt.go (fun gZ => ?_)
    refine comp_pick (R := fun v (k : Nat) => ∃ t, v = .int (k : Int) t) (keep := pick Flat.seen (flats ps)) trivial ?turn1 ?fin1
    case turn1 =>
      intro i v ys I oI C oC D m₂ h tk E' hi hv hC hx' F2 N2 off3 ne3
      refine hide fun Gh back => ?_
      obtain ⟨t, rfl⟩ := hv
      refine back ?_
      clear back Gh
      have hi' : i < fvs.length := by simpa using hi
      refine hide fun Gh back => ?_
      obtain ⟨x, hxi, hfl0⟩ := hinv.get (List.getElem?_eq_getElem hi')
      refine back ?_
      clear back Gh
      refine hide fun Gh back => ?_
      obtain ⟨ok, a, la, nn, k9, t9, wv, dv, hv9, m1, m2, W, G⟩ := hfl0
      refine back ?_
      clear back Gh
      have hxa : fvs[(0 + (i : Int)).toNat]? = some (.ref a) := by
        rw [← hv9, ← List.getElem?_eq_getElem hi']
        congr 1
        omega
      replace m1 := sub _ m1
      simp only [LCg.Off3, and_true] at off3
      (k_steps; repeat' (first | ((with_reducible refine Halt.go ?_); (first | (k_here; (with_reducible show wpAny _ _ (subscriptTail _ (PySem.Expr.Name _ _) _ _) _ _ _); k_dflt (refine sub_list (by k_asm) (by k_mem) (by omega) (by omega) (by assumption) ?_)) | ((with_reducible show wpAny _ _ (call _ _) _ _ _); (first | (k_here; k_dflt (refine' CallsTo.useP1 (moves_calls _ _ _ _ _ _ _ _ _ ?psv57 ?pxv57 ?pgv57) ?k1v57 ?k2v57 ?k3v57 ?k4v57 ?k5v57 ?kHv57 ?kAv57 ?kFv57 ?kKv57 ?kdv57 ?kuv57 ?_; (case pxv57 => assumption); (case k1v57 => k_asm); (case k2v57 => k_asm); (case k3v57 => k_asm); (case k4v57 => k_asm); (case k5v57 => k_asm); (case kHv57 => exact rfl); (case kAv57 => exact rfl); (case kFv57 => first | assumption | exact rfl); (case kKv57 => first | assumption | exact rfl); (case kdv57 => (walk_at "my room")); (case kuv57 => (walk_at "my room")); (case psv57 => repeat (first | assumption | refine sub_t ?_)); (case pgv57 => assumption); k_whole; (intro h'q tk'q F'q N'q); (try k_sweep); (try k_fold))) | (k_here; k_dflt (refine' most_use ?k1v56 ?k2v56 ?k3v56 ?k4v56 ?k5v56 ?kHv56 ?kAv56 ?kFv56 ?kKv56 ?kdv56 ?kuv56 ?_; (case k1v56 => k_asm); (case k2v56 => k_asm); (case k3v56 => k_asm); (case k4v56 => k_asm); (case k5v56 => k_asm); (case kHv56 => exact rfl); (case kAv56 => exact rfl); (case kFv56 => first | assumption | exact rfl); (case kKv56 => first | assumption | exact rfl); (case kdv56 => (walk_at "my room")); (case kuv56 => (walk_at "my room")); k_whole; (intro t'q h'q tk'q F'q N'q); (try k_sweep); (try k_fold))) | fail)) | fail); (all_goals k_steps)) | ((fail_if_success (with_reducible refine Halt.go ?_)); (first | (k_here; (with_reducible show wpAny _ _ (eval (Expr.Name _ _) (compEnvC _ _ _ _)) _ _ _); k_dflt (refine' lcf_free ?Nv49 ?cv49 ?mv49 ?dv49 ?_ ?av49 ?bv49; (case av49 => rfl); (case bv49 => rfl); (case Nv49 => k_asm); (case cv49 => rfl); (case mv49 => assumption); (case dv49 => assumption); k_whole)) | fail); (all_goals k_steps))))
      all_goals first | exact none | exact Keep.mk (by k_asm) (by k_asm) (pick_yes hxi (by assumption)) | exact Keep.mk (by k_asm) (by k_asm) (pick_no hxi (by first | assumption | exact eq_false_of_ne_true (by assumption)))
    case fin1 =>
      intro ys hy
      rw [idxOf_pick _ _ _ (by simpa using hinv.length)] at hy
      unfold LCg.FinA
      intro Dm hm2 tkm Fm Nm om
      dsimp only at Fm Nm ⊢
      refine gen_tk fun tk1 => ?_
      have hyi := picks_ints hy
      (k_steps; repeat' (first | ((with_reducible refine Halt.go ?_); (first | ((with_reducible show wpAny _ _ (exec _ _) _ _ _); (k_here; (rename Fr _ _ _ _ => lF'q); (with_unfolding_all refine' For_invVF lF'q ?k1v58 ?k2v58 ?_; (case k1v58 => exact rfl); (case k2v58 => exact rfl); k_whole))) | (k_here; (with_reducible show wpAny _ _ (subscriptTail _ (PySem.Expr.Slice _ _ none _) (Value.ref _) (Value.ref _)) _ _ _); k_dflt (refine' sl_upto ?Fv55 ?Nv55 ?lv55 ?zv55 ?_ ?sv55 ?tv55; (case Fv55 => k_asm); (case Nv55 => k_asm); (case lv55 => k_mem); (case zv55 => assumption); (case sv55 => with_unfolding_all rfl); (case tv55 => kmk_pure)); intro D'q h'q F'q N'q l1; (try k_lt l1); (try k_sweep)) | (k_here; (with_reducible show wpAny _ _ (subscriptTail _ (PySem.Expr.UnaryOp _ _ _) _ _) _ _ _); k_dflt (refine' sub_last ?Nv54 ?mv54 ?xv54 ?_; (case Nv54 => k_asm); (case mv54 => k_mem); (case xv54 => assumption); k_whole)) | (k_here; (with_reducible show wpAny _ _ (compareOp CmpOp.NotEq _ _) _ _ _); k_dflt (first | (refine' ne_nil_nil ?av53 ?bv53 ?uv53 ?_; (case av53 => exact News.isList (items := ([] : List Value).toArray) (by k_asm) (by k_mem)); (case bv53 => exact News.isList (items := ([] : List Value).toArray) (by k_asm) (by k_mem)); (case uv53 => (walk_at "my room"))) | (refine' ne_cons_nil ?av53 ?bv53 ?iv53 ?uv53 ?_; (case av53 => exact News.isList (by k_asm) (by k_mem)); (case bv53 => exact News.isList (items := ([] : List Value).toArray) (by k_asm) (by k_mem)); (case iv53 => assumption); (case uv53 => (walk_at "my room"))))) | (k_here; (with_reducible show wpAny _ _ (compareOp CmpOp.Eq (Value.ref _) (Value.ref _)) _ _ _); k_dflt (refine ke_eq_ints (News.isList (by k_asm) (by k_mem)) (News.isList (items := ([] : List Value).toArray) (by k_asm) (by k_mem)) (by assumption) IntsAre.nil (by (walk_at "my room")) ?_)) | (k_here; (with_reducible show wpAny _ _ (subscriptTail _ (PySem.Expr.Name _ _) _ _) _ _ _); k_dflt (refine sub_list (by k_asm) (by k_mem) (by omega) (by omega) (by assumption) ?_)) | (k_here; k_dflt (first | refine src_rangeT (by rfl) (by k_asm) (by k_asm) (by assumption) (small_one (by omega) (by omega) (by omega) (by omega)) (rangeSize_nat _ _) (by rw [PySem.sizeLine_eq]; omega) ?_ | refine src_listT (by rfl) (by k_asm) (by k_asm) (by k_mem) (by rw [PySem.sizeLine_eq]; simp only [List.size_toArray]; omega) ?_)) | (k_here; k_dflt (first | refine src_range (by rfl) (by k_asm) (by k_asm) (by assumption) (small_one (by omega) (by omega) (by omega) (by omega)) (rangeSize_nat _ _) (by rw [PySem.sizeLine_eq]; omega) ?_ | refine src_list (by rfl) (by k_asm) (by k_asm) (by k_mem) (by rw [PySem.sizeLine_eq]; simp only [List.size_toArray]; omega) ?_)) | (k_here; (with_reducible show wpAny _ _ (eval (Expr.ListComp _ [⟨_, _, [_], _⟩] _ _) _) _ _ _); k_dflt (refine LCt.ListComp_T (F₀ := by k_asm) (by with_unfolding_all rfl) (by decide) (by rfl) (by decide) (by rfl) ?_)) | (k_here; (with_reducible show wpAny _ _ (eval (Expr.ListComp _ [⟨_, _, [], _⟩] _ _) _) _ _ _); k_dflt (refine LCg.ListComp_U (F₀ := by k_asm) (by with_unfolding_all rfl) (by decide) (by rfl) (by decide) (by rfl) ?_)) | (k_here; (with_reducible show wpAny _ _ (exec (Stmt.Assign _ (Expr.ListComp _ [⟨_, _, [_], _⟩] _ _) _) _) _ _ _); k_dflt (refine LCt.Assign_ListComp_T (F₀ := by k_asm) (by rfl) (by with_unfolding_all rfl) (by with_unfolding_all rfl) (by decide) (by rfl) (by decide) (by rfl) (by rfl) (by rfl) ?_)) | (k_here; (with_reducible show wpAny _ _ (exec (Stmt.Assign _ (Expr.ListComp _ [⟨_, _, [], _⟩] _ _) _) _) _ _ _); k_dflt (refine LCg.Assign_ListComp_U (F₀ := by k_asm) (by rfl) (by with_unfolding_all rfl) (by with_unfolding_all rfl) (by decide) (by rfl) (by decide) (by rfl) (by rfl) (by rfl) ?_)) | ((with_reducible show wpAny _ _ (call _ _) _ _ _); (first | (k_here; k_dflt (refine' CallsTo.useP1 (moves_calls _ _ _ _ _ _ _ _ _ ?psv57 ?pxv57 ?pgv57) ?k1v57 ?k2v57 ?k3v57 ?k4v57 ?k5v57 ?kHv57 ?kAv57 ?kFv57 ?kKv57 ?kdv57 ?kuv57 ?_; (case pxv57 => assumption); (case k1v57 => k_asm); (case k2v57 => k_asm); (case k3v57 => k_asm); (case k4v57 => k_asm); (case k5v57 => k_asm); (case kHv57 => exact rfl); (case kAv57 => exact rfl); (case kFv57 => first | assumption | exact rfl); (case kKv57 => first | assumption | exact rfl); (case kdv57 => (walk_at "my room")); (case kuv57 => (walk_at "my room")); (case psv57 => repeat (first | assumption | refine sub_t ?_)); (case pgv57 => assumption); k_whole; (intro h'q tk'q F'q N'q); (try k_sweep); (try k_fold))) | (k_here; k_dflt (refine' most_use ?k1v56 ?k2v56 ?k3v56 ?k4v56 ?k5v56 ?kHv56 ?kAv56 ?kFv56 ?kKv56 ?kdv56 ?kuv56 ?_; (case k1v56 => k_asm); (case k2v56 => k_asm); (case k3v56 => k_asm); (case k4v56 => k_asm); (case k5v56 => k_asm); (case kHv56 => exact rfl); (case kAv56 => exact rfl); (case kFv56 => first | assumption | exact rfl); (case kKv56 => first | assumption | exact rfl); (case kdv56 => (walk_at "my room")); (case kuv56 => (walk_at "my room")); k_whole; (intro t'q h'q tk'q F'q N'q); (try k_sweep); (try k_fold))) | fail)) | fail); (all_goals k_steps)) | ((fail_if_success (with_reducible refine Halt.go ?_)); (first | (k_here; (with_reducible show wpAny _ _ (call (Value.builtin "len") [Value.ref _]) _ _ _); k_dflt (refine PyProof.Rows.len_list (News.isList (by k_asm) (by k_mem)) (by simp only [List.size_toArray]; omega) ?_)) | (k_here; (with_reducible show wpAny _ _ (eval (Expr.Name _ _) (compEnvC _ _ _ _)) _ _ _); k_dflt (refine' lcf_free ?Nv49 ?cv49 ?mv49 ?dv49 ?_ ?av49 ?bv49; (case av49 => rfl); (case bv49 => rfl); (case Nv49 => k_asm); (case cv49 => rfl); (case mv49 => assumption); (case dv49 => assumption); k_whole)) | fail); (all_goals k_steps))))
      all_goals first | exact none | skip
      · refine' ret _ _ _ [] [] ?e1 ?e2 lt_tl0 ⟨rfl, rfl, ?e4⟩
        case e1 => k_asm
        case e2 => exact news_sub (by k_asm) (fun p hp => by repeat (first | exact hp | refine List.Mem.tail _ ?_))
        case e4 => exact ⟨_, congrArg (fun i => Value.int i _) (due_nil rfl (by assumption)).symm⟩
      refine hide fun Gh back => ?_
      obtain ⟨j, hj, hjl⟩ := last_of rfl (by assumption)
      refine back ?_
      clear back Gh
      refine hide fun Gh back => ?_
      obtain ⟨_, hyl, t7, rfl⟩ := all2_last hy hj
      refine back ?_
      clear back Gh
      refine Halt.go (fun gY => ?_)
      refine comp_pick (R := fun v (k : Nat) => ∃ t, v = .int (k : Int) t) (keep := pick (Flat.moves sg od) (flats ps)) trivial ?turn2 ?fin2
      case turn2 =>
        intro i v ys I oI C oC D m₂ h tk E' hi hv hC hx' F2 N2 off3 ne3
        refine hide fun Gh back => ?_
        obtain ⟨t, rfl⟩ := hv
        refine back ?_
        clear back Gh
        have hi' : i < fvs.length := by simpa using hi
        refine hide fun Gh back => ?_
        obtain ⟨x, hxi, hfl0⟩ := hinv.get (List.getElem?_eq_getElem hi')
        refine back ?_
        clear back Gh
        refine hide fun Gh back => ?_
        obtain ⟨ok, a, la, nn, k9, t9, wv, dv, hv9, m1, m2, W, G⟩ := id hfl0
        refine back ?_
        clear back Gh
        rw [hv9] at hfl0
        have hxa : fvs[(0 + (i : Int)).toNat]? = some (.ref a) := by
          rw [← hv9, ← List.getElem?_eq_getElem hi']
          congr 1
          omega
        replace m1 := sub _ m1
        simp only [LCg.Off3, and_true] at off3
        (k_steps; repeat' (first | ((with_reducible refine Halt.go ?_); (first | (k_here; (with_reducible show wpAny _ _ (subscriptTail _ (PySem.Expr.Name _ _) _ _) _ _ _); k_dflt (refine sub_list (by k_asm) (by k_mem) (by omega) (by omega) (by assumption) ?_)) | ((with_reducible show wpAny _ _ (call _ _) _ _ _); (first | (k_here; k_dflt (refine' CallsTo.useP1 (moves_calls _ _ _ _ _ _ _ _ _ ?psv57 ?pxv57 ?pgv57) ?k1v57 ?k2v57 ?k3v57 ?k4v57 ?k5v57 ?kHv57 ?kAv57 ?kFv57 ?kKv57 ?kdv57 ?kuv57 ?_; (case pxv57 => assumption); (case k1v57 => k_asm); (case k2v57 => k_asm); (case k3v57 => k_asm); (case k4v57 => k_asm); (case k5v57 => k_asm); (case kHv57 => exact rfl); (case kAv57 => exact rfl); (case kFv57 => first | assumption | exact rfl); (case kKv57 => first | assumption | exact rfl); (case kdv57 => (walk_at "my room")); (case kuv57 => (walk_at "my room")); (case psv57 => repeat (first | assumption | refine sub_t ?_)); (case pgv57 => assumption); k_whole; (intro h'q tk'q F'q N'q); (try k_sweep); (try k_fold))) | (k_here; k_dflt (refine' most_use ?k1v56 ?k2v56 ?k3v56 ?k4v56 ?k5v56 ?kHv56 ?kAv56 ?kFv56 ?kKv56 ?kdv56 ?kuv56 ?_; (case k1v56 => k_asm); (case k2v56 => k_asm); (case k3v56 => k_asm); (case k4v56 => k_asm); (case k5v56 => k_asm); (case kHv56 => exact rfl); (case kAv56 => exact rfl); (case kFv56 => first | assumption | exact rfl); (case kKv56 => first | assumption | exact rfl); (case kdv56 => (walk_at "my room")); (case kuv56 => (walk_at "my room")); k_whole; (intro t'q h'q tk'q F'q N'q); (try k_sweep); (try k_fold))) | fail)) | fail); (all_goals k_steps)) | ((fail_if_success (with_reducible refine Halt.go ?_)); (first | (k_here; (with_reducible show wpAny _ _ (eval (Expr.Name _ _) (compEnvC _ _ _ _)) _ _ _); k_dflt (refine' lcf_free ?Nv49 ?cv49 ?mv49 ?dv49 ?_ ?av49 ?bv49; (case av49 => rfl); (case bv49 => rfl); (case Nv49 => k_asm); (case cv49 => rfl); (case mv49 => assumption); (case dv49 => assumption); k_whole)) | fail); (all_goals k_steps))))
        all_goals first | exact none | exact Keep.mk (by k_asm) (by k_asm) (pick_yes hxi (by assumption)) | exact Keep.mk (by k_asm) (by k_asm) (pick_no hxi (by first | assumption | exact eq_false_of_ne_true (by assumption)))
      case fin2 =>
        intro ys2 hy2
        rw [idxOf_pick _ _ _ (by simpa using hinv.length)] at hy2
        generalize hmi : idxOf (Flat.moves sg od) (flats ps) 0 = mi at hy2
        unfold LCg.FinA
        intro Dn hn2 tkn Fn Nn on
        dsimp only at Fn Nn ⊢
        refine gen_tk fun tk2 => ?_
        have hyi2 := picks_ints hy2
        have hft : (fvs.take (j + 1)).length ≤ 40 := by rw [List.length_take]; omega
        (k_steps; repeat' (first | ((with_reducible refine Halt.go ?_); (first | ((with_reducible show wpAny _ _ (exec _ _) _ _ _); (k_here; (rename Fr _ _ _ _ => lF'q); (with_unfolding_all refine' For_invVF lF'q ?k1v58 ?k2v58 ?_; (case k1v58 => exact rfl); (case k2v58 => exact rfl); k_whole))) | (k_here; (with_reducible show wpAny _ _ (subscriptTail _ (PySem.Expr.Slice _ _ none _) (Value.ref _) (Value.ref _)) _ _ _); k_dflt (refine' sl_upto ?Fv55 ?Nv55 ?lv55 ?zv55 ?_ ?sv55 ?tv55; (case Fv55 => k_asm); (case Nv55 => k_asm); (case lv55 => k_mem); (case zv55 => assumption); (case sv55 => with_unfolding_all rfl); (case tv55 => kmk_pure)); intro D'q h'q F'q N'q l1; (try k_lt l1); (try k_sweep)) | (k_here; (with_reducible show wpAny _ _ (subscriptTail _ (PySem.Expr.UnaryOp _ _ _) _ _) _ _ _); k_dflt (refine' sub_last ?Nv54 ?mv54 ?xv54 ?_; (case Nv54 => k_asm); (case mv54 => k_mem); (case xv54 => assumption); k_whole)) | (k_here; (with_reducible show wpAny _ _ (compareOp CmpOp.NotEq _ _) _ _ _); k_dflt (first | (refine' ne_nil_nil ?av53 ?bv53 ?uv53 ?_; (case av53 => exact News.isList (items := ([] : List Value).toArray) (by k_asm) (by k_mem)); (case bv53 => exact News.isList (items := ([] : List Value).toArray) (by k_asm) (by k_mem)); (case uv53 => (walk_at "my room"))) | (refine' ne_cons_nil ?av53 ?bv53 ?iv53 ?uv53 ?_; (case av53 => exact News.isList (by k_asm) (by k_mem)); (case bv53 => exact News.isList (items := ([] : List Value).toArray) (by k_asm) (by k_mem)); (case iv53 => assumption); (case uv53 => (walk_at "my room"))))) | (k_here; (with_reducible show wpAny _ _ (compareOp CmpOp.Eq (Value.ref _) (Value.ref _)) _ _ _); k_dflt (refine ke_eq_ints (News.isList (by k_asm) (by k_mem)) (News.isList (items := ([] : List Value).toArray) (by k_asm) (by k_mem)) (by assumption) IntsAre.nil (by (walk_at "my room")) ?_)) | (k_here; (with_reducible show wpAny _ _ (subscriptTail _ (PySem.Expr.Name _ _) _ _) _ _ _); k_dflt (refine sub_list (by k_asm) (by k_mem) (by omega) (by omega) (by assumption) ?_)) | (k_here; k_dflt (first | refine src_rangeT (by rfl) (by k_asm) (by k_asm) (by assumption) (small_one (by omega) (by omega) (by omega) (by omega)) (rangeSize_nat _ _) (by rw [PySem.sizeLine_eq]; omega) ?_ | refine src_listT (by rfl) (by k_asm) (by k_asm) (by k_mem) (by rw [PySem.sizeLine_eq]; simp only [List.size_toArray]; omega) ?_)) | (k_here; k_dflt (first | refine src_range (by rfl) (by k_asm) (by k_asm) (by assumption) (small_one (by omega) (by omega) (by omega) (by omega)) (rangeSize_nat _ _) (by rw [PySem.sizeLine_eq]; omega) ?_ | refine src_list (by rfl) (by k_asm) (by k_asm) (by k_mem) (by rw [PySem.sizeLine_eq]; simp only [List.size_toArray]; omega) ?_)) | (k_here; (with_reducible show wpAny _ _ (eval (Expr.ListComp _ [⟨_, _, [_], _⟩] _ _) _) _ _ _); k_dflt (refine LCt.ListComp_T (F₀ := by k_asm) (by with_unfolding_all rfl) (by decide) (by rfl) (by decide) (by rfl) ?_)) | (k_here; (with_reducible show wpAny _ _ (eval (Expr.ListComp _ [⟨_, _, [], _⟩] _ _) _) _ _ _); k_dflt (refine LCg.ListComp_U (F₀ := by k_asm) (by with_unfolding_all rfl) (by decide) (by rfl) (by decide) (by rfl) ?_)) | (k_here; (with_reducible show wpAny _ _ (exec (Stmt.Assign _ (Expr.ListComp _ [⟨_, _, [_], _⟩] _ _) _) _) _ _ _); k_dflt (refine LCt.Assign_ListComp_T (F₀ := by k_asm) (by rfl) (by with_unfolding_all rfl) (by with_unfolding_all rfl) (by decide) (by rfl) (by decide) (by rfl) (by rfl) (by rfl) ?_)) | (k_here; (with_reducible show wpAny _ _ (exec (Stmt.Assign _ (Expr.ListComp _ [⟨_, _, [], _⟩] _ _) _) _) _ _ _); k_dflt (refine LCg.Assign_ListComp_U (F₀ := by k_asm) (by rfl) (by with_unfolding_all rfl) (by with_unfolding_all rfl) (by decide) (by rfl) (by decide) (by rfl) (by rfl) (by rfl) ?_)) | ((with_reducible show wpAny _ _ (call _ _) _ _ _); (first | (k_here; k_dflt (refine' CallsTo.useP1 (moves_calls _ _ _ _ _ _ _ _ _ ?psv57 ?pxv57 ?pgv57) ?k1v57 ?k2v57 ?k3v57 ?k4v57 ?k5v57 ?kHv57 ?kAv57 ?kFv57 ?kKv57 ?kdv57 ?kuv57 ?_; (case pxv57 => assumption); (case k1v57 => k_asm); (case k2v57 => k_asm); (case k3v57 => k_asm); (case k4v57 => k_asm); (case k5v57 => k_asm); (case kHv57 => exact rfl); (case kAv57 => exact rfl); (case kFv57 => first | assumption | exact rfl); (case kKv57 => first | assumption | exact rfl); (case kdv57 => (walk_at "my room")); (case kuv57 => (walk_at "my room")); (case psv57 => repeat (first | assumption | refine sub_t ?_)); (case pgv57 => assumption); k_whole; (intro h'q tk'q F'q N'q); (try k_sweep); (try k_fold))) | (k_here; k_dflt (refine' most_use ?k1v56 ?k2v56 ?k3v56 ?k4v56 ?k5v56 ?kHv56 ?kAv56 ?kFv56 ?kKv56 ?kdv56 ?kuv56 ?_; (case k1v56 => k_asm); (case k2v56 => k_asm); (case k3v56 => k_asm); (case k4v56 => k_asm); (case k5v56 => k_asm); (case kHv56 => exact rfl); (case kAv56 => exact rfl); (case kFv56 => first | assumption | exact rfl); (case kKv56 => first | assumption | exact rfl); (case kdv56 => (walk_at "my room")); (case kuv56 => (walk_at "my room")); k_whole; (intro t'q h'q tk'q F'q N'q); (try k_sweep); (try k_fold))) | fail)) | fail); (all_goals k_steps)) | ((fail_if_success (with_reducible refine Halt.go ?_)); (first | (k_here; (with_reducible show wpAny _ _ (call (Value.builtin "len") [Value.ref _]) _ _ _); k_dflt (refine PyProof.Rows.len_list (News.isList (by k_asm) (by k_mem)) (by simp only [List.size_toArray]; omega) ?_)) | (k_here; (with_reducible show wpAny _ _ (eval (Expr.Name _ _) (compEnvC _ _ _ _)) _ _ _); k_dflt (refine' lcf_free ?Nv49 ?cv49 ?mv49 ?dv49 ?_ ?av49 ?bv49; (case av49 => rfl); (case bv49 => rfl); (case Nv49 => k_asm); (case cv49 => rfl); (case mv49 => assumption); (case dv49 => assumption); k_whole)) | fail); (all_goals k_steps))))
        refine Halt.go ?_
        refine join_test2 (good := hitB mi j) (F₀ := Fn) (N₀ := Nn) ?test ?gt ?gf
        case test =>
          cases hy2 with
          | nil =>
            (k_steps; repeat' ((with_reducible refine Halt.go ?_); (first | (k_here; (with_reducible show wpAny _ _ (subscriptTail _ (PySem.Expr.UnaryOp _ _ _) _ _) _ _ _); k_dflt (refine' sub_last ?Nv54 ?mv54 ?xv54 ?_; (case Nv54 => k_asm); (case mv54 => k_mem); (case xv54 => assumption); k_whole)) | (k_here; (with_reducible show wpAny _ _ (compareOp CmpOp.NotEq _ _) _ _ _); k_dflt (first | (refine' ne_nil_nil ?av53 ?bv53 ?uv53 ?_; (case av53 => exact News.isList (items := ([] : List Value).toArray) (by k_asm) (by k_mem)); (case bv53 => exact News.isList (items := ([] : List Value).toArray) (by k_asm) (by k_mem)); (case uv53 => (walk_at "my room"))) | (refine' ne_cons_nil ?av53 ?bv53 ?iv53 ?uv53 ?_; (case av53 => exact News.isList (by k_asm) (by k_mem)); (case bv53 => exact News.isList (items := ([] : List Value).toArray) (by k_asm) (by k_mem)); (case iv53 => assumption); (case uv53 => (walk_at "my room"))))) | (k_here; (with_reducible show wpAny _ _ (compareOp CmpOp.Eq (Value.ref _) (Value.ref _)) _ _ _); k_dflt (refine ke_eq_ints (News.isList (by k_asm) (by k_mem)) (News.isList (items := ([] : List Value).toArray) (by k_asm) (by k_mem)) (by assumption) IntsAre.nil (by (walk_at "my room")) ?_)) | (k_here; (with_reducible show wpAny _ _ (subscriptTail _ (PySem.Expr.Name _ _) _ _) _ _ _); k_dflt (refine sub_list (by k_asm) (by k_mem) (by omega) (by omega) (by assumption) ?_)) | fail); (all_goals k_steps)))
            all_goals first | exact none | (refine' TestPost.mk ?tF ?tN ?tE; (case tF => k_asm); (case tN => exact news_sub (by k_asm) (fun p hp => by repeat (first | exact hp | refine List.Mem.tail _ ?_))); (case tE => exact rfl))
          | @cons v0 i0 rest0 is0 hr hrest =>
            refine hide fun Gh back => ?_
            obtain ⟨t8, rfl⟩ := hr
            refine back ?_
            clear back Gh
            have hyi3 : IntsAre (.int (i0 : Int) t8 :: rest0) ((i0 : Int) :: is0.map (fun k : Nat => (k : Int))) := hyi2
            (k_steps; repeat' ((with_reducible refine Halt.go ?_); (first | (k_here; (with_reducible show wpAny _ _ (subscriptTail _ (PySem.Expr.UnaryOp _ _ _) _ _) _ _ _); k_dflt (refine' sub_last ?Nv54 ?mv54 ?xv54 ?_; (case Nv54 => k_asm); (case mv54 => k_mem); (case xv54 => assumption); k_whole)) | (k_here; (with_reducible show wpAny _ _ (compareOp CmpOp.NotEq _ _) _ _ _); k_dflt (first | (refine' ne_nil_nil ?av53 ?bv53 ?uv53 ?_; (case av53 => exact News.isList (items := ([] : List Value).toArray) (by k_asm) (by k_mem)); (case bv53 => exact News.isList (items := ([] : List Value).toArray) (by k_asm) (by k_mem)); (case uv53 => (walk_at "my room"))) | (refine' ne_cons_nil ?av53 ?bv53 ?iv53 ?uv53 ?_; (case av53 => exact News.isList (by k_asm) (by k_mem)); (case bv53 => exact News.isList (items := ([] : List Value).toArray) (by k_asm) (by k_mem)); (case iv53 => assumption); (case uv53 => (walk_at "my room"))))) | (k_here; (with_reducible show wpAny _ _ (compareOp CmpOp.Eq (Value.ref _) (Value.ref _)) _ _ _); k_dflt (refine ke_eq_ints (News.isList (by k_asm) (by k_mem)) (News.isList (items := ([] : List Value).toArray) (by k_asm) (by k_mem)) (by assumption) IntsAre.nil (by (walk_at "my room")) ?_)) | (k_here; (with_reducible show wpAny _ _ (subscriptTail _ (PySem.Expr.Name _ _) _ _) _ _ _); k_dflt (refine sub_list (by k_asm) (by k_mem) (by omega) (by omega) (by assumption) ?_)) | fail); (all_goals k_steps)))
            all_goals first | exact none | (refine' TestPost.mk ?tF ?tN ?tE; (case tF => k_asm); (case tN => exact news_sub (by k_asm) (fun p hp => by repeat (first | exact hp | refine List.Mem.tail _ ?_))); (case tE => first | exact hit_t (by assumption) | exact hit_f (by omega)))
        case gt =>
          intro h' tk' hg F' N'
          (k_steps; repeat' (first | ((with_reducible refine Halt.go ?_); (first | ((with_reducible show wpAny _ _ (exec _ _) _ _ _); (k_here; (rename Fr _ _ _ _ => lF'q); (with_unfolding_all refine' For_invVF lF'q ?k1v58 ?k2v58 ?_; (case k1v58 => exact rfl); (case k2v58 => exact rfl); k_whole))) | (k_here; (with_reducible show wpAny _ _ (subscriptTail _ (PySem.Expr.Slice _ _ none _) (Value.ref _) (Value.ref _)) _ _ _); k_dflt (refine' sl_upto ?Fv55 ?Nv55 ?lv55 ?zv55 ?_ ?sv55 ?tv55; (case Fv55 => k_asm); (case Nv55 => k_asm); (case lv55 => k_mem); (case zv55 => assumption); (case sv55 => with_unfolding_all rfl); (case tv55 => kmk_pure)); intro D'q h'q F'q N'q l1; (try k_lt l1); (try k_sweep)) | (k_here; (with_reducible show wpAny _ _ (subscriptTail _ (PySem.Expr.UnaryOp _ _ _) _ _) _ _ _); k_dflt (refine' sub_last ?Nv54 ?mv54 ?xv54 ?_; (case Nv54 => k_asm); (case mv54 => k_mem); (case xv54 => assumption); k_whole)) | (k_here; (with_reducible show wpAny _ _ (compareOp CmpOp.NotEq _ _) _ _ _); k_dflt (first | (refine' ne_nil_nil ?av53 ?bv53 ?uv53 ?_; (case av53 => exact News.isList (items := ([] : List Value).toArray) (by k_asm) (by k_mem)); (case bv53 => exact News.isList (items := ([] : List Value).toArray) (by k_asm) (by k_mem)); (case uv53 => (walk_at "my room"))) | (refine' ne_cons_nil ?av53 ?bv53 ?iv53 ?uv53 ?_; (case av53 => exact News.isList (by k_asm) (by k_mem)); (case bv53 => exact News.isList (items := ([] : List Value).toArray) (by k_asm) (by k_mem)); (case iv53 => assumption); (case uv53 => (walk_at "my room"))))) | (k_here; (with_reducible show wpAny _ _ (compareOp CmpOp.Eq (Value.ref _) (Value.ref _)) _ _ _); k_dflt (refine ke_eq_ints (News.isList (by k_asm) (by k_mem)) (News.isList (items := ([] : List Value).toArray) (by k_asm) (by k_mem)) (by assumption) IntsAre.nil (by (walk_at "my room")) ?_)) | (k_here; (with_reducible show wpAny _ _ (subscriptTail _ (PySem.Expr.Name _ _) _ _) _ _ _); k_dflt (refine sub_list (by k_asm) (by k_mem) (by omega) (by omega) (by assumption) ?_)) | (k_here; k_dflt (first | refine src_rangeT (by rfl) (by k_asm) (by k_asm) (by assumption) (small_one (by omega) (by omega) (by omega) (by omega)) (rangeSize_nat _ _) (by rw [PySem.sizeLine_eq]; omega) ?_ | refine src_listT (by rfl) (by k_asm) (by k_asm) (by k_mem) (by rw [PySem.sizeLine_eq]; simp only [List.size_toArray]; omega) ?_)) | (k_here; k_dflt (first | refine src_range (by rfl) (by k_asm) (by k_asm) (by assumption) (small_one (by omega) (by omega) (by omega) (by omega)) (rangeSize_nat _ _) (by rw [PySem.sizeLine_eq]; omega) ?_ | refine src_list (by rfl) (by k_asm) (by k_asm) (by k_mem) (by rw [PySem.sizeLine_eq]; simp only [List.size_toArray]; omega) ?_)) | (k_here; (with_reducible show wpAny _ _ (eval (Expr.ListComp _ [⟨_, _, [_], _⟩] _ _) _) _ _ _); k_dflt (refine LCt.ListComp_T (F₀ := by k_asm) (by with_unfolding_all rfl) (by decide) (by rfl) (by decide) (by rfl) ?_)) | (k_here; (with_reducible show wpAny _ _ (eval (Expr.ListComp _ [⟨_, _, [], _⟩] _ _) _) _ _ _); k_dflt (refine LCg.ListComp_U (F₀ := by k_asm) (by with_unfolding_all rfl) (by decide) (by rfl) (by decide) (by rfl) ?_)) | (k_here; (with_reducible show wpAny _ _ (exec (Stmt.Assign _ (Expr.ListComp _ [⟨_, _, [_], _⟩] _ _) _) _) _ _ _); k_dflt (refine LCt.Assign_ListComp_T (F₀ := by k_asm) (by rfl) (by with_unfolding_all rfl) (by with_unfolding_all rfl) (by decide) (by rfl) (by decide) (by rfl) (by rfl) (by rfl) ?_)) | (k_here; (with_reducible show wpAny _ _ (exec (Stmt.Assign _ (Expr.ListComp _ [⟨_, _, [], _⟩] _ _) _) _) _ _ _); k_dflt (refine LCg.Assign_ListComp_U (F₀ := by k_asm) (by rfl) (by with_unfolding_all rfl) (by with_unfolding_all rfl) (by decide) (by rfl) (by decide) (by rfl) (by rfl) (by rfl) ?_)) | ((with_reducible show wpAny _ _ (call _ _) _ _ _); (first | (k_here; k_dflt (refine' CallsTo.useP1 (moves_calls _ _ _ _ _ _ _ _ _ ?psv57 ?pxv57 ?pgv57) ?k1v57 ?k2v57 ?k3v57 ?k4v57 ?k5v57 ?kHv57 ?kAv57 ?kFv57 ?kKv57 ?kdv57 ?kuv57 ?_; (case pxv57 => assumption); (case k1v57 => k_asm); (case k2v57 => k_asm); (case k3v57 => k_asm); (case k4v57 => k_asm); (case k5v57 => k_asm); (case kHv57 => exact rfl); (case kAv57 => exact rfl); (case kFv57 => first | assumption | exact rfl); (case kKv57 => first | assumption | exact rfl); (case kdv57 => (walk_at "my room")); (case kuv57 => (walk_at "my room")); (case psv57 => repeat (first | assumption | refine sub_t ?_)); (case pgv57 => assumption); k_whole; (intro h'q tk'q F'q N'q); (try k_sweep); (try k_fold))) | (k_here; k_dflt (refine' most_use ?k1v56 ?k2v56 ?k3v56 ?k4v56 ?k5v56 ?kHv56 ?kAv56 ?kFv56 ?kKv56 ?kdv56 ?kuv56 ?_; (case k1v56 => k_asm); (case k2v56 => k_asm); (case k3v56 => k_asm); (case k4v56 => k_asm); (case k5v56 => k_asm); (case kHv56 => exact rfl); (case kAv56 => exact rfl); (case kFv56 => first | assumption | exact rfl); (case kKv56 => first | assumption | exact rfl); (case kdv56 => (walk_at "my room")); (case kuv56 => (walk_at "my room")); k_whole; (intro t'q h'q tk'q F'q N'q); (try k_sweep); (try k_fold))) | fail)) | fail); (all_goals k_steps)) | ((fail_if_success (with_reducible refine Halt.go ?_)); (first | (k_here; (with_reducible show wpAny _ _ (call (Value.builtin "len") [Value.ref _]) _ _ _); k_dflt (refine PyProof.Rows.len_list (News.isList (by k_asm) (by k_mem)) (by simp only [List.size_toArray]; omega) ?_)) | (k_here; (with_reducible show wpAny _ _ (eval (Expr.Name _ _) (compEnvC _ _ _ _)) _ _ _); k_dflt (refine' lcf_free ?Nv49 ?cv49 ?mv49 ?dv49 ?_ ?av49 ?bv49; (case av49 => rfl); (case bv49 => rfl); (case Nv49 => k_asm); (case cv49 => rfl); (case mv49 => assumption); (case dv49 => assumption); k_whole)) | fail); (all_goals k_steps))))
          all_goals first | exact none | skip
          refine' ret _ _ _ [] [] ?e1 ?e2 lt_tl0 ⟨rfl, rfl, ?e4⟩
          case e1 => k_asm
          case e2 => exact news_sub (by k_asm) (fun p hp => by repeat (first | exact hp | refine List.Mem.tail _ ?_))
          case e4 => exact ⟨_, congrArg (fun i => Value.int i _) (due_hit hj hmi hg).symm⟩
        case gf =>
          intro h' tk' hg F' N'
          (k_steps; repeat' (first | ((with_reducible refine Halt.go ?_); (first | ((with_reducible show wpAny _ _ (exec _ _) _ _ _); (k_here; (rename Fr _ _ _ _ => lF'q); (with_unfolding_all refine' For_invVF lF'q ?k1v58 ?k2v58 ?_; (case k1v58 => exact rfl); (case k2v58 => exact rfl); k_whole))) | (k_here; (with_reducible show wpAny _ _ (subscriptTail _ (PySem.Expr.Slice _ _ none _) (Value.ref _) (Value.ref _)) _ _ _); k_dflt (refine' sl_upto ?Fv55 ?Nv55 ?lv55 ?zv55 ?_ ?sv55 ?tv55; (case Fv55 => k_asm); (case Nv55 => k_asm); (case lv55 => k_mem); (case zv55 => assumption); (case sv55 => with_unfolding_all rfl); (case tv55 => kmk_pure)); intro D'q h'q F'q N'q l1; (try k_lt l1); (try k_sweep)) | (k_here; (with_reducible show wpAny _ _ (subscriptTail _ (PySem.Expr.UnaryOp _ _ _) _ _) _ _ _); k_dflt (refine' sub_last ?Nv54 ?mv54 ?xv54 ?_; (case Nv54 => k_asm); (case mv54 => k_mem); (case xv54 => assumption); k_whole)) | (k_here; (with_reducible show wpAny _ _ (compareOp CmpOp.NotEq _ _) _ _ _); k_dflt (first | (refine' ne_nil_nil ?av53 ?bv53 ?uv53 ?_; (case av53 => exact News.isList (items := ([] : List Value).toArray) (by k_asm) (by k_mem)); (case bv53 => exact News.isList (items := ([] : List Value).toArray) (by k_asm) (by k_mem)); (case uv53 => (walk_at "my room"))) | (refine' ne_cons_nil ?av53 ?bv53 ?iv53 ?uv53 ?_; (case av53 => exact News.isList (by k_asm) (by k_mem)); (case bv53 => exact News.isList (items := ([] : List Value).toArray) (by k_asm) (by k_mem)); (case iv53 => assumption); (case uv53 => (walk_at "my room"))))) | (k_here; (with_reducible show wpAny _ _ (compareOp CmpOp.Eq (Value.ref _) (Value.ref _)) _ _ _); k_dflt (refine ke_eq_ints (News.isList (by k_asm) (by k_mem)) (News.isList (items := ([] : List Value).toArray) (by k_asm) (by k_mem)) (by assumption) IntsAre.nil (by (walk_at "my room")) ?_)) | (k_here; (with_reducible show wpAny _ _ (subscriptTail _ (PySem.Expr.Name _ _) _ _) _ _ _); k_dflt (refine sub_list (by k_asm) (by k_mem) (by omega) (by omega) (by assumption) ?_)) | (k_here; k_dflt (first | refine src_rangeT (by rfl) (by k_asm) (by k_asm) (by assumption) (small_one (by omega) (by omega) (by omega) (by omega)) (rangeSize_nat _ _) (by rw [PySem.sizeLine_eq]; omega) ?_ | refine src_listT (by rfl) (by k_asm) (by k_asm) (by k_mem) (by rw [PySem.sizeLine_eq]; simp only [List.size_toArray]; omega) ?_)) | (k_here; k_dflt (first | refine src_range (by rfl) (by k_asm) (by k_asm) (by assumption) (small_one (by omega) (by omega) (by omega) (by omega)) (rangeSize_nat _ _) (by rw [PySem.sizeLine_eq]; omega) ?_ | refine src_list (by rfl) (by k_asm) (by k_asm) (by k_mem) (by rw [PySem.sizeLine_eq]; simp only [List.size_toArray]; omega) ?_)) | (k_here; (with_reducible show wpAny _ _ (eval (Expr.ListComp _ [⟨_, _, [_], _⟩] _ _) _) _ _ _); k_dflt (refine LCt.ListComp_T (F₀ := by k_asm) (by with_unfolding_all rfl) (by decide) (by rfl) (by decide) (by rfl) ?_)) | (k_here; (with_reducible show wpAny _ _ (eval (Expr.ListComp _ [⟨_, _, [], _⟩] _ _) _) _ _ _); k_dflt (refine LCg.ListComp_U (F₀ := by k_asm) (by with_unfolding_all rfl) (by decide) (by rfl) (by decide) (by rfl) ?_)) | (k_here; (with_reducible show wpAny _ _ (exec (Stmt.Assign _ (Expr.ListComp _ [⟨_, _, [_], _⟩] _ _) _) _) _ _ _); k_dflt (refine LCt.Assign_ListComp_T (F₀ := by k_asm) (by rfl) (by with_unfolding_all rfl) (by with_unfolding_all rfl) (by decide) (by rfl) (by decide) (by rfl) (by rfl) (by rfl) ?_)) | (k_here; (with_reducible show wpAny _ _ (exec (Stmt.Assign _ (Expr.ListComp _ [⟨_, _, [], _⟩] _ _) _) _) _ _ _); k_dflt (refine LCg.Assign_ListComp_U (F₀ := by k_asm) (by rfl) (by with_unfolding_all rfl) (by with_unfolding_all rfl) (by decide) (by rfl) (by decide) (by rfl) (by rfl) (by rfl) ?_)) | ((with_reducible show wpAny _ _ (call _ _) _ _ _); (first | (k_here; k_dflt (refine' CallsTo.useP1 (moves_calls _ _ _ _ _ _ _ _ _ ?psv57 ?pxv57 ?pgv57) ?k1v57 ?k2v57 ?k3v57 ?k4v57 ?k5v57 ?kHv57 ?kAv57 ?kFv57 ?kKv57 ?kdv57 ?kuv57 ?_; (case pxv57 => assumption); (case k1v57 => k_asm); (case k2v57 => k_asm); (case k3v57 => k_asm); (case k4v57 => k_asm); (case k5v57 => k_asm); (case kHv57 => exact rfl); (case kAv57 => exact rfl); (case kFv57 => first | assumption | exact rfl); (case kKv57 => first | assumption | exact rfl); (case kdv57 => (walk_at "my room")); (case kuv57 => (walk_at "my room")); (case psv57 => repeat (first | assumption | refine sub_t ?_)); (case pgv57 => assumption); k_whole; (intro h'q tk'q F'q N'q); (try k_sweep); (try k_fold))) | (k_here; k_dflt (refine' most_use ?k1v56 ?k2v56 ?k3v56 ?k4v56 ?k5v56 ?kHv56 ?kAv56 ?kFv56 ?kKv56 ?kdv56 ?kuv56 ?_; (case k1v56 => k_asm); (case k2v56 => k_asm); (case k3v56 => k_asm); (case k4v56 => k_asm); (case k5v56 => k_asm); (case kHv56 => exact rfl); (case kAv56 => exact rfl); (case kFv56 => first | assumption | exact rfl); (case kKv56 => first | assumption | exact rfl); (case kdv56 => (walk_at "my room")); (case kuv56 => (walk_at "my room")); k_whole; (intro t'q h'q tk'q F'q N'q); (try k_sweep); (try k_fold))) | fail)) | fail); (all_goals k_steps)) | ((fail_if_success (with_reducible refine Halt.go ?_)); (first | (k_here; (with_reducible show wpAny _ _ (call (Value.builtin "len") [Value.ref _]) _ _ _); k_dflt (refine PyProof.Rows.len_list (News.isList (by k_asm) (by k_mem)) (by simp only [List.size_toArray]; omega) ?_)) | (k_here; (with_reducible show wpAny _ _ (eval (Expr.Name _ _) (compEnvC _ _ _ _)) _ _ _); k_dflt (refine' lcf_free ?Nv49 ?cv49 ?mv49 ?dv49 ?_ ?av49 ?bv49; (case av49 => rfl); (case bv49 => rfl); (case Nv49 => k_asm); (case cv49 => rfl); (case mv49 => assumption); (case dv49 => assumption); k_whole)) | fail); (all_goals k_steps))))
          all_goals first | exact none | skip
          refine Halt.go (fun gX => ?_)
          refine comp_keep (R := fun v (x : Flat) => ∃ t, v = .int x.width t) ((flats ps).take (j + 1)) (by simp [hinv.length]) (Or.inr ⟨_, by k_mem, rfl, _, rfl⟩) ?turn3 ?fin3
          case turn3 =>
            intro i v b ys I oI C oC D m₂ h tk E' hb hv hC hx' F2 N2 off3 ne3
            have hv' : fvs[i]? = some v ∧ i < j + 1 := by
              have hv : (fvs.take (j + 1))[i]? = some v := by simpa using hv
              rw [List.getElem?_take] at hv
              split at hv
              · exact ⟨hv, by assumption⟩
              · cases hv
            refine hide fun Gh back => ?_
            obtain ⟨x, hxi, hfl0⟩ := hinv.get hv'.1
            refine back ?_
            clear back Gh
            rw [List.getElem?_take, if_pos hv'.2, hxi] at hb
            cases hb
            refine hide fun Gh back => ?_
            obtain ⟨ok, a, la, nn, k9, t9, wv, dv, rfl, m1, m2, W, G⟩ := hfl0
            refine back ?_
            clear back Gh
            replace m1 := sub _ m1
            simp only [LCg.Off3, and_true] at off3
            cases hw : b.w with
            | none =>
              rw [hw] at W
              refine hide fun Gh back => ?_
              obtain rfl : wv = .none := W
              refine back ?_
              clear back Gh
              (k_steps; repeat' (first | ((with_reducible refine Halt.go ?_); (first | (k_here; (with_reducible show wpAny _ _ (subscriptTail _ (PySem.Expr.Name _ _) _ _) _ _ _); k_dflt (refine sub_list (by k_asm) (by k_mem) (by omega) (by omega) (by assumption) ?_)) | ((with_reducible show wpAny _ _ (call _ _) _ _ _); (first | (k_here; k_dflt (refine' CallsTo.useP1 (moves_calls _ _ _ _ _ _ _ _ _ ?psv57 ?pxv57 ?pgv57) ?k1v57 ?k2v57 ?k3v57 ?k4v57 ?k5v57 ?kHv57 ?kAv57 ?kFv57 ?kKv57 ?kdv57 ?kuv57 ?_; (case pxv57 => assumption); (case k1v57 => k_asm); (case k2v57 => k_asm); (case k3v57 => k_asm); (case k4v57 => k_asm); (case k5v57 => k_asm); (case kHv57 => exact rfl); (case kAv57 => exact rfl); (case kFv57 => first | assumption | exact rfl); (case kKv57 => first | assumption | exact rfl); (case kdv57 => (walk_at "my room")); (case kuv57 => (walk_at "my room")); (case psv57 => repeat (first | assumption | refine sub_t ?_)); (case pgv57 => assumption); k_whole; (intro h'q tk'q F'q N'q); (try k_sweep); (try k_fold))) | (k_here; k_dflt (refine' most_use ?k1v56 ?k2v56 ?k3v56 ?k4v56 ?k5v56 ?kHv56 ?kAv56 ?kFv56 ?kKv56 ?kdv56 ?kuv56 ?_; (case k1v56 => k_asm); (case k2v56 => k_asm); (case k3v56 => k_asm); (case k4v56 => k_asm); (case k5v56 => k_asm); (case kHv56 => exact rfl); (case kAv56 => exact rfl); (case kFv56 => first | assumption | exact rfl); (case kKv56 => first | assumption | exact rfl); (case kdv56 => (walk_at "my room")); (case kuv56 => (walk_at "my room")); k_whole; (intro t'q h'q tk'q F'q N'q); (try k_sweep); (try k_fold))) | fail)) | fail); (all_goals k_steps)) | ((fail_if_success (with_reducible refine Halt.go ?_)); (first | (k_here; (with_reducible show wpAny _ _ (eval (Expr.Name _ _) (compEnvC _ _ _ _)) _ _ _); k_dflt (refine' lcf_free ?Nv49 ?cv49 ?mv49 ?dv49 ?_ ?av49 ?bv49; (case av49 => rfl); (case bv49 => rfl); (case Nv49 => k_asm); (case cv49 => rfl); (case mv49 => assumption); (case dv49 => assumption); k_whole)) | fail); (all_goals k_steps))))
              all_goals first | exact none | exact Keep.mk (p := fun y => ∃ t, y = Value.int b.width t) (by k_asm) (by k_asm) ⟨_, by rw [Flat.width, hw]; exact rfl⟩
            | some i =>
              rw [hw] at W
              refine hide fun Gh back => ?_
              obtain ⟨ti, rfl⟩ := (W : ∃ t, wv = .int i t)
              refine back ?_
              clear back Gh
              (k_steps; repeat' (first | ((with_reducible refine Halt.go ?_); (first | (k_here; (with_reducible show wpAny _ _ (subscriptTail _ (PySem.Expr.Name _ _) _ _) _ _ _); k_dflt (refine sub_list (by k_asm) (by k_mem) (by omega) (by omega) (by assumption) ?_)) | ((with_reducible show wpAny _ _ (call _ _) _ _ _); (first | (k_here; k_dflt (refine' CallsTo.useP1 (moves_calls _ _ _ _ _ _ _ _ _ ?psv57 ?pxv57 ?pgv57) ?k1v57 ?k2v57 ?k3v57 ?k4v57 ?k5v57 ?kHv57 ?kAv57 ?kFv57 ?kKv57 ?kdv57 ?kuv57 ?_; (case pxv57 => assumption); (case k1v57 => k_asm); (case k2v57 => k_asm); (case k3v57 => k_asm); (case k4v57 => k_asm); (case k5v57 => k_asm); (case kHv57 => exact rfl); (case kAv57 => exact rfl); (case kFv57 => first | assumption | exact rfl); (case kKv57 => first | assumption | exact rfl); (case kdv57 => (walk_at "my room")); (case kuv57 => (walk_at "my room")); (case psv57 => repeat (first | assumption | refine sub_t ?_)); (case pgv57 => assumption); k_whole; (intro h'q tk'q F'q N'q); (try k_sweep); (try k_fold))) | (k_here; k_dflt (refine' most_use ?k1v56 ?k2v56 ?k3v56 ?k4v56 ?k5v56 ?kHv56 ?kAv56 ?kFv56 ?kKv56 ?kdv56 ?kuv56 ?_; (case k1v56 => k_asm); (case k2v56 => k_asm); (case k3v56 => k_asm); (case k4v56 => k_asm); (case k5v56 => k_asm); (case kHv56 => exact rfl); (case kAv56 => exact rfl); (case kFv56 => first | assumption | exact rfl); (case kKv56 => first | assumption | exact rfl); (case kdv56 => (walk_at "my room")); (case kuv56 => (walk_at "my room")); k_whole; (intro t'q h'q tk'q F'q N'q); (try k_sweep); (try k_fold))) | fail)) | fail); (all_goals k_steps)) | ((fail_if_success (with_reducible refine Halt.go ?_)); (first | (k_here; (with_reducible show wpAny _ _ (eval (Expr.Name _ _) (compEnvC _ _ _ _)) _ _ _); k_dflt (refine' lcf_free ?Nv49 ?cv49 ?mv49 ?dv49 ?_ ?av49 ?bv49; (case av49 => rfl); (case bv49 => rfl); (case Nv49 => k_asm); (case cv49 => rfl); (case mv49 => assumption); (case dv49 => assumption); k_whole)) | fail); (all_goals k_steps))))
              all_goals first | exact none | exact Keep.mk (p := fun y => ∃ t, y = Value.int b.width t) (by k_asm) (by k_asm) ⟨_, by rw [Flat.width, hw]; exact rfl⟩
          case fin3 =>
            intro ys3 hy3
            have hyi3 := width_ints hy3
            have hl3' : ys3.length ≤ 40 := by rw [hy3.length, List.length_take]; have := hinv.length; omega
            unfold LCg.FinE
            (k_steps; repeat' ((with_reducible refine Halt.go ?_); (first | ((with_reducible show wpAny _ _ (call _ _) _ _ _); (first | (k_here; k_dflt (refine' CallsTo.useP1 (moves_calls _ _ _ _ _ _ _ _ _ ?psv57 ?pxv57 ?pgv57) ?k1v57 ?k2v57 ?k3v57 ?k4v57 ?k5v57 ?kHv57 ?kAv57 ?kFv57 ?kKv57 ?kdv57 ?kuv57 ?_; (case pxv57 => assumption); (case k1v57 => k_asm); (case k2v57 => k_asm); (case k3v57 => k_asm); (case k4v57 => k_asm); (case k5v57 => k_asm); (case kHv57 => exact rfl); (case kAv57 => exact rfl); (case kFv57 => first | assumption | exact rfl); (case kKv57 => first | assumption | exact rfl); (case kdv57 => (walk_at "my room")); (case kuv57 => (walk_at "my room")); (case psv57 => repeat (first | assumption | refine sub_t ?_)); (case pgv57 => assumption); k_whole; (intro h'q tk'q F'q N'q); (try k_sweep); (try k_fold))) | (k_here; k_dflt (refine' most_use ?k1v56 ?k2v56 ?k3v56 ?k4v56 ?k5v56 ?kHv56 ?kAv56 ?kFv56 ?kKv56 ?kdv56 ?kuv56 ?_; (case k1v56 => k_asm); (case k2v56 => k_asm); (case k3v56 => k_asm); (case k4v56 => k_asm); (case k5v56 => k_asm); (case kHv56 => exact rfl); (case kAv56 => exact rfl); (case kFv56 => first | assumption | exact rfl); (case kKv56 => first | assumption | exact rfl); (case kdv56 => (walk_at "my room")); (case kuv56 => (walk_at "my room")); k_whole; (intro t'q h'q tk'q F'q N'q); (try k_sweep); (try k_fold))) | fail)) | fail); (all_goals k_steps)))
            all_goals first | exact none | skip
            refine' ret _ _ _ [] [] ?e1 ?e2 lt_tl0 ⟨rfl, rfl, ?e4⟩
            case e1 => k_asm
            case e2 => exact news_sub (by k_asm) (fun p hp => by repeat (first | exact hp | refine List.Mem.tail _ ?_))
            case e4 => exact ⟨_, congrArg (fun i => Value.int i _) ((clamp_if _).trans (due_no hj hmi hg).symm)⟩
end
end
section
open AutoSeq1 (wpAny_loadPart') in
theorem meets_enum_tup (l : Addr) (items : Array Value) (n : Nat) :
    Meets (Builtin.«enumerate.__new__» ⟨[.type "enumerate", .ref l], []⟩) (fun _ R s => s.heap.get? l = some { cls := .type "tuple", dict := none, data := .seq items n, slots := #[] } ∧
      R (.ok (.ret (.ref (s.heap.push { cls := .type "tuple_iterator", data := .fields #[.ref l, .int 0 0] }).objs.size)))
        { s with heap := (s.heap.push { cls := .type "tuple_iterator", data := .fields #[.ref l, .int 0 0] }).push { cls := .type "enumerate", data := .fields #[.none, .bool false, .ref s.heap.objs.size, rawInt 0, .none, .none] } }) :=
  .of_wp fun prog w A R s h => by
    obtain ⟨hp, g, d, tk, os⟩ := s; obtain ⟨hl, h⟩ := h
    have hsub := sub_enumerate
    have hL : Heap.IsTuple (Shared.heap ⟨hp, g, d, tk, os⟩) l items := ⟨_, hl, rfl, n, rfl⟩
    wp_walk using wpAny_loadPart' hl
    refine wpAny_stack_any fun st => wpAny_pure ?_
    split
    · rename_i c _ _ _ _ _
      cases (c == Value.type "enumerate")
      · wp_walk using wpAny_loadPart' hl, wpAny_pyIter_tuple hL
        exact ⟨_, rfl, h⟩
      · wp_walk using wpAny_loadPart' hl, wpAny_pyIter_tuple hL
        exact ⟨_, rfl, h⟩
    · wp_walk using wpAny_loadPart' hl, wpAny_pyIter_tuple hL
      exact ⟨_, rfl, h⟩
section
variable {prog : Program} {w : World} {A : Around} {E : Value → Shared → Prop} {s : Shared}
theorem call_enum_tup {l : Addr} {items : Array Value} {n : Nat} {Q : Value → Shared → Prop} (hL : s.heap.get? l = some { cls := .type "tuple", dict := none, data := .seq items n, slots := #[] })
    (h : ∀ h', IsEnum h' (s.heap.objs.size + 1) s.heap.objs.size 0 .none → h'.IsTupleIter s.heap.objs.size l 0 → (∀ b o, s.heap.get? b = some o → h'.get? b = some o) → Q (.ref (s.heap.objs.size + 1)) { s with heap := h' }) :
    wpAny (model prog w) A (call (.type "enumerate") [.ref l]) Q E s := by
  refine callType_new PySem.F.called_enumerate (by decide) (PySem.F.typeCall_enumerate_1 _) (PySem.F.newCall_enumerate_1 _) (fun obj => PySem.F.args_object_init_2 obj _) PySem.F.entry_enumerate_new (meets_enum_tup l items n) ⟨hL, ?_⟩
  have hz : (s.heap.push { cls := .type "tuple_iterator", data := .fields #[.ref l, .int 0 0] }).objs.size = s.heap.objs.size + 1 := Heap.size_push ..
  show _ ∧ _
  rw [hz]
  have he : IsEnum ((s.heap.push { cls := .type "tuple_iterator", data := .fields #[.ref l, .int 0 0] }).push { cls := .type "enumerate", data := .fields #[.none, .bool false, .ref s.heap.objs.size, rawInt 0, .none, .none] }) (s.heap.objs.size + 1) s.heap.objs.size 0 .none := by
    have := Heap.get?_push_size (s.heap.push { cls := .type "tuple_iterator", data := .fields #[.ref l, .int 0 0] }) (o := { cls := .type "enumerate", data := .fields #[.none, .bool false, .ref s.heap.objs.size, rawInt 0, .none, .none] }) rfl
    rw [hz] at this; exact this
  exact ⟨⟨_, he, rfl⟩, h _ he ⟨_, Heap.get?_push_of_some _ (Heap.get?_push_size _ rfl), rfl, rfl⟩ fun b o x => Heap.get?_push_of_some _ (Heap.get?_push_of_some _ x)⟩
theorem next_tup {it t : Addr} {i : Nat} {items : Array Value} {Q : Value → Shared → Prop} (hh : A.handled = none) (hit : s.heap.IsTupleIter it t i) (ht : s.heap.IsTuple t items)
    (h1 : ∀ x h', items[i]? = some x → h'.IsTupleIter it t (i + 1) → Heap.SameBut it s.heap h' → Q x { s with heap := h' })
    (h2 : ∀ h' e, items[i]? = none → Heap.ExtBut it s.heap h' → (∃ o, h'.get? e = some o ∧ o.cls = .type "StopIteration") → E (.ref e) { s with heap := h' }) :
    wpAny (model prog w) A (Builtin.SmallTypes.nextOf (.ref it)) Q E s := by
  obtain ⟨o, ho, hc, hd⟩ := id hit
  obtain ⟨ol, hol, _, nl, hdl⟩ := ht
  unfold Builtin.SmallTypes.nextOf
  refine wpAny_bind (wpAny_callSpecial?_slot (name := Str.ofString "__next__") hit.typeIs PySem.F.slot_tuple_iterator_next
    (wpAny_call_entry PySem.F.slot_tuple_iterator_next hit.typeIs PySem.F.entry_tuple_iterator_next ?_ (PySem.F.args_tuple_iterator_next_1 _)))
  show wpAny _ _ (field (.ref it) 0 >>= _) _ _ s
  refine wpAny_bind (wpAny_field ho hd (x := .ref t) rfl ?_)
  show wpAny _ _ (if (Value.ref t == Value.none) = true then _ else _) _ _ s
  rw [if_neg (show ¬ ((Value.ref t == Value.none) = true) from Bool.false_ne_true)]
  show wpAny _ _ (field (.ref it) 1 >>= _) _ _ s
  refine wpAny_bind (wpAny_field ho hd (x := .int i 0) rfl ?_)
  show wpAny _ _ (seqItems? (.ref t) >>= _) _ _ s
  refine wpAny_bind (wpAny_seqItems hol hdl ?_)
  cases hx : items[i]? with
  | some x =>
    simp only [Int.toNat_natCast, hx]
    refine wpAny_bind (wpAny_setField ho hd (by simp) (wpAny_pure ⟨x, rfl, wpAny_pure (h1 x _ hx ?_ (Heap.SameBut.update ..))⟩))
    exact ⟨_, Heap.get?_update_self _ ho (Obj.isFreed_of_fields (Obj.data_mapFields hd _)), (Obj.cls_mapFields ..).trans hc, by
      rw [Obj.data_mapFields hd]; simp [rawInt]⟩
  | none =>
    simp only [Int.toNat_natCast, hx]
    refine wpAny_bind (wpAny_rule (wpAny_bind (wpAny_setField ho hd (by simp) ?_)))
    show wpAny _ _ (newExc (.type "StopIteration") [] >>= _) _ _ _
    refine wpAny_bind ?_
    simp only [newExc, newTuple]
    refine wpAny_bind (wpAny_newObj_type ?_ (by size_fits))
    refine wpAny_bind (m := firstArgMember _ _) (wpAny_of_eq (a := Value.none) (by first | rfl | (simp only [firstArgMember]; rfl)) ?_)
    refine wpAny_newObj_type ?_ (by size_fits)
    simp only [raiseNew]
    refine wpAny_bind (wpAny_handled ?_)
    first | rw [show A.in1.handled = none from hh] | rw [hh]
    refine wpAny_bind (wpAny_pure (wpAny_throw ?_))
    exact h2 _ _ hx (((Heap.SameBut.update ..).extBut.push _).push _) ⟨_, Heap.get?_push_size _ rfl, rfl⟩
end
theorem draws_tup {prog : Program} {w : World} {A : Around} (hh : A.handled = none) (it l : Addr) (hne : l ≠ it) (items : Array Value) :
    Draws prog w A it [it, l] items.size (fun i v => items[i]? = some v) (fun i h => h.IsTupleIter it l i ∧ h.IsTuple l items) where
  live := fun _ _ st => let ⟨o, ho, _⟩ := st.1; ⟨o, ho⟩
  frame := fun _ _ _ st hk => ⟨st.1.at fun o e => hk it (by simp) o e, st.2.at fun o e => hk l (by simp) o e⟩
  item := fun i s Q E hi st hQ => by
    refine next_tup hh st.1 st.2 (fun x h' hx hit' hs' => hQ _ h' s.toks hx ⟨hit', st.2.extBut hs'.extBut hne⟩ hs') fun h' e hx => ?_
    simp [hi] at hx
  done := fun s Q E st hE => next_tup hh st.1 st.2 (fun x h' hx => by simp at hx) fun h' e _ => hE h' e
abbrev enumT {prog : Program} {w : World} {A : Around} (hh : A.handled = none) (e it l : Addr) (h1 : e ≠ it) (h2 : l ≠ it) (h3 : e ≠ l) (items : Array Value) := WalksT.enumerateD (draws_tup (prog := prog) (w := w) (A := A.in1) hh it l h2 items) e h1 (by simp [h1, h3]) (by simp)
theorem enum_none {prog : Program} {w : World} {A : Around} {E : Value → Shared → Prop} {s : Shared} {h₀ : Heap} {env : Env} {l : Addr} {n : Nat} {m₀ : Str → Option Value} {news : Led} {xi xc : Str} {body : List Stmt} {Q : Flow → Shared → Prop}
    (hh : A.handled = none) (F : Fr h₀ env.locals s.heap m₀) (N : News h₀ env.locals s.heap news) (hl : s.heap.get? l = some (tupO [] n)) (hL : env.locals ≠ l)
    (done : ∀ h tk, Fr h₀ env.locals h m₀ → News h₀ env.locals h news → Q .next { s with heap := h, toks := tk }) :
    wpAny (model prog w) A (call (.type "enumerate") [.ref l]) (fun xv s₁ => wpAny (model prog w) A (pyIter xv) (fun it s₂ => PairAt3 prog w A h₀ env xi xc body Q E it s₂) E s₁) E s := by
  have hlt : @LT.lt Nat _ l s.heap.objs.size := Heap.lt_size hl
  have hLs : @LT.lt Nat _ env.locals s.heap.objs.size := F.ns.lt
  refine call_enum_tup hl fun h' hE hI hk => ?_
  refine wpAny_pyIter_enum hE ?_
  have e1 : s.heap.objs.size + 1 ≠ s.heap.objs.size := Nat.succ_ne_self _
  have e2 : l ≠ s.heap.objs.size := Nat.ne_of_lt hlt
  have e3 : s.heap.objs.size + 1 ≠ l := fun e => Nat.lt_irrefl _ (Nat.lt_of_lt_of_le hlt (e ▸ Nat.le_succ _))
  have new : ∀ b : Addr, @LE.le Nat _ s.heap.objs.size b → h₀.get? b = none := fun b hb => by
    cases e : h₀.get? b with
    | none => rfl
    | some o => exact absurd (Heap.lt_size (F.keep b o e)) (Nat.not_lt.mpr hb)
  have hw : ∀ b ∈ [s.heap.objs.size + 1, s.heap.objs.size], @LE.le Nat _ s.heap.objs.size b := fun b hb => by
    rcases List.mem_cons.mp hb with rfl | hb
    · exact Nat.le_succ _
    · rw [List.mem_singleton.mp hb]; exact Nat.le_refl _
  refine ⟨_, _, _, 0, _, _, _, fun _ _ _ => True, m₀, news, fun _ m' nw => m' = m₀ ∧ nw = news, rfl, enumT hh _ _ l e1 e2 e3 ([] : List Value).toArray, ?_, ?_, fun b hb => new b (hw b hb), fun p hp hb => Nat.lt_irrefl _ (Nat.lt_of_lt_of_le (Heap.lt_size (N p hp).1) (hw _ hb)), ⟨⟨_, hE⟩, hI, ⟨_, hk _ _ hl, rfl, n, rfl⟩⟩, F.keeps hk, N.grown hk, ⟨rfl, rfl⟩, ?_, ?_⟩
  · rintro i vals ⟨t, x, _, rfl⟩
    exact ⟨_, _, rfl, trivial⟩
  · intro hb
    rcases List.mem_cons.mp hb with e | hb
    · exact Nat.lt_irrefl _ (Nat.lt_trans hLs (e ▸ Nat.lt_succ_self _))
    · rcases List.mem_cons.mp hb with e | hb
      · exact Nat.ne_of_lt hLs e
      · exact hL (List.mem_singleton.mp hb)
  · intro i _ _ _ _ _ _ _ hi
    exact absurd hi (Nat.not_lt_zero _)
  · rintro h2 tk m' nw F' N' _ ⟨rfl, rfl⟩
    exact done h2 tk F' N'
def Off4 (e I C D : Addr) (l : Led) : Prop := ∀ p ∈ l, p.1 ≠ e ∧ p.1 ≠ I ∧ p.1 ≠ C ∧ p.1 ≠ D
section
variable {prog : Program} {w : World} {A : Around} {E : Value → Shared → Prop} {s : Shared} {h₀ : Heap} {L : Addr} {m : Str → Option Value} {env : Env}
def TurnE (prog : Program) (w : World) (A : Around) (h₀ : Heap) (L : Addr) (m : Str → Option Value) (env : Env) (elt : Expr) (x x₂ : Str) (scope : Scope) (cl : List (Str × Addr)) (vs : List Value) (base : Led) (Inv : Nat → List Value → Led → Prop) (s₂ : Shared) : Prop :=
  ∀ i t v ys tl e oe I oI C oC D m₂ h tk (E' : Value → Shared → Prop), vs[i]? = some v → Inv i ys tl → LCg.NsObj oC m₂ → m₂ x = some (.int (i : Int) t) → m₂ x₂ = some v → Fr h₀ L h m → News h₀ L h ((e, oe) :: (I, oI) :: (C, oC) :: (D, LCg.lst ys) :: (tl ++ base)) → Off4 e I C D (tl ++ base) → ((@Ne Nat e C) ∧ (@Ne Nat I C) ∧ (@Ne Nat e D) ∧ (@Ne Nat I D) ∧ (@Ne Nat C D)) →
    wpAny (model prog w) A (eval elt (compEnvC scope cl C env)) (fun y s' => ∃ h' tk' tl', s' = { s₂ with heap := h', toks := tk' } ∧ Fr h₀ L h' m ∧ News h₀ L h' ((e, oe) :: (I, oI) :: (C, oC) :: (D, LCg.lst ys) :: (tl' ++ base)) ∧ Off4 e I C D tl' ∧ Inv (i + 1) (ys ++ [y]) tl') E' { s₂ with heap := h, toks := tk }
theorem block_E {elt iter : Expr} {x x₂ : Str} {px px₂ tp : Pos} {tk : Nat} {scope : Scope} {cl : List (Str × Addr)} {pos : Pos} {s₂ : Shared} {e I ax : Addr} {vs : List Value} {kt : Nat} {base : Led} {Inv : Nat → List Value → Led → Prop} {RR : Value → Addr → Result → Shared → Prop}
    (hh : A.handled = none) (he : IsEnum s₂.heap e I 0 .none) (hI : s₂.heap.IsTupleIter I ax 0) (hax : (ax, tupO vs kt) ∈ base) (hsz : vs.length ≤ sizeLine)
    (hcell : ∀ y ∈ scope.names, y.2 ≠ .cell) (hkind : scope.kind = .function) (hx : scope.names.lookup x = some .local) (hx₂ : scope.names.lookup x₂ = some .local) (hxx : x ≠ x₂)
    (F : Fr h₀ L s₂.heap m) (N : News h₀ L s₂.heap base) (hLe : L ≠ e) (hLI : L ≠ I) (he₀ : h₀.get? e = none) (hI₀ : h₀.get? I = none) (heI : e ≠ I) (off : ∀ p ∈ base, p.1 ≠ e ∧ p.1 ≠ I) (h0 : Inv 0 [] [])
    (turn : TurnE prog w A h₀ L m env elt x x₂ scope cl vs base Inv s₂)
    (hRR : ∀ D C h tk m' ys tl, Inv vs.length ys tl → Fr h₀ L h m → News h₀ L h ((D, LCg.lst ys) :: (tl ++ base)) → h.Ns C m' → h₀.get? C = none → h₀.get? D = none → C ≠ L → D ≠ L → C ≠ D → (∀ p ∈ tl ++ base, p.1 ≠ C ∧ p.1 ≠ D) → RR (.ref D) C (.ok .next) { s₂ with heap := h, toks := tk }) :
    wpAny (model prog w) A (newList []) (fun acc s₃ => wpAny (model prog w) A (newFunctionEnv scope env.globals cl [] env.qual none .none (some env)) (fun cenv s₄ =>
      codeAny (model prog w) A (.compStart (.ListComp elt [⟨.Tuple [.Name x px, .Name x₂ px₂] tk tp, iter, [], 0⟩] scope pos) 0 (.ref e) acc { cenv with scope := relabel scope env }) (RR acc cenv.locals) s₄) E s₃) E s₂ := by
  have hax0 := (N _ hax).1
  have hne : ax ≠ I := (off _ hax).2
  have hne' : e ≠ ax := Ne.symm (off _ hax).1
  have W := enumT (prog := prog) (w := w) (A := A) hh e I ax heI hne hne' vs.toArray
  refine wpAny_newObj_type (wpAny_newFunctionEnv hcell (by intro y hy; simp at hy) (fun h₁ hns₁ hsb₁ => ?_) hkind)
  dsimp only at hns₁ hsb₁ ⊢
  generalize hH2 : s₂.heap.push { cls := .type "list", dict := none, data := .seq ([] : List Value).toArray } = H2 at hns₁ hsb₁ ⊢
  have hC : H2.objs.size = s₂.heap.objs.size + 1 := by rw [← hH2, Heap.size_push]
  have hDC : s₂.heap.objs.size ≠ H2.objs.size := by rw [hC]; exact Nat.ne_of_lt (Nat.lt_succ_self _)
  have below : ∀ b, b < s₂.heap.objs.size → b ≠ H2.objs.size ∧ b ≠ s₂.heap.objs.size := fun b hb => ⟨by rw [hC]; exact Nat.ne_of_lt (Nat.lt_succ_of_lt hb), Nat.ne_of_lt hb⟩
  have elt' : e < s₂.heap.objs.size := Heap.lt_size he
  have Ilt' : I < s₂.heap.objs.size := by obtain ⟨o, y, _⟩ := hI; exact Heap.lt_size y
  have axlt : ax < s₂.heap.objs.size := Heap.lt_size hax0
  have old : ∀ b o, s₂.heap.get? b = some o → h₁.get? b = some o := fun b o e => hsb₁.extBut b o (below b (Heap.lt_size e)).1 (Heap.get?_push_of_some _ (hH2 ▸ Heap.get?_push_of_some _ e))
  have hacc : h₁.get? s₂.heap.objs.size = some (LCg.lst []) := hsb₁.extBut _ _ hDC (Heap.get?_push_of_some _ (hH2 ▸ Heap.get?_push_size _ rfl))
  have hst₁ : (∃ old, IsEnum h₁ e I ((0 : Nat) : Int) old) ∧ (h₁.IsTupleIter I ax 0 ∧ h₁.IsTuple ax vs.toArray) := ⟨⟨_, old _ _ he⟩, hI.at fun o q => old _ o q, ⟨_, old _ _ hax0, rfl, kt, rfl⟩⟩
  have fresh : ∀ a, s₂.heap.objs.size ≤ a → s₂.heap.get? a = none := fun a ha => by
    cases e : s₂.heap.get? a with
    | none => rfl
    | some o' => exact absurd (Heap.lt_size e) (Nat.not_lt.mpr ha)
  have fresh₀ : ∀ a, s₂.heap.objs.size ≤ a → h₀.get? a = none := fun a ha => by
    cases e : h₀.get? a with
    | none => rfl
    | some o' => have := F.keep a o' e; rw [fresh a ha] at this; cases this
  have hD₀ : h₀.get? s₂.heap.objs.size = none := fresh₀ _ (Nat.le_refl _)
  have hC₀ : h₀.get? H2.objs.size = none := fresh₀ _ (by rw [hC]; exact Nat.le_succ _)
  have hLlt : L < s₂.heap.objs.size := F.ns.lt
  have hDL : s₂.heap.objs.size ≠ L := Ne.symm (below L hLlt).2
  have hCL : H2.objs.size ≠ L := Ne.symm (below L hLlt).1
  have wr : ∀ b : Addr, b ∉ [e, I] ↔ b ≠ e ∧ b ≠ I := fun b => by simp
  have loop : ∀ s₃ : Shared, s₃ = { s₂ with heap := h₁, toks := s₂.toks + ([] : List (Str × Value)).length } →
      codeAny (model prog w) A (.compLoop (.ListComp elt [⟨.Tuple [.Name x px, .Name x₂ px₂] tk tp, iter, [], 0⟩] scope pos) 0 (.ref e) (.ref s₂.heap.objs.size) (compEnvC scope cl H2.objs.size env))
        (RR (.ref s₂.heap.objs.size) H2.objs.size) s₃ := by
    rintro s₃ rfl
    refine kcp_loop
      (fun k s' => ∃ h' tk i ys m' tl, s' = { s₂ with heap := h', toks := tk } ∧ i ≤ vs.length ∧ k = vs.length + 1 - i ∧ ys.length = i ∧ ((∃ old, IsEnum h' e I (i : Int) old) ∧ (h'.IsTupleIter I ax i ∧ h'.IsTuple ax vs.toArray)) ∧ Fr h₀ L h' m ∧ h'.Ns H2.objs.size m' ∧ News h₀ L h' ((s₂.heap.objs.size, LCg.lst ys) :: (tl ++ base)) ∧
        Off4 e I H2.objs.size s₂.heap.objs.size (tl ++ base) ∧ Inv i ys tl) ?_ (vs.length + 1)
      ⟨h₁, _, 0, [], _, [], rfl, Nat.zero_le _, rfl, rfl, hst₁, F.keeps old, hns₁, fun p hp => ?_, fun p hp => ⟨(off p hp).1, (off p hp).2, (below _ (Heap.lt_size (N p hp).1)).1, (below _ (Heap.lt_size (N p hp).1)).2⟩, h0⟩
    · intro k s' hks
      refine hide fun G back => ?_
      refine hide fun Gh back => ?_
      obtain ⟨h', tk, i, ys, m', tl, es, hi, ek, hyl, hst', F', hn', N', off', hinv⟩ := hks
      refine back ?_
      clear back Gh
      refine back ?_
      clear back
      subst es ek
      have mapN : ∀ {h h2 : Heap}, News h₀ L h ((s₂.heap.objs.size, LCg.lst ys) :: (tl ++ base)) → (∀ b o, b ∉ [e, I] → h.get? b = some o → h2.get? b = some o) → News h₀ L h2 ((s₂.heap.objs.size, LCg.lst ys) :: (tl ++ base)) := fun Na hk p hp => by
        refine ⟨hk _ _ ((wr _).mpr ?_) (Na p hp).1, (Na p hp).2⟩
        rcases List.mem_cons.mp hp with rfl | hp
        · exact ⟨Ne.symm (below e elt').2, Ne.symm (below I Ilt').2⟩
        · exact ⟨(off' p hp).1, (off' p hp).2.1⟩
      have mapF : ∀ {h h2 : Heap}, Fr h₀ L h m → (∀ b o, b ∉ [e, I] → h.get? b = some o → h2.get? b = some o) → Fr h₀ L h2 m := fun Fa hk => ⟨Fa.ns.at' fun o q => hk L o ((wr _).mpr ⟨hLe, hLI⟩) q, fun b o q => hk b o ((wr _).mpr ⟨fun z => (by rw [z, he₀] at q; cases q), fun z => (by rw [z, hI₀] at q; cases q)⟩) (Fa.keep b o q), Fa.above⟩
      by_cases hlt : i < vs.length
      · refine W.item i _ _ _ (by simpa using hlt) hst' fun T vals h₂ tk₂ hP hTs hT hMid hk₂ => ?_
        refine hide fun Gh back => ?_
        obtain ⟨t, v, hv, rfl⟩ := hP
        refine back ?_
        clear back Gh
        have hv' : vs[i]? = some v := by simpa using hv
        refine W.go _ _ _ i T _ _ _ hMid fun h₃ hst₃ hk₃ => ?_
        have F₂ := mapF (mapF F' hk₂) hk₃
        have N₂ := mapN (mapN N' hk₂) hk₃
        have hCe : H2.objs.size ∉ [e, I] := (wr _).mpr ⟨Ne.symm (below e elt').1, Ne.symm (below I Ilt').1⟩
        have hn₃ : h₃.Ns H2.objs.size m' := (hn'.at' fun o q => hk₂ _ o hCe q).at' fun o q => hk₃ _ o hCe q
        have hT₃ : h₃.IsTuple T #[.int (i : Int) t, v] := by
          refine hide fun Gh back => ?_
          obtain ⟨o, q, r⟩ := hT
          refine back ?_
          clear back Gh
          exact ⟨o, hk₃ _ o (W.apart _ _ _ hMid) q, r⟩
        refine kcp_assign hh hT₃ (lookup_relabel_local hx) (lookup_relabel_local hx₂) (by simp [compEnvC, relabel, hkind]) hn₃ fun h₄ tk₄ hn₄ hk₄ => ?_
        have hk₄ : ∀ c o, c ≠ H2.objs.size → h₃.get? c = some o → h₄.get? c = some o := hk₄
        have F₄ : Fr h₀ L h₄ m := ⟨F₂.ns.at' fun o q => hk₄ L o (Ne.symm hCL) q, fun b o q => hk₄ b o (fun z => by rw [z, hC₀] at q; cases q) (F₂.keep b o q), F₂.above⟩
        refine hide fun Gh back => ?_
        obtain ⟨oC, heC, hoC⟩ := LCg.ns_obj hn₄
        refine back ?_
        clear back Gh
        refine hide fun Gh back => ?_
        obtain ⟨⟨oo, hoe⟩, ⟨oI, hoI, rI⟩, hts⟩ := hst₃
        refine back ?_
        clear back Gh
        have ee : h₄.get? e = some _ := hk₄ _ _ (below e elt').1 hoe
        have eI : h₄.get? I = some oI := hk₄ _ _ (below I Ilt').1 hoI
        have N₄ : News h₀ L h₄ ((e, _) :: (I, oI) :: (H2.objs.size, oC) :: (s₂.heap.objs.size, LCg.lst ys) :: (tl ++ base)) := fun p hp => by
          rcases List.mem_cons.mp hp with rfl | hp
          · exact ⟨ee, Ne.symm hLe, he₀⟩
          rcases List.mem_cons.mp hp with rfl | hp
          · exact ⟨eI, Ne.symm hLI, hI₀⟩
          rcases List.mem_cons.mp hp with rfl | hp
          · exact ⟨heC, hCL, hC₀⟩
          have z := N₂ p hp
          refine ⟨hk₄ _ _ ?_ z.1, z.2⟩
          rcases List.mem_cons.mp hp with rfl | hp
          · exact hDC
          · exact (off' p hp).2.2.1
        refine wpAny_mono (turn i t v ys tl e _ I oI H2.objs.size oC s₂.heap.objs.size _ h₄ _ _ hv' hinv hoC (by simp [hxx]) (by simp) F₄ N₄ off' ⟨(below e elt').1, (below I Ilt').1, (below e elt').2, (below I Ilt').2, Ne.symm hDC⟩) (fun y s₄ h₄ => ?_) fun _ _ q => q
        refine hide fun G back => ?_
        refine hide fun Gh back => ?_
        obtain ⟨h₅, tk₅, tl₅, es, F₅, N₅, off₅, inv₅⟩ := h₄
        refine back ?_
        clear back Gh
        refine back ?_
        clear back
        subst es
        have z1 := (N₅ _ List.mem_cons_self).1
        have z2 := (N₅ _ (List.mem_cons_of_mem _ List.mem_cons_self)).1
        have z3 := (N₅ _ (List.mem_cons_of_mem _ (List.mem_cons_of_mem _ List.mem_cons_self))).1
        have zD := (N₅ _ (List.mem_cons_of_mem _ (List.mem_cons_of_mem _ (List.mem_cons_of_mem _ List.mem_cons_self)))).1
        have N₅' : News h₀ L h₅ (tl₅ ++ base) := fun p hp => N₅ p (List.mem_cons_of_mem _ (List.mem_cons_of_mem _ (List.mem_cons_of_mem _ (List.mem_cons_of_mem _ hp))))
        have zA := (N₅' _ (List.mem_append_right _ hax)).1
        refine append_at (hsz := by show ys.toArray.size ≤ sizeLine; rw [List.size_toArray, hyl]; exact Nat.le_trans hi hsz) zD fun h₆ hs₆ hD₆ => ?_
        have o5 : Off4 e I H2.objs.size s₂.heap.objs.size (tl₅ ++ base) := fun p hp => (List.mem_append.mp hp).elim (off₅ p) fun q => off' p (List.mem_append_right _ q)
        refine ⟨vs.length + 1 - (i + 1), by omega, ex2 h₆ tk₅ (ex4 (i + 1) (ys ++ [y]) _ tl₅ ⟨rfl, hlt, rfl, by rw [List.length_append, List.length_singleton, hyl], ?_, F₅.change hs₆ hDL hD₀, (hoC.ns z3).sameBut hs₆ (Ne.symm hDC), fun p hp => ?_, o5, inv₅⟩)⟩
        · exact ⟨⟨_, hs₆.extBut _ _ (below e elt').2 z1⟩, ⟨oI, hs₆.extBut _ _ (below I Ilt').2 z2, rI⟩, ⟨_, hs₆.extBut _ _ (below ax axlt).2 zA, rfl, kt, rfl⟩⟩
        · rcases List.mem_cons.mp hp with rfl | hp
          · exact ⟨hD₆.trans (congrArg some (LCg.lst_snoc ys y)), hDL, hD₀⟩
          · exact ⟨hs₆.extBut _ _ (o5 p hp).2.2.2 (N₅' p hp).1, (N₅' p hp).2⟩
      · refine hide fun Gh back => ?_
        obtain rfl : i = vs.length := Nat.le_antisymm hi (Nat.not_lt.mp hlt)
        refine back ?_
        clear back Gh
        refine W.done _ _ _ (by simpa using hst') fun h₂ tk₂ hk₂ => ?_
        exact hRR _ _ h₂ tk₂ _ ys tl hinv (mapF F' hk₂) (mapN N' hk₂) (hn'.at' fun o q => hk₂ _ o ((wr _).mpr ⟨Ne.symm (below e elt').1, Ne.symm (below I Ilt').1⟩) q) hC₀ hD₀ hCL hDL (Ne.symm hDC) fun p hp => ⟨(off' p hp).2.2.1, (off' p hp).2.2.2⟩
    · rcases List.mem_cons.mp hp with rfl | hp
      · exact ⟨hacc, hDL, hD₀⟩
      · exact ⟨old _ _ (N p hp).1, (N p hp).2⟩
  exact codeAny_compStart_list (loop _ rfl) (W.self 0 _ _ _ hst₁ (loop _ rfl))
def SrcE (prog : Program) (w : World) (A : Around) (h₀ : Heap) (L : Addr) (m : Str → Option Value) (env : Env) (elt : Expr) (x x₂ : Str) (scope : Scope) (cl : List (Str × Addr)) (Q : Value → Shared → Prop) (xv : Value) (s₁ : Shared) : Prop :=
  ∃ e I ax vs kt base Inv, xv = .ref e ∧ A.handled = none ∧ IsEnum s₁.heap e I 0 .none ∧ s₁.heap.IsTupleIter I ax 0 ∧ (ax, tupO vs kt) ∈ base ∧ vs.length ≤ sizeLine ∧ Fr h₀ L s₁.heap m ∧ News h₀ L s₁.heap base ∧ L ≠ e ∧ L ≠ I ∧ h₀.get? e = none ∧ h₀.get? I = none ∧ e ≠ I ∧ (∀ p ∈ base, p.1 ≠ e ∧ p.1 ≠ I) ∧ Inv 0 [] [] ∧
    TurnE prog w A h₀ L m env elt x x₂ scope cl vs base Inv s₁ ∧ ∀ ys tl, Inv vs.length ys tl → LCg.FinE h₀ L m s₁ Q ys (tl ++ base)
theorem ListComp_E {elt iter : Expr} {x x₂ : Str} {px px₂ tp : Pos} {tk} {scope : Scope} {cl : List (Str × Addr)} {pos : Pos} {Q : Value → Shared → Prop} (F₀ : Fr h₀ L s.heap m)
    (hclos : closureFor scope env = pure cl) (hcell : ∀ y ∈ scope.names, y.2 ≠ .cell) (hkind : scope.kind = .function)
    (hnames : ∀ y ∈ scope.names, y.2 = .local → scope.names.lookup y.1 = some .local) (hx : scope.names.lookup x = some .local) (hx₂ : scope.names.lookup x₂ = some .local) (hxx : x ≠ x₂)
    (h : wpAny (model prog w) A (eval iter env) (SrcE prog w A h₀ L m env elt x x₂ scope cl Q) E s)
    (hs : ∀ x, foldedSetIterable iter env x = pure x := by intro _; rfl) :
    wpAny (model prog w) A (eval (.ListComp elt [⟨.Tuple [.Name x px, .Name x₂ px₂] tk tp, iter, [], 0⟩] scope pos) env) Q E s := by
  rw [eval_ListComp]
  refine wpAny_comprehension_free (use := none) rfl hs hclos hkind hnames (wpAny_mono h (fun xv s₁ h₁ => ?_) fun _ _ e => e)
  refine hide fun G back => ?_
  refine el5 h₁ fun e I ax vs kt h₁ => el2 h₁ fun base Inv h₁ => ?_
  refine hide fun Gh back => ?_
  obtain ⟨ee, hh, he, hI, hax, hsz, F, N, hLe, hLI, he₀, hI₀, heI, off, h0, turn, fin⟩ := h₁
  refine back ?_
  clear back Gh
  refine back ?_
  clear back
  subst ee
  refine wpAny_pyIter_enum he ?_
  refine block_E hh he hI hax hsz hcell hkind hx hx₂ hxx F N hLe hLI he₀ hI₀ heI off h0 turn ?_
  intro D C h tk m' ys tl hinv F' N' hn hC₀ hD₀ hCL hDL hCD offC
  refine ⟨m', hn, fun h'' hs'' => fin ys tl hinv D h'' tk (F'.change hs'' hCL hC₀) (fun p hp => ?_) (Off1of fun p hp => (offC p hp).2)⟩
  refine ⟨hs''.extBut _ _ ?_ (N' p hp).1, (N' p hp).2⟩
  rcases List.mem_cons.mp hp with rfl | hp
  · exact Ne.symm hCD
  · exact (offC p hp).1
theorem src_enum {elt : Expr} {x x₂ : Str} {scope : Scope} {cl : List (Str × Addr)} {Q : Value → Shared → Prop} {ax : Addr} {vs : List Value} {kt : Nat} {base : Led} (Inv : Nat → List Value → Led → Prop) (hh : A.handled = none) (F : Fr h₀ L s.heap m) (N : News h₀ L s.heap base) (hax : (ax, tupO vs kt) ∈ base) (hsz : vs.length ≤ sizeLine) (h0 : Inv 0 [] [])
    (turn : ∀ g, TurnE prog w A h₀ L m env elt x x₂ scope cl vs base Inv { s with heap := g }) (fin : ∀ g ys tl, Inv vs.length ys tl → LCg.FinE h₀ L m { s with heap := g } Q ys (tl ++ base)) :
    wpAny (model prog w) A (call (.type "enumerate") [.ref ax]) (SrcE prog w A h₀ L m env elt x x₂ scope cl Q) E s := by
  have new : ∀ b : Addr, @LE.le Nat _ s.heap.objs.size b → h₀.get? b = none := fun b hb => by
    cases e : h₀.get? b with
    | none => rfl
    | some o => exact absurd (Heap.lt_size (F.keep b o e)) (Nat.not_lt.mpr hb)
  have hLs : @LT.lt Nat _ L s.heap.objs.size := F.ns.lt
  refine call_enum_tup (N _ hax).1 fun h' hE hI hk => ?_
  exact ex5 _ _ ax vs kt (ex2 base Inv ⟨rfl, hh, hE, hI, hax, hsz, F.keeps hk, N.grown hk, Nat.ne_of_lt (Nat.lt_succ_of_lt hLs), Nat.ne_of_lt hLs, new _ (Nat.le_succ _), new _ (Nat.le_refl _), Nat.succ_ne_self _, fun p hp => ⟨Nat.ne_of_lt (Nat.lt_succ_of_lt (Heap.lt_size (N p hp).1)), Nat.ne_of_lt (Heap.lt_size (N p hp).1)⟩, h0, turn h', fin h'⟩)
end
end
section
section
variable {prog : Program} {w : World} {A : Around} {E : Value → Shared → Prop} {s : Shared} {h₀ : Heap} {L : Addr} {m : Str → Option Value} {env : Env}
def TupKn (w : World) (fr : Led) (a : Addr) (vs : List Value) (k : Nat) : Prop := (a, tupO vs k) ∈ fr ∨ (K w.params).lookup a = some (tupO vs k)
theorem TupKn.get {fr : Led} {a : Addr} {vs : List Value} {k : Nat} {h : Heap} (t : TupKn w fr a vs k) (X : (K w.params).In h₀) (F : Fr h₀ L h m) (N : News h₀ L h fr) : h.get? a = some (tupO vs k) := by
  rcases t with t | t
  · exact (N _ t).1
  · exact F.keep _ _ (X _ _ t)
theorem TupKn.sub {fr fr' : Led} {a : Addr} {vs : List Value} {k : Nat} (t : TupKn w fr a vs k) (s : ∀ p ∈ fr, p ∈ fr') : TupKn w fr' a vs k := t.imp (s _) id
theorem TupKn.ne {fr : Led} {a : Addr} {vs : List Value} {k : Nat} {h : Heap} (t : TupKn w fr a vs k) (X : (K w.params).In h₀) (F : Fr h₀ L h m) (N : News h₀ L h fr) : L ≠ a := by
  rcases t with t | t
  · exact Ne.symm (N _ t).2.1
  · intro e
    have l1 := Heap.lt_size (X _ _ t)
    have l2 := F.above
    rw [← e] at l1
    exact absurd l1 (Nat.not_lt.mpr l2)
theorem for_tuple_keepK {a : Addr} {vs : List Value} {k : Nat} {news : Led} {m₀ : Str → Option Value} {x : Str} {body : List Stmt} {Q : Flow → Shared → Prop} (hh : A.handled = none) (F : Fr h₀ env.locals s.heap m₀) (N : News h₀ env.locals s.heap news) (X : (K w.params).In h₀)
    (hm : TupKn w news a vs k)
    (turn : ∀ (i : Nat) v I oI h tk, vs[i]? = some v → LCg.Off1 I news → Fr h₀ env.locals h (fun y => if y = x then some v else m₀ y) → News h₀ env.locals h ((I, oI) :: news) →
      wpAny (model prog w) A (execs body env) (ForPost h₀ env.locals (KeepJ x m₀ news) I oI { s with heap := h, toks := tk } Q) E { s with heap := h, toks := tk })
    (done : ∀ u h tk, Fr h₀ env.locals h (fun y => if y = x then u else m₀ y) → News h₀ env.locals h news → Q .next { s with heap := h, toks := tk }) :
    wpAny (model prog w) A (pyIter (.ref a)) (fun it s₂ => LoopAtV prog w A h₀ env x body Q E it s₂) E s := by
  have hg := hm.get X F N
  have hls : s.heap.IsTuple a vs.toArray := ⟨_, hg, rfl, k, rfl⟩
  have hne : a ≠ s.heap.objs.size := Nat.ne_of_lt (Heap.lt_size hg)
  refine wpAny_pyIter_tuple hls ?_
  have up : ∀ b o, s.heap.get? b = some o → (s.heap.push { cls := .type "tuple_iterator", data := .fields #[.ref a, .int 0 0] }).get? b = some o := fun b o e => Heap.get?_push_of_some _ e
  refine for_walk (a := a) (fun _ => KeepJ x m₀ news) (Walks.tuple hh s.heap.objs.size a hne vs.toArray) (fun b hb => by simpa using hb) (next_is_new F) (Nat.ne_of_lt F.ns.lt) (hm.ne X F N) (Off1of fun p hp => Nat.ne_of_lt (Heap.lt_size (N p hp).1)) (fun i h st => by obtain ⟨o, e, _⟩ := st.1; exact ⟨o, e⟩)
    ⟨⟨_, Heap.get?_push_size _ rfl, rfl, rfl⟩, ⟨_, up _ _ hg, rfl, k, rfl⟩⟩ (F.keeps up) (N.grown up) ⟨rfl, fun _ _ => rfl⟩ (fun i m' m₁ nw h j F' N' => hm.get X F' (j.1 ▸ N')) ?_ ?_
  · rintro i v m₁ nw oI h tk _ hP ⟨rfl, hj⟩ o F' N'
    rw [keep_map hj] at F'
    exact turn i v _ oI h tk (by simpa using hP) o F' N'
  · rintro m₁ nw h tk ⟨rfl, hj⟩ F' N'
    rw [keep_done hj] at F'
    exact done _ h tk F' N'
end
section
local macro_rules | `(tactic| walk_at "exec For Name Name cons nil") => `(tactic| refine halt_of ?_)
local macro_rules | `(tactic| walk_at "pyIter ref") => `(tactic| refine halt_it ?_)
local macro_rules | `(tactic| walk_at "call ref") => `(tactic| refine halt_of ?_)
set_option maxHeartbeats 4000000 in
theorem sizes_calls (w : World) (ta : Addr) (vs : List Value) (k : Nat) (fr : Led) (hm : TupKn w fr ta vs k) (hv : ∀ v ∈ vs, ∃ i t, v = .int i t ∧ fits i) : CallsTo w 551 [.ref ta] [] fr 8 120 (fun r mu' tl => mu' = [] ∧ tl = [] ∧ r = .none) := by
  intro prog p loose mean mg mb A env outer A₀ base h₀ L m s Q E B F X N T hh hA hf hk hd hu ret; obtain ⟨hd0, dp, frm, gd, un⟩ := A; obtain ⟨hp0, gs0, dr0, tk0, os0⟩ := s; dsimp only at hh hA hd hu F N ret; subst hh hA; have hSt := StK.mk gs0 dr0 os0; (try simp only [List.cons_append, List.nil_append] at N)
  refine wpAny_call ?_; k_dflt (refine' code_def (binds := [(Str.ofString "sizes", .ref ta)]) ?k1 ?k2 ?k3 ?k4 ?k5 ?kA ?kF ?kK ?k6 ?k7 ?k8 ?k9 ?kB ?_ ?c2 ?c3 ?c4 ?c5; (case kA => exact rfl); (case kF => first | assumption | exact rfl); (case kK => first | assumption | exact rfl); (case k1 => k_asm); (case k2 => k_asm); (case k3 => k_asm); (case k4 => k_asm); (case k5 => k_asm); (case k6 => k_is); (case k7 => k_is); (case k8 => (walk_at "my room")); (case k9 => first | exact BindsTo.of_eq rfl | exact binds_K (by k_in) rfl (by k_is) rfl rfl rfl); (case c5 => decide); (case kB => exact locs rfl); (case c2 => exact rfl); (case c3 => exact rfl); (case c4 => exact rfl); k_whole; intro g' L' h' FG' F' N' B' X' T'; (refine gen_tk fun tk1 => ?_); (try dsimp only at N'); (try dsimp only); (try k_fold))
  (k_steps; repeat' ((with_reducible refine Halt.go ?_); (first | ((with_reducible show wpAny _ _ (exec _ _) _ _ _); (k_here; (rename Fr _ _ _ _ => lF'q); (with_unfolding_all refine' For_invVF lF'q ?k1v59 ?k2v59 ?_; (case k1v59 => exact rfl); (case k2v59 => exact rfl); k_whole))) | ((with_reducible show wpAny _ _ (call _ _) _ _ _); (first | (k_here; k_dflt (refine' CallsTo.useP (is_size_calls _ _ _ ?p1v60 ?p2v60) ?k1v60 ?k2v60 ?k3v60 ?k4v60 ?k5v60 ?kHv60 ?kAv60 ?kFv60 ?kKv60 ?kdv60 ?kuv60 ?_; (case k1v60 => k_asm); (case k2v60 => k_asm); (case k3v60 => k_asm); (case k4v60 => k_asm); (case k5v60 => k_asm); (case kHv60 => exact rfl); (case kAv60 => exact rfl); (case kFv60 => first | assumption | exact rfl); (case kKv60 => first | assumption | exact rfl); (case kdv60 => (walk_at "my room")); (case kuv60 => (walk_at "my room")); (case p1v60 => omega); (case p2v60 => omega); k_whole; (intro h'q tk'q F'q N'q); (try k_sweep); (try k_fold))) | fail)) | fail); (all_goals k_steps)))
  refine Halt.go ?_
  refine for_tuple_keepK (by rfl) (by k_asm) (by k_asm) (by k_asm) hm ?turn ?done
  case turn =>
    intro i v I oI h tk hvi o F1 N1
    obtain ⟨j, t, rfl, f1, f2⟩ := hv v (List.mem_of_getElem? hvi)
    (k_steps; repeat' ((with_reducible refine Halt.go ?_); (first | ((with_reducible show wpAny _ _ (exec _ _) _ _ _); (k_here; (rename Fr _ _ _ _ => lF'q); (with_unfolding_all refine' For_invVF lF'q ?k1v59 ?k2v59 ?_; (case k1v59 => exact rfl); (case k2v59 => exact rfl); k_whole))) | ((with_reducible show wpAny _ _ (call _ _) _ _ _); (first | (k_here; k_dflt (refine' CallsTo.useP (is_size_calls _ _ _ ?p1v60 ?p2v60) ?k1v60 ?k2v60 ?k3v60 ?k4v60 ?k5v60 ?kHv60 ?kAv60 ?kFv60 ?kKv60 ?kdv60 ?kuv60 ?_; (case k1v60 => k_asm); (case k2v60 => k_asm); (case k3v60 => k_asm); (case k4v60 => k_asm); (case k5v60 => k_asm); (case kHv60 => exact rfl); (case kAv60 => exact rfl); (case kFv60 => first | assumption | exact rfl); (case kKv60 => first | assumption | exact rfl); (case kdv60 => (walk_at "my room")); (case kuv60 => (walk_at "my room")); (case p1v60 => omega); (case p2v60 => omega); k_whole; (intro h'q tk'q F'q N'q); (try k_sweep); (try k_fold))) | fail)) | fail); (all_goals k_steps)))
    exact ForPost.keep (by k_asm) (by k_asm) o (fun y hy => if_neg hy)
  case done =>
    intro u h tk F1 N1
    (k_steps; repeat' ((with_reducible refine Halt.go ?_); (first | ((with_reducible show wpAny _ _ (exec _ _) _ _ _); (k_here; (rename Fr _ _ _ _ => lF'q); (with_unfolding_all refine' For_invVF lF'q ?k1v59 ?k2v59 ?_; (case k1v59 => exact rfl); (case k2v59 => exact rfl); k_whole))) | ((with_reducible show wpAny _ _ (call _ _) _ _ _); (first | (k_here; k_dflt (refine' CallsTo.useP (is_size_calls _ _ _ ?p1v60 ?p2v60) ?k1v60 ?k2v60 ?k3v60 ?k4v60 ?k5v60 ?kHv60 ?kAv60 ?kFv60 ?kKv60 ?kdv60 ?kuv60 ?_; (case k1v60 => k_asm); (case k2v60 => k_asm); (case k3v60 => k_asm); (case k4v60 => k_asm); (case k5v60 => k_asm); (case kHv60 => exact rfl); (case kAv60 => exact rfl); (case kFv60 => first | assumption | exact rfl); (case kKv60 => first | assumption | exact rfl); (case kdv60 => (walk_at "my room")); (case kuv60 => (walk_at "my room")); (case p1v60 => omega); (case p2v60 => omega); k_whole; (intro h'q tk'q F'q N'q); (try k_sweep); (try k_fold))) | fail)) | fail); (all_goals k_steps)))
    all_goals (refine' ret _ _ _ [] [] ?e1 ?e2 lt_tl0 ⟨rfl, rfl, rfl⟩; (case e1 => k_asm); (case e2 => k_asm))
end
theorem getK {w : World} {h₀ h : Heap} {L a : Addr} {m : Str → Option Value} {o : Obj} (X : (K w.params).In h₀) (F : Fr h₀ L h m) (e : (K w.params).lookup a = some o) : h.get? a = some o := F.keep _ _ (X _ _ e)
theorem neK {w : World} {h₀ h : Heap} {L a : Addr} {m : Str → Option Value} {o : Obj} (X : (K w.params).In h₀) (F : Fr h₀ L h m) (e : (K w.params).lookup a = some o) : L ≠ a := fun q => by
  have l1 := Heap.lt_size (X _ _ e)
  have l2 := F.above
  rw [← q] at l1
  exact absurd l1 (Nat.not_lt.mpr l2)
section
theorem left_calls (w : World) (fr : Led) : CallsTo w 586 [.ref 688] [] fr 8 120 (fun r mu' tl => mu' = [] ∧ tl = [] ∧ ∃ t, r = .int (-1) t) := by
  intro prog p loose mean mg mb A env outer A₀ base h₀ L m s Q E B F X N T hh hA hf hk hd hu ret; obtain ⟨hd0, dp, frm, gd, un⟩ := A; obtain ⟨hp0, gs0, dr0, tk0, os0⟩ := s; dsimp only at hh hA hd hu F N ret; subst hh hA; have hSt := StK.mk gs0 dr0 os0; (try simp only [List.cons_append, List.nil_append] at N)
  refine wpAny_call ?_; k_dflt (refine' code_def (binds := [(Str.ofString "program", .ref 688)]) ?k1 ?k2 ?k3 ?k4 ?k5 ?kA ?kF ?kK ?k6 ?k7 ?k8 ?k9 ?kB ?_ ?c2 ?c3 ?c4 ?c5; (case kA => exact rfl); (case kF => first | assumption | exact rfl); (case kK => first | assumption | exact rfl); (case k1 => k_asm); (case k2 => k_asm); (case k3 => k_asm); (case k4 => k_asm); (case k5 => k_asm); (case k6 => k_is); (case k7 => k_is); (case k8 => (walk_at "my room")); (case k9 => first | exact BindsTo.of_eq rfl | exact binds_K (by k_in) rfl (by k_is) rfl rfl rfl); (case c5 => decide); (case kB => exact locs rfl); (case c2 => exact rfl); (case c3 => exact rfl); (case c4 => exact rfl); k_whole; intro g' L' h' FG' F' N' B' X' T'; (refine gen_tk fun tk1 => ?_); (try dsimp only at N'); (try dsimp only); (try k_fold))
  k_steps
  all_goals (refine' ret _ _ _ [] [] ?e1 ?e2 lt_tl0 ⟨rfl, rfl, ?e4⟩; (case e1 => k_asm); (case e2 => k_asm); (case e4 => exact ⟨_, rfl⟩))
theorem name_calls (w : World) (t : Tok) (fr : Led) : CallsTo w 687 [.int 1 t] [] fr 8 120 (fun r mu' tl => mu' = [] ∧ tl = [] ∧ ∃ t, r = .str "fa" t) := by
  intro prog p loose mean mg mb A env outer A₀ base h₀ L m s Q E B F X N T hh hA hf hk hd hu ret; obtain ⟨hd0, dp, frm, gd, un⟩ := A; obtain ⟨hp0, gs0, dr0, tk0, os0⟩ := s; dsimp only at hh hA hd hu F N ret; subst hh hA; have hSt := StK.mk gs0 dr0 os0; (try simp only [List.cons_append, List.nil_append] at N)
  refine wpAny_call ?_; k_dflt (refine' code_def (binds := [(Str.ofString "number", .int 1 t)]) ?k1 ?k2 ?k3 ?k4 ?k5 ?kA ?kF ?kK ?k6 ?k7 ?k8 ?k9 ?kB ?_ ?c2 ?c3 ?c4 ?c5; (case kA => exact rfl); (case kF => first | assumption | exact rfl); (case kK => first | assumption | exact rfl); (case k1 => k_asm); (case k2 => k_asm); (case k3 => k_asm); (case k4 => k_asm); (case k5 => k_asm); (case k6 => k_is); (case k7 => k_is); (case k8 => (walk_at "my room")); (case k9 => first | exact BindsTo.of_eq rfl | exact binds_K (by k_in) rfl (by k_is) rfl rfl rfl); (case c5 => decide); (case kB => exact locs rfl); (case c2 => exact rfl); (case c3 => exact rfl); (case c4 => exact rfl); k_whole; intro g' L' h' FG' F' N' B' X' T'; (refine gen_tk fun tk1 => ?_); (try dsimp only at N'); (try dsimp only); (try k_fold))
  k_steps
  all_goals (refine' ret _ _ _ [] [] ?e1 ?e2 lt_tl0 ⟨rfl, rfl, ?e4⟩; (case e1 => k_asm); (case e2 => k_asm); (case e4 => exact ⟨_, congrArg (fun x => Value.str x _) (by decide +kernel)⟩))
theorem program_calls (w : World) (d : Addr) (t : Tok) (fr : Led) : CallsTo w 579 [.ref 688, .ref 689, .ref d, .int 256 t] [] fr 8 120 (fun r mu' tl => mu' = [] ∧ tl = [] ∧ r = .none) := by
  intro prog p loose mean mg mb A env outer A₀ base h₀ L m s Q E B F X N T hh hA hf hk hd hu ret; obtain ⟨hd0, dp, frm, gd, un⟩ := A; obtain ⟨hp0, gs0, dr0, tk0, os0⟩ := s; dsimp only at hh hA hd hu F N ret; subst hh hA; have hSt := StK.mk gs0 dr0 os0; (try simp only [List.cons_append, List.nil_append] at N)
  refine wpAny_call ?_; k_dflt (refine' code_def (binds := [(Str.ofString "program", .ref 688), (Str.ofString "kerns", .ref 689), (Str.ofString "chars", .ref d), (Str.ofString "boundary", .int 256 t)]) ?k1 ?k2 ?k3 ?k4 ?k5 ?kA ?kF ?kK ?k6 ?k7 ?k8 ?k9 ?kB ?_ ?c2 ?c3 ?c4 ?c5; (case kA => exact rfl); (case kF => first | assumption | exact rfl); (case kK => first | assumption | exact rfl); (case k1 => k_asm); (case k2 => k_asm); (case k3 => k_asm); (case k4 => k_asm); (case k5 => k_asm); (case k6 => k_is); (case k7 => k_is); (case k8 => (walk_at "my room")); (case k9 => first | exact BindsTo.of_eq rfl | exact binds_K (by k_in) rfl (by k_is) rfl rfl rfl); (case c5 => decide); (case kB => exact locs rfl); (case c2 => exact rfl); (case c3 => exact rfl); (case c4 => exact rfl); k_whole; intro g' L' h' FG' F' N' B' X' T'; (refine gen_tk fun tk1 => ?_); (try dsimp only at N'); (try dsimp only); (try k_fold))
  (k_steps; repeat' ((fail_if_success (with_reducible refine Halt.go ?_)); (first | ((with_reducible show wpAny _ _ (call _ _) _ _ _); (k_here; k_dflt (refine' enum_none ?hv61 ?Fv61 ?Nv61 ?gv61 ?nv61 ?_; (case hv61 => exact rfl); (case Fv61 => k_asm); (case Nv61 => k_asm); (case gv61 => exact getK (by k_asm) (by k_asm) (by k_is)); (case nv61 => exact neK (by k_asm) (by k_asm) (by k_is)); intro h'q tk'q F'q N'q; (try k_sweep)))) | fail); (all_goals k_steps)))
  all_goals (refine' ret _ _ _ [] [] ?e1 ?e2 lt_tl0 ⟨rfl, rfl, rfl⟩; (case e1 => k_asm); (case e2 => k_asm))
end
end
section
def UPost (h₀ : Heap) (L : Addr) (s₁ : Shared) (I : Addr) (o : Obj) (news : Led) (Inv : (Str → Option Value) → Prop) (Q : Flow → Shared → Prop) (f : Flow) (s₂ : Shared) : Prop := match f with
  | .ret v => Q (.ret v) s₂
  | .brk => Q .next s₂
  | _ => ∃ h' tk m', s₂ = { s₁ with heap := h', toks := tk } ∧ Fr h₀ L h' m' ∧ News h₀ L h' ((I, o) :: news) ∧ Inv m'
theorem UPost.mk {h₀ h' : Heap} {L I : Addr} {s₁ : Shared} {o : Obj} {news : Led} {Inv : (Str → Option Value) → Prop} {Q : Flow → Shared → Prop} {m' : Str → Option Value} {tk : Nat} (F : Fr h₀ L h' m') (N : News h₀ L h' ((I, o) :: news)) (i : Inv m') :
    UPost h₀ L s₁ I o news Inv Q .next { s₁ with heap := h', toks := tk } := ⟨h', tk, m', rfl, F, N, i⟩
theorem items_inv {prog : Program} {w : World} {A : Around} {E : Value → Shared → Prop} {h₀ : Heap} {env : Env} {target : Expr} {body : List Stmt} {Q : Flow → Shared → Prop} {s : Shared} {I : Addr} {c : String} {keep news : Led} (Inv : (Str → Option Value) → Prop) (hk : SubL keep news) (off : ∀ p ∈ news, p.1 < I) (xs : List Itm)
    (turn : ∀ a ∈ xs, ∀ v h tk m o, a.Is v h → Inv m → Fr h₀ env.locals h m → News h₀ env.locals h ((I, o) :: news) →
      wpAny (model prog w) A (assign target env v) (fun _ s₂ => wpAny (model prog w) A (execs body env) (UPost h₀ env.locals { s with heap := h, toks := tk } I o news Inv Q) E s₂) E { s with heap := h, toks := tk })
    (done : ∀ m h tk, Inv m → Fr h₀ env.locals h m → News h₀ env.locals h news → Q .next { s with heap := h, toks := tk }) :
    ∀ m, Inv m → ItemsRest prog w A E h₀ env target body Q s [(I, c)] keep xs m news := by
  induction xs with
  | nil => exact fun m hm h tk F N => done m h tk hm F N
  | cons a r ih =>
    intro m hm v h tk ha F o ho N
    refine wpAny_mono (turn a (.head _) v h tk m o ha hm F N) (fun _ s₂ h₂ => wpAny_mono h₂ (fun f s₃ h₃ => ?_) fun _ _ e => e) fun _ _ e => e
    have ih := ih fun b hb => turn b (.tail _ hb)
    have fin : UPost h₀ env.locals { s with heap := h, toks := tk } I o news Inv Q .next s₃ → UnrEndW h₀ env.locals { s with heap := h, toks := tk } [(I, o)] (fun m' n' => SubL keep n' ∧ ItemsRest prog w A E h₀ env target body Q s [(I, c)] keep r m' n') s₃ := by
      rintro ⟨h', tk', m', e, F', N', i⟩
      exact ⟨h', tk', m', news, e, F', N', fun p hp q hq => by rw [List.mem_singleton.mp hq]; exact Nat.ne_of_lt (off p hp), hk, ih m' i⟩
    cases f with
    | ret v => exact h₃
    | brk => exact h₃
    | next => exact fin h₃
    | cont => exact fin h₃
def RowIn (fr : Led) (v : Value) : Prop := ∃ a i t0 t1 t2 t3 t4 t5 n, v = .ref a ∧ (a, tupO [.int i t0, .int 5 t1, .int 0 t2, .int 0 t3, .int 0 t4, .int 0 t5] n) ∈ fr ∧ fits i
theorem keep4 {m m₀ : Str → Option Value} {x1 x2 x3 x4 : Str} (h : ∀ y, y ≠ x1 → y ≠ x2 → y ≠ x3 → y ≠ x4 → m y = m₀ y) : m = fun y => if y = x4 then m x4 else if y = x3 then m x3 else if y = x2 then m x2 else if y = x1 then m x1 else m₀ y := by
  funext y
  by_cases e4 : y = x4
  · subst e4; simp
  by_cases e3 : y = x3
  · subst e3; simp only [if_neg e4, if_true]
  by_cases e2 : y = x2
  · subst e2; simp only [if_neg e4, if_neg e3, if_true]
  by_cases e1 : y = x1
  · subst e1; simp only [if_neg e4, if_neg e3, if_neg e2, if_true]
  · simp only [if_neg e4, if_neg e3, if_neg e2, if_neg e1, h y e1 e2 e3 e4]
theorem While_once {prog : Program} {w : World} {A : Around} {E : Value → Shared → Prop} {Q : Flow → Shared → Prop} {s : Shared} {env : Env} {h₀ : Heap} {L : Addr} {test : Expr} {body : List Stmt} {pos : Pos} {m : Str → Option Value} {news : Led} (F : Fr h₀ L s.heap m) (N : News h₀ L s.heap news)
    (turn : ∀ h₁ tk₁, Fr h₀ L h₁ m → News h₀ L h₁ news → wpAny (model prog w) A (isTrue test env (eval test env)) (fun b s₂ => b = false ∧ Q .next s₂) E { s with heap := h₁, toks := tk₁ })
    (hE : PassesOwn (model prog w) A env E := by passes_own) : wpAny (model prog w) A (exec (.While test body [] pos) env) Q E s := by
  refine While_inv (fun _ m₁ nw => m₁ = m ∧ nw = news) (n₀ := 0) F N ⟨rfl, rfl⟩ (fun n m₁ nw h₁ tk₁ F₁ N₁ hJ => ?_) hE
  obtain ⟨rfl, rfl⟩ := hJ
  refine wpAny_mono (turn h₁ tk₁ F₁ N₁) (fun b s₂ h => ?_) fun _ _ e => e
  rw [if_neg (by rw [h.1]; exact Bool.false_ne_true)]
  exact h.2
theorem len_six {prog : Program} {w : World} {A : Around} {E : Value → Shared → Prop} {s : Shared} {h₀ : Heap} {L a : Addr} {m : Str → Option Value} {news : Led} {Q : Value → Shared → Prop} {x0 x1 x2 x3 x4 x5 : Value} {vs : List Value} {k : Nat} (N : News h₀ L s.heap news) (hm : (a, tupO vs k) ∈ news) (hv : vs = [x0, x1, x2, x3, x4, x5]) (h : Q (.int 6 (s.toks + 1)) { s with toks := s.toks + 1 + 1 }) :
    wpAny (model prog w) A (call (.builtin "len") [.ref a]) Q E s := by
  subst hv
  exact PyProof.Rows.len_tuple (items := [x0, x1, x2, x3, x4, x5].toArray) ⟨_, N.get hm, rfl, k, rfl⟩ (by simp) h
section
local macro_rules | `(tactic| walk_at "call ref") => `(tactic| refine halt_of ?_)
local macro_rules | `(tactic| walk_at "subscriptTail Name Slice ref ref") => `(tactic| refine halt_of ?_)
local macro_rules | `(tactic| walk_at "exec For Tuple Call cons nil") => `(tactic| refine halt_of ?_)
set_option maxHeartbeats 4000000 in
theorem chars_calls (w : World) (d : Addr) (od : Obj) (kvs : List (Int × Value)) (t : Tok) (fr : Led) (hm : (d, od) ∈ fr) (hD : ∀ prog, od.IsDictOf (PySem.intKind prog w) kvs) (lo : (d == sysModules) = false) (hr : ∀ p ∈ kvs, (0 ≤ p.1 ∧ p.1 ≤ 255) ∧ RowIn fr p.2) :
    CallsTo w 565 [.ref d, .int 0 t] [] fr 12 160 (fun r mu' tl => mu' = [] ∧ tl = [] ∧ r = .none) := by
  intro prog p loose mean mg mb A env outer A₀ base h₀ L m s Q E B F X N T hh hA hf hk hd hu ret; obtain ⟨hd0, dp, frm, gd, un⟩ := A; obtain ⟨hp0, gs0, dr0, tk0, os0⟩ := s; dsimp only at hh hA hd hu F N ret; subst hh hA; have hSt := StK.mk gs0 dr0 os0; (try simp only [List.cons_append, List.nil_append] at N)
  have hD := hD prog
  refine wpAny_call ?_; k_dflt (refine' code_def (binds := [(Str.ofString "chars", .ref d), (Str.ofString "many", .int 0 t)]) ?k1 ?k2 ?k3 ?k4 ?k5 ?kA ?kF ?kK ?k6 ?k7 ?k8 ?k9 ?kB ?_ ?c2 ?c3 ?c4 ?c5; (case kA => exact rfl); (case kF => first | assumption | exact rfl); (case kK => first | assumption | exact rfl); (case k1 => k_asm); (case k2 => k_asm); (case k3 => k_asm); (case k4 => k_asm); (case k5 => k_asm); (case k6 => k_is); (case k7 => k_is); (case k8 => (walk_at "my room")); (case k9 => first | exact BindsTo.of_eq rfl | exact binds_K (by k_in) rfl (by k_is) rfl rfl rfl); (case c5 => decide); (case kB => exact locs rfl); (case c2 => exact rfl); (case c3 => exact rfl); (case c4 => exact rfl); k_whole; intro g' L' h' FG' F' N' B' X' T'; (refine gen_tk fun tk1 => ?_); (try dsimp only at N'); (try dsimp only); (try k_fold))
  (k_steps; repeat' (first | ((with_reducible refine Halt.go ?_); (first | ((with_reducible show wpAny _ _ (exec _ _) _ _ _); (k_here; (rename Fr _ _ _ _ => lF'q); (rename News _ _ _ _ => lN'q); with_unfolding_all ((refine' For_turns lF'q ?_); k_whole; (refine MethodCall_ ?_); (refine ld lF'q (by rfl) ?_); (refine kdl_method (knd := PySem.intKind _ _) PySem.F.slot_dict_items PySem.F.type_dict_items lN'q (by assumption) (by assumption) ?_); (refine callWith_method0 ?_); (refine kta_callItems (knd := PySem.intKind _ _) lF'q lN'q (by assumption) (by assumption) (by assumption) ?_); intro h'q hv'q F'q N'q; (refine kta_items (knd := PySem.intKind _ _) (enc := PyData.int) (by rfl) F'q N'q hv'q (by assumption) (by assumption) (fun _ _ h => Value.isInt_shape h) rfl ?_)); clear lF'q lN'q; (refine halt_of ?_))) | (k_here; (with_reducible show wpAny _ _ (subscriptTail _ (PySem.Expr.Slice _ _ none _) (Value.ref _) (Value.ref _)) _ _ _); k_dflt ((first | refine' slice17 ?Fv66 ?Nv66 ?tv66 ?_ ?sv66 ?gv66 | refine' slice4 ?Fv66 ?Nv66 ?tv66 ?_ ?sv66 ?gv66); (case Fv66 => k_asm); (case Nv66 => k_asm); (case tv66 => first | k_mem | repeat (first | assumption | apply List.Mem.tail)); (case sv66 => with_unfolding_all rfl); (case gv66 => kmk_pure)); intro D'q h'q F'q N'q l1; (try k_lt l1); (try k_sweep)) | ((with_reducible show wpAny _ _ (call _ _) _ _ _); (first | (k_here; k_dflt (refine' CallsTo.useP1 (sizes_calls _ _ _ _ _ (Or.inl ?pmv65) ?pvv65) ?k1v65 ?k2v65 ?k3v65 ?k4v65 ?k5v65 ?kHv65 ?kAv65 ?kFv65 ?kKv65 ?kdv65 ?kuv65 ?_; (case k1v65 => k_asm); (case k2v65 => k_asm); (case k3v65 => k_asm); (case k4v65 => k_asm); (case pmv65 => k_mem); (case k5v65 => k_asm); (case kHv65 => exact rfl); (case kAv65 => exact rfl); (case kFv65 => first | assumption | exact rfl); (case kKv65 => first | assumption | exact rfl); (case kdv65 => (walk_at "my room")); (case kuv65 => (walk_at "my room")); (case pvv65 => (intro v hv; simp only [List.mem_cons, List.not_mem_nil, or_false] at hv; rcases hv with rfl | rfl | rfl | rfl <;> exact ⟨_, _, rfl, by unfold fits; omega⟩)); k_whole; (intro h'q tk'q F'q N'q); (try k_sweep); (try k_fold))) | (k_here; k_dflt (refine' CallsTo.useP (is_whole_calls _ _ _ _ _ _ _ ?p1v62 ?p2v62) ?k1v62 ?k2v62 ?k3v62 ?k4v62 ?k5v62 ?kHv62 ?kAv62 ?kFv62 ?kKv62 ?kdv62 ?kuv62 ?_; (case k1v62 => k_asm); (case k2v62 => k_asm); (case k3v62 => k_asm); (case k4v62 => k_asm); (case k5v62 => k_asm); (case kHv62 => exact rfl); (case kAv62 => exact rfl); (case kFv62 => first | assumption | exact rfl); (case kKv62 => first | assumption | exact rfl); (case kdv62 => (walk_at "my room")); (case kuv62 => (walk_at "my room")); (case p1v62 => omega); (case p2v62 => omega); k_whole; (intro h'q tk'q F'q N'q); (try k_sweep); (try k_fold))) | fail)) | fail); (all_goals k_steps)) | ((fail_if_success (with_reducible refine Halt.go ?_)); (first | (k_here; (with_reducible show wpAny _ _ (call (Value.builtin "len") [Value.ref _]) _ _ _); k_dflt (refine' len_six ?Nv64 ?mv64 rfl ?_; (case Nv64 => k_asm); (case mv64 => first | k_mem | repeat (first | assumption | apply List.Mem.tail)))) | (k_here; (with_reducible show wpAny _ _ (call (Value.builtin "isinstance") [Value.ref _, Value.type "tuple"]) _ _ _); k_dflt (refine' IsiPair.tuple_tuple ?gv63 ?cv63 ?_; (case gv63 => exact News.get (by k_asm) (by first | k_mem | repeat (first | assumption | apply List.Mem.tail))); (case cv63 => exact rfl))) | fail); (all_goals k_steps))))
  refine Halt.go (fun I l1 => ?_)
  refine items_inv (fun m => ∀ y, y ≠ Str.ofString "code" → y ≠ Str.ofString "row" → y ≠ Str.ofString "sort" → y ≠ Str.ofString "rest" → m y = List.lookup y _) (show SubL [(d, od)] fr from ⟨hm, trivial⟩) l1 _ ?turn ?done _ (fun _ _ _ _ _ => rfl)
  case turn =>
    intro a ha v h tk m o hv hi F1 N1
    obtain ⟨p, hp, rfl⟩ := List.mem_map.mp ha
    obtain ⟨⟨b1, b2⟩, ra, i, t0, t1, t2, t3, t4, t5, n, e, hrow, f1, f2⟩ := hr p hp
    obtain ⟨T, tt, rfl, hT⟩ := hv
    rw [e] at hT
    rw [keep4 hi] at F1
    have hT : IsTup h T #[.int p.1 tt, .ref ra] := hT
    (k_steps; repeat' (first | ((with_reducible refine Halt.go ?_); (first | ((with_reducible show wpAny _ _ (exec _ _) _ _ _); (k_here; (rename Fr _ _ _ _ => lF'q); (rename News _ _ _ _ => lN'q); with_unfolding_all ((refine' For_turns lF'q ?_); k_whole; (refine MethodCall_ ?_); (refine ld lF'q (by rfl) ?_); (refine kdl_method (knd := PySem.intKind _ _) PySem.F.slot_dict_items PySem.F.type_dict_items lN'q (by assumption) (by assumption) ?_); (refine callWith_method0 ?_); (refine kta_callItems (knd := PySem.intKind _ _) lF'q lN'q (by assumption) (by assumption) (by assumption) ?_); intro h'q hv'q F'q N'q; (refine kta_items (knd := PySem.intKind _ _) (enc := PyData.int) (by rfl) F'q N'q hv'q (by assumption) (by assumption) (fun _ _ h => Value.isInt_shape h) rfl ?_)); clear lF'q lN'q; (refine halt_of ?_))) | (k_here; (with_reducible show wpAny _ _ (subscriptTail _ (PySem.Expr.Slice _ _ none _) (Value.ref _) (Value.ref _)) _ _ _); k_dflt ((first | refine' slice17 ?Fv66 ?Nv66 ?tv66 ?_ ?sv66 ?gv66 | refine' slice4 ?Fv66 ?Nv66 ?tv66 ?_ ?sv66 ?gv66); (case Fv66 => k_asm); (case Nv66 => k_asm); (case tv66 => first | k_mem | repeat (first | assumption | apply List.Mem.tail)); (case sv66 => with_unfolding_all rfl); (case gv66 => kmk_pure)); intro D'q h'q F'q N'q l1; (try k_lt l1); (try k_sweep)) | ((with_reducible show wpAny _ _ (call _ _) _ _ _); (first | (k_here; k_dflt (refine' CallsTo.useP1 (sizes_calls _ _ _ _ _ (Or.inl ?pmv65) ?pvv65) ?k1v65 ?k2v65 ?k3v65 ?k4v65 ?k5v65 ?kHv65 ?kAv65 ?kFv65 ?kKv65 ?kdv65 ?kuv65 ?_; (case k1v65 => k_asm); (case k2v65 => k_asm); (case k3v65 => k_asm); (case k4v65 => k_asm); (case pmv65 => k_mem); (case k5v65 => k_asm); (case kHv65 => exact rfl); (case kAv65 => exact rfl); (case kFv65 => first | assumption | exact rfl); (case kKv65 => first | assumption | exact rfl); (case kdv65 => (walk_at "my room")); (case kuv65 => (walk_at "my room")); (case pvv65 => (intro v hv; simp only [List.mem_cons, List.not_mem_nil, or_false] at hv; rcases hv with rfl | rfl | rfl | rfl <;> exact ⟨_, _, rfl, by unfold fits; omega⟩)); k_whole; (intro h'q tk'q F'q N'q); (try k_sweep); (try k_fold))) | (k_here; k_dflt (refine' CallsTo.useP (is_whole_calls _ _ _ _ _ _ _ ?p1v62 ?p2v62) ?k1v62 ?k2v62 ?k3v62 ?k4v62 ?k5v62 ?kHv62 ?kAv62 ?kFv62 ?kKv62 ?kdv62 ?kuv62 ?_; (case k1v62 => k_asm); (case k2v62 => k_asm); (case k3v62 => k_asm); (case k4v62 => k_asm); (case k5v62 => k_asm); (case kHv62 => exact rfl); (case kAv62 => exact rfl); (case kFv62 => first | assumption | exact rfl); (case kKv62 => first | assumption | exact rfl); (case kdv62 => (walk_at "my room")); (case kuv62 => (walk_at "my room")); (case p1v62 => omega); (case p2v62 => omega); k_whole; (intro h'q tk'q F'q N'q); (try k_sweep); (try k_fold))) | fail)) | fail); (all_goals k_steps)) | ((fail_if_success (with_reducible refine Halt.go ?_)); (first | (k_here; (with_reducible show wpAny _ _ (call (Value.builtin "len") [Value.ref _]) _ _ _); k_dflt (refine' len_six ?Nv64 ?mv64 rfl ?_; (case Nv64 => k_asm); (case mv64 => first | k_mem | repeat (first | assumption | apply List.Mem.tail)))) | (k_here; (with_reducible show wpAny _ _ (call (Value.builtin "isinstance") [Value.ref _, Value.type "tuple"]) _ _ _); k_dflt (refine' IsiPair.tuple_tuple ?gv63 ?cv63 ?_; (case gv63 => exact News.get (by k_asm) (by first | k_mem | repeat (first | assumption | apply List.Mem.tail))); (case cv63 => exact rfl))) | fail); (all_goals k_steps))))
    all_goals first | exact none | exact UPost.mk (by k_asm) (news_sub (by k_asm) (fun p hp => by repeat (first | exact hp | refine List.Mem.tail _ ?_))) (fun y h1 h2 h3 h4 => by simp only [if_neg h1, if_neg h2, if_neg h3, if_neg h4])
  case done =>
    intro m h tk hi F1 N1
    (k_steps; repeat' (first | ((with_reducible refine Halt.go ?_); (first | ((with_reducible show wpAny _ _ (exec _ _) _ _ _); (k_here; (rename Fr _ _ _ _ => lF'q); (rename News _ _ _ _ => lN'q); with_unfolding_all ((refine' For_turns lF'q ?_); k_whole; (refine MethodCall_ ?_); (refine ld lF'q (by rfl) ?_); (refine kdl_method (knd := PySem.intKind _ _) PySem.F.slot_dict_items PySem.F.type_dict_items lN'q (by assumption) (by assumption) ?_); (refine callWith_method0 ?_); (refine kta_callItems (knd := PySem.intKind _ _) lF'q lN'q (by assumption) (by assumption) (by assumption) ?_); intro h'q hv'q F'q N'q; (refine kta_items (knd := PySem.intKind _ _) (enc := PyData.int) (by rfl) F'q N'q hv'q (by assumption) (by assumption) (fun _ _ h => Value.isInt_shape h) rfl ?_)); clear lF'q lN'q; (refine halt_of ?_))) | (k_here; (with_reducible show wpAny _ _ (subscriptTail _ (PySem.Expr.Slice _ _ none _) (Value.ref _) (Value.ref _)) _ _ _); k_dflt ((first | refine' slice17 ?Fv66 ?Nv66 ?tv66 ?_ ?sv66 ?gv66 | refine' slice4 ?Fv66 ?Nv66 ?tv66 ?_ ?sv66 ?gv66); (case Fv66 => k_asm); (case Nv66 => k_asm); (case tv66 => first | k_mem | repeat (first | assumption | apply List.Mem.tail)); (case sv66 => with_unfolding_all rfl); (case gv66 => kmk_pure)); intro D'q h'q F'q N'q l1; (try k_lt l1); (try k_sweep)) | ((with_reducible show wpAny _ _ (call _ _) _ _ _); (first | (k_here; k_dflt (refine' CallsTo.useP1 (sizes_calls _ _ _ _ _ (Or.inl ?pmv65) ?pvv65) ?k1v65 ?k2v65 ?k3v65 ?k4v65 ?k5v65 ?kHv65 ?kAv65 ?kFv65 ?kKv65 ?kdv65 ?kuv65 ?_; (case k1v65 => k_asm); (case k2v65 => k_asm); (case k3v65 => k_asm); (case k4v65 => k_asm); (case pmv65 => k_mem); (case k5v65 => k_asm); (case kHv65 => exact rfl); (case kAv65 => exact rfl); (case kFv65 => first | assumption | exact rfl); (case kKv65 => first | assumption | exact rfl); (case kdv65 => (walk_at "my room")); (case kuv65 => (walk_at "my room")); (case pvv65 => (intro v hv; simp only [List.mem_cons, List.not_mem_nil, or_false] at hv; rcases hv with rfl | rfl | rfl | rfl <;> exact ⟨_, _, rfl, by unfold fits; omega⟩)); k_whole; (intro h'q tk'q F'q N'q); (try k_sweep); (try k_fold))) | (k_here; k_dflt (refine' CallsTo.useP (is_whole_calls _ _ _ _ _ _ _ ?p1v62 ?p2v62) ?k1v62 ?k2v62 ?k3v62 ?k4v62 ?k5v62 ?kHv62 ?kAv62 ?kFv62 ?kKv62 ?kdv62 ?kuv62 ?_; (case k1v62 => k_asm); (case k2v62 => k_asm); (case k3v62 => k_asm); (case k4v62 => k_asm); (case k5v62 => k_asm); (case kHv62 => exact rfl); (case kAv62 => exact rfl); (case kFv62 => first | assumption | exact rfl); (case kKv62 => first | assumption | exact rfl); (case kdv62 => (walk_at "my room")); (case kuv62 => (walk_at "my room")); (case p1v62 => omega); (case p2v62 => omega); k_whole; (intro h'q tk'q F'q N'q); (try k_sweep); (try k_fold))) | fail)) | fail); (all_goals k_steps)) | ((fail_if_success (with_reducible refine Halt.go ?_)); (first | (k_here; (with_reducible show wpAny _ _ (call (Value.builtin "len") [Value.ref _]) _ _ _); k_dflt (refine' len_six ?Nv64 ?mv64 rfl ?_; (case Nv64 => k_asm); (case mv64 => first | k_mem | repeat (first | assumption | apply List.Mem.tail)))) | (k_here; (with_reducible show wpAny _ _ (call (Value.builtin "isinstance") [Value.ref _, Value.type "tuple"]) _ _ _); k_dflt (refine' IsiPair.tuple_tuple ?gv63 ?cv63 ?_; (case gv63 => exact News.get (by k_asm) (by first | k_mem | repeat (first | assumption | apply List.Mem.tail))); (case cv63 => exact rfl))) | fail); (all_goals k_steps))))
    all_goals (refine' ret _ _ _ [] [] ?e1 ?e2 lt_tl0 ⟨rfl, rfl, rfl⟩; (case e1 => k_asm); (case e2 => k_asm))
local macro_rules | `(tactic| walk_at "exec For Name Name cons nil") => `(tactic| refine halt_of ?_)
local macro_rules | `(tactic| walk_at "compareOp In int ref") => `(tactic| refine halt_of ?_)
local macro_rules | `(tactic| walk_at "subscriptTail Name Name ref int") => `(tactic| refine halt_of ?_)
local macro_rules | `(tactic| walk_at "subscriptTail Subscript Constant ref int") => `(tactic| refine halt_of ?_)
local macro_rules | `(tactic| walk_at "exec While BoolOp") => `(tactic| refine halt_of ?_)
set_option maxHeartbeats 4000000 in
theorem larger_calls (w : World) (d : Addr) (od : Obj) (kvs : List (Int × Value)) (fr : Led) (hm : (d, od) ∈ fr) (hD : ∀ prog, od.IsDictOf (PySem.intKind prog w) kvs) (lo : (d == sysModules) = false) (hr : ∀ p ∈ kvs, (0 ≤ p.1 ∧ p.1 ≤ 255) ∧ RowIn fr p.2) (hV : ∀ p ∈ kvs, valueAt kvs p.1 = some p.2) :
    CallsTo w 572 [.ref d] [] fr 12 160 (fun r mu' tl => mu' = [] ∧ tl = [] ∧ r = .none) := by
  intro prog p loose mean mg mb A env outer A₀ base h₀ L m s Q E B F X N T hh hA hf hk hd hu ret; obtain ⟨hd0, dp, frm, gd, un⟩ := A; obtain ⟨hp0, gs0, dr0, tk0, os0⟩ := s; dsimp only at hh hA hd hu F N ret; subst hh hA; have hSt := StK.mk gs0 dr0 os0; (try simp only [List.cons_append, List.nil_append] at N)
  have hD := hD prog
  refine wpAny_call ?_; k_dflt (refine' code_def (binds := [(Str.ofString "chars", .ref d)]) ?k1 ?k2 ?k3 ?k4 ?k5 ?kA ?kF ?kK ?k6 ?k7 ?k8 ?k9 ?kB ?_ ?c2 ?c3 ?c4 ?c5; (case kA => exact rfl); (case kF => first | assumption | exact rfl); (case kK => first | assumption | exact rfl); (case k1 => k_asm); (case k2 => k_asm); (case k3 => k_asm); (case k4 => k_asm); (case k5 => k_asm); (case k6 => k_is); (case k7 => k_is); (case k8 => (walk_at "my room")); (case k9 => first | exact BindsTo.of_eq rfl | exact binds_K (by k_in) rfl (by k_is) rfl rfl rfl); (case c5 => decide); (case kB => exact locs rfl); (case c2 => exact rfl); (case c3 => exact rfl); (case c4 => exact rfl); k_whole; intro g' L' h' FG' F' N' B' X' T'; (refine gen_tk fun tk1 => ?_); (try dsimp only at N'); (try dsimp only); (try k_fold))
  (k_steps; repeat' (first | ((with_reducible refine Halt.go ?_); (first | (k_here; k_dflt (refine' While_once ?Fv72 ?Nv72 ?_; (case Fv72 => k_asm); (case Nv72 => k_asm); intro h'q tk'q F'q N'q)) | (k_here; k_dflt (refine' sub_tupc ?Nv71 ?mv71 ?av71 ?bv71 ?cv71 ?xv71 ?_; (case Nv71 => k_asm); (case mv71 => repeat (first | assumption | apply List.Mem.tail)); (case av71 => decide); (case bv71 => (simp only [List.length_cons, List.length_nil]; omega)); (case cv71 => (simp only [List.length_cons, List.length_nil]; omega)); (case xv71 => rfl); k_whole)) | (k_here; k_dflt (refine' kda_item (knd := PySem.intKind _ _) ?Nv70 ?mv70 ?dv70 (intKind_is _ _ _ _) ?bv70 ?_; (case Nv70 => k_asm); (case mv70 => repeat (first | assumption | apply List.Mem.tail)); (case dv70 => assumption); (case bv70 => assumption))) | (k_here; k_dflt (refine' kda_in (knd := PySem.intKind _ _) ?Nv69 ?mv69 ?dv69 ?lv69 (intKind_is _ _ _ _) true ?bv69 ?_; (case Nv69 => k_asm); (case mv69 => repeat (first | assumption | apply List.Mem.tail)); (case dv69 => assumption); (case lv69 => assumption); (case bv69 => rw [(by assumption : valueAt _ _ = some _)]; exact rfl))) | ((with_reducible show wpAny _ _ (exec _ _) _ _ _); (k_here; (rename Fr _ _ _ _ => lF'q); (rename News _ _ _ _ => lN'q); (with_unfolding_all refine' For_turns lF'q ?_); k_whole; k_dflt (refine ld lF'q (by rfl) ?_); (with_unfolding_all refine kta_keys (knd := PySem.intKind _ _) (enc := PyData.int) (by rfl) lF'q lN'q (by assumption) (by assumption) (by assumption) (fun _ _ h => Value.isInt_shape h) rfl ?_); clear lF'q lN'q; (refine halt_of ?_))) | ((with_reducible show wpAny _ _ (exec _ _) _ _ _); (k_here; (rename Fr _ _ _ _ => lF'q); (rename News _ _ _ _ => lN'q); with_unfolding_all ((refine' For_turns lF'q ?_); k_whole; (refine MethodCall_ ?_); (refine ld lF'q (by rfl) ?_); (refine kdl_method (knd := PySem.intKind _ _) PySem.F.slot_dict_items PySem.F.type_dict_items lN'q (by assumption) (by assumption) ?_); (refine callWith_method0 ?_); (refine kta_callItems (knd := PySem.intKind _ _) lF'q lN'q (by assumption) (by assumption) (by assumption) ?_); intro h'q hv'q F'q N'q; (refine kta_items (knd := PySem.intKind _ _) (enc := PyData.int) (by rfl) F'q N'q hv'q (by assumption) (by assumption) (fun _ _ h => Value.isInt_shape h) rfl ?_)); clear lF'q lN'q; (refine halt_of ?_))) | (k_here; (with_reducible show wpAny _ _ (subscriptTail _ (PySem.Expr.Slice _ _ none _) (Value.ref _) (Value.ref _)) _ _ _); k_dflt ((first | refine' slice17 ?Fv66 ?Nv66 ?tv66 ?_ ?sv66 ?gv66 | refine' slice4 ?Fv66 ?Nv66 ?tv66 ?_ ?sv66 ?gv66); (case Fv66 => k_asm); (case Nv66 => k_asm); (case tv66 => first | k_mem | repeat (first | assumption | apply List.Mem.tail)); (case sv66 => with_unfolding_all rfl); (case gv66 => kmk_pure)); intro D'q h'q F'q N'q l1; (try k_lt l1); (try k_sweep)) | ((with_reducible show wpAny _ _ (call _ _) _ _ _); (first | (k_here; k_dflt (refine' CallsTo.useP1 (sizes_calls _ _ _ _ _ (Or.inl ?pmv65) ?pvv65) ?k1v65 ?k2v65 ?k3v65 ?k4v65 ?k5v65 ?kHv65 ?kAv65 ?kFv65 ?kKv65 ?kdv65 ?kuv65 ?_; (case k1v65 => k_asm); (case k2v65 => k_asm); (case k3v65 => k_asm); (case k4v65 => k_asm); (case pmv65 => k_mem); (case k5v65 => k_asm); (case kHv65 => exact rfl); (case kAv65 => exact rfl); (case kFv65 => first | assumption | exact rfl); (case kKv65 => first | assumption | exact rfl); (case kdv65 => (walk_at "my room")); (case kuv65 => (walk_at "my room")); (case pvv65 => (intro v hv; simp only [List.mem_cons, List.not_mem_nil, or_false] at hv; rcases hv with rfl | rfl | rfl | rfl <;> exact ⟨_, _, rfl, by unfold fits; omega⟩)); k_whole; (intro h'q tk'q F'q N'q); (try k_sweep); (try k_fold))) | (k_here; k_dflt (refine' CallsTo.useP (is_whole_calls _ _ _ _ _ _ _ ?p1v62 ?p2v62) ?k1v62 ?k2v62 ?k3v62 ?k4v62 ?k5v62 ?kHv62 ?kAv62 ?kFv62 ?kKv62 ?kdv62 ?kuv62 ?_; (case k1v62 => k_asm); (case k2v62 => k_asm); (case k3v62 => k_asm); (case k4v62 => k_asm); (case k5v62 => k_asm); (case kHv62 => exact rfl); (case kAv62 => exact rfl); (case kFv62 => first | assumption | exact rfl); (case kKv62 => first | assumption | exact rfl); (case kdv62 => (walk_at "my room")); (case kuv62 => (walk_at "my room")); (case p1v62 => omega); (case p2v62 => omega); k_whole; (intro h'q tk'q F'q N'q); (try k_sweep); (try k_fold))) | fail)) | fail); (all_goals k_steps)) | ((fail_if_success (with_reducible refine Halt.go ?_)); (first | (k_here; (with_reducible show wpAny _ _ (call (Value.builtin "len") [Value.ref _]) _ _ _); k_dflt (refine' len_six ?Nv64 ?mv64 rfl ?_; (case Nv64 => k_asm); (case mv64 => first | k_mem | repeat (first | assumption | apply List.Mem.tail)))) | (k_here; (with_reducible show wpAny _ _ (call (Value.builtin "isinstance") [Value.ref _, Value.type "tuple"]) _ _ _); k_dflt (refine' IsiPair.tuple_tuple ?gv63 ?cv63 ?_; (case gv63 => exact News.get (by k_asm) (by first | k_mem | repeat (first | assumption | apply List.Mem.tail))); (case cv63 => exact rfl))) | fail); (all_goals k_steps))))
  refine Halt.go (fun I l1 => ?_)
  refine items_inv (fun m => ∀ y, y ≠ Str.ofString "code" → y ≠ Str.ofString "far" → y ≠ Str.ofString "turns" → y ≠ Str.ofString "turns" → m y = List.lookup y _) (show SubL [(d, od)] fr from ⟨hm, trivial⟩) l1 _ ?turn ?done _ (fun _ _ _ _ _ => rfl)
  case turn =>
    intro a ha v h tk m o hv hi F1 N1
    obtain ⟨p, hp, rfl⟩ := List.mem_map.mp ha
    obtain ⟨⟨b1, b2⟩, ra, i, t0, t1, t2, t3, t4, t5, n, e, hrow, f1, f2⟩ := hr p hp
    obtain ⟨tt, rfl⟩ := hv
    have hva := hV p hp
    rw [e] at hva
    rw [keep4 hi] at F1
    have e9 : kyVal (PyData.int p.1) tt = .int p.1 tt := rfl
    rw [e9]
    (k_steps; repeat' (first | ((with_reducible refine Halt.go ?_); (first | (k_here; k_dflt (refine' While_once ?Fv72 ?Nv72 ?_; (case Fv72 => k_asm); (case Nv72 => k_asm); intro h'q tk'q F'q N'q)) | (k_here; k_dflt (refine' sub_tupc ?Nv71 ?mv71 ?av71 ?bv71 ?cv71 ?xv71 ?_; (case Nv71 => k_asm); (case mv71 => repeat (first | assumption | apply List.Mem.tail)); (case av71 => decide); (case bv71 => (simp only [List.length_cons, List.length_nil]; omega)); (case cv71 => (simp only [List.length_cons, List.length_nil]; omega)); (case xv71 => rfl); k_whole)) | (k_here; k_dflt (refine' kda_item (knd := PySem.intKind _ _) ?Nv70 ?mv70 ?dv70 (intKind_is _ _ _ _) ?bv70 ?_; (case Nv70 => k_asm); (case mv70 => repeat (first | assumption | apply List.Mem.tail)); (case dv70 => assumption); (case bv70 => assumption))) | (k_here; k_dflt (refine' kda_in (knd := PySem.intKind _ _) ?Nv69 ?mv69 ?dv69 ?lv69 (intKind_is _ _ _ _) true ?bv69 ?_; (case Nv69 => k_asm); (case mv69 => repeat (first | assumption | apply List.Mem.tail)); (case dv69 => assumption); (case lv69 => assumption); (case bv69 => rw [(by assumption : valueAt _ _ = some _)]; exact rfl))) | ((with_reducible show wpAny _ _ (exec _ _) _ _ _); (k_here; (rename Fr _ _ _ _ => lF'q); (rename News _ _ _ _ => lN'q); (with_unfolding_all refine' For_turns lF'q ?_); k_whole; k_dflt (refine ld lF'q (by rfl) ?_); (with_unfolding_all refine kta_keys (knd := PySem.intKind _ _) (enc := PyData.int) (by rfl) lF'q lN'q (by assumption) (by assumption) (by assumption) (fun _ _ h => Value.isInt_shape h) rfl ?_); clear lF'q lN'q; (refine halt_of ?_))) | ((with_reducible show wpAny _ _ (exec _ _) _ _ _); (k_here; (rename Fr _ _ _ _ => lF'q); (rename News _ _ _ _ => lN'q); with_unfolding_all ((refine' For_turns lF'q ?_); k_whole; (refine MethodCall_ ?_); (refine ld lF'q (by rfl) ?_); (refine kdl_method (knd := PySem.intKind _ _) PySem.F.slot_dict_items PySem.F.type_dict_items lN'q (by assumption) (by assumption) ?_); (refine callWith_method0 ?_); (refine kta_callItems (knd := PySem.intKind _ _) lF'q lN'q (by assumption) (by assumption) (by assumption) ?_); intro h'q hv'q F'q N'q; (refine kta_items (knd := PySem.intKind _ _) (enc := PyData.int) (by rfl) F'q N'q hv'q (by assumption) (by assumption) (fun _ _ h => Value.isInt_shape h) rfl ?_)); clear lF'q lN'q; (refine halt_of ?_))) | (k_here; (with_reducible show wpAny _ _ (subscriptTail _ (PySem.Expr.Slice _ _ none _) (Value.ref _) (Value.ref _)) _ _ _); k_dflt ((first | refine' slice17 ?Fv66 ?Nv66 ?tv66 ?_ ?sv66 ?gv66 | refine' slice4 ?Fv66 ?Nv66 ?tv66 ?_ ?sv66 ?gv66); (case Fv66 => k_asm); (case Nv66 => k_asm); (case tv66 => first | k_mem | repeat (first | assumption | apply List.Mem.tail)); (case sv66 => with_unfolding_all rfl); (case gv66 => kmk_pure)); intro D'q h'q F'q N'q l1; (try k_lt l1); (try k_sweep)) | ((with_reducible show wpAny _ _ (call _ _) _ _ _); (first | (k_here; k_dflt (refine' CallsTo.useP1 (sizes_calls _ _ _ _ _ (Or.inl ?pmv65) ?pvv65) ?k1v65 ?k2v65 ?k3v65 ?k4v65 ?k5v65 ?kHv65 ?kAv65 ?kFv65 ?kKv65 ?kdv65 ?kuv65 ?_; (case k1v65 => k_asm); (case k2v65 => k_asm); (case k3v65 => k_asm); (case k4v65 => k_asm); (case pmv65 => k_mem); (case k5v65 => k_asm); (case kHv65 => exact rfl); (case kAv65 => exact rfl); (case kFv65 => first | assumption | exact rfl); (case kKv65 => first | assumption | exact rfl); (case kdv65 => (walk_at "my room")); (case kuv65 => (walk_at "my room")); (case pvv65 => (intro v hv; simp only [List.mem_cons, List.not_mem_nil, or_false] at hv; rcases hv with rfl | rfl | rfl | rfl <;> exact ⟨_, _, rfl, by unfold fits; omega⟩)); k_whole; (intro h'q tk'q F'q N'q); (try k_sweep); (try k_fold))) | (k_here; k_dflt (refine' CallsTo.useP (is_whole_calls _ _ _ _ _ _ _ ?p1v62 ?p2v62) ?k1v62 ?k2v62 ?k3v62 ?k4v62 ?k5v62 ?kHv62 ?kAv62 ?kFv62 ?kKv62 ?kdv62 ?kuv62 ?_; (case k1v62 => k_asm); (case k2v62 => k_asm); (case k3v62 => k_asm); (case k4v62 => k_asm); (case k5v62 => k_asm); (case kHv62 => exact rfl); (case kAv62 => exact rfl); (case kFv62 => first | assumption | exact rfl); (case kKv62 => first | assumption | exact rfl); (case kdv62 => (walk_at "my room")); (case kuv62 => (walk_at "my room")); (case p1v62 => omega); (case p2v62 => omega); k_whole; (intro h'q tk'q F'q N'q); (try k_sweep); (try k_fold))) | fail)) | fail); (all_goals k_steps)) | ((fail_if_success (with_reducible refine Halt.go ?_)); (first | (k_here; (with_reducible show wpAny _ _ (call (Value.builtin "len") [Value.ref _]) _ _ _); k_dflt (refine' len_six ?Nv64 ?mv64 rfl ?_; (case Nv64 => k_asm); (case mv64 => first | k_mem | repeat (first | assumption | apply List.Mem.tail)))) | (k_here; (with_reducible show wpAny _ _ (call (Value.builtin "isinstance") [Value.ref _, Value.type "tuple"]) _ _ _); k_dflt (refine' IsiPair.tuple_tuple ?gv63 ?cv63 ?_; (case gv63 => exact News.get (by k_asm) (by first | k_mem | repeat (first | assumption | apply List.Mem.tail))); (case cv63 => exact rfl))) | fail); (all_goals k_steps))))
    all_goals first | exact none | exact UPost.mk (by k_asm) (news_sub (by k_asm) (fun p hp => by repeat (first | exact hp | refine List.Mem.tail _ ?_))) (fun y h1 h2 h3 h4 => by simp only [if_neg h1, if_neg h2, if_neg h3, if_neg h4])
  case done =>
    intro m h tk hi F1 N1
    (k_steps; repeat' (first | ((with_reducible refine Halt.go ?_); (first | (k_here; k_dflt (refine' While_once ?Fv72 ?Nv72 ?_; (case Fv72 => k_asm); (case Nv72 => k_asm); intro h'q tk'q F'q N'q)) | (k_here; k_dflt (refine' sub_tupc ?Nv71 ?mv71 ?av71 ?bv71 ?cv71 ?xv71 ?_; (case Nv71 => k_asm); (case mv71 => repeat (first | assumption | apply List.Mem.tail)); (case av71 => decide); (case bv71 => (simp only [List.length_cons, List.length_nil]; omega)); (case cv71 => (simp only [List.length_cons, List.length_nil]; omega)); (case xv71 => rfl); k_whole)) | (k_here; k_dflt (refine' kda_item (knd := PySem.intKind _ _) ?Nv70 ?mv70 ?dv70 (intKind_is _ _ _ _) ?bv70 ?_; (case Nv70 => k_asm); (case mv70 => repeat (first | assumption | apply List.Mem.tail)); (case dv70 => assumption); (case bv70 => assumption))) | (k_here; k_dflt (refine' kda_in (knd := PySem.intKind _ _) ?Nv69 ?mv69 ?dv69 ?lv69 (intKind_is _ _ _ _) true ?bv69 ?_; (case Nv69 => k_asm); (case mv69 => repeat (first | assumption | apply List.Mem.tail)); (case dv69 => assumption); (case lv69 => assumption); (case bv69 => rw [(by assumption : valueAt _ _ = some _)]; exact rfl))) | ((with_reducible show wpAny _ _ (exec _ _) _ _ _); (k_here; (rename Fr _ _ _ _ => lF'q); (rename News _ _ _ _ => lN'q); (with_unfolding_all refine' For_turns lF'q ?_); k_whole; k_dflt (refine ld lF'q (by rfl) ?_); (with_unfolding_all refine kta_keys (knd := PySem.intKind _ _) (enc := PyData.int) (by rfl) lF'q lN'q (by assumption) (by assumption) (by assumption) (fun _ _ h => Value.isInt_shape h) rfl ?_); clear lF'q lN'q; (refine halt_of ?_))) | ((with_reducible show wpAny _ _ (exec _ _) _ _ _); (k_here; (rename Fr _ _ _ _ => lF'q); (rename News _ _ _ _ => lN'q); with_unfolding_all ((refine' For_turns lF'q ?_); k_whole; (refine MethodCall_ ?_); (refine ld lF'q (by rfl) ?_); (refine kdl_method (knd := PySem.intKind _ _) PySem.F.slot_dict_items PySem.F.type_dict_items lN'q (by assumption) (by assumption) ?_); (refine callWith_method0 ?_); (refine kta_callItems (knd := PySem.intKind _ _) lF'q lN'q (by assumption) (by assumption) (by assumption) ?_); intro h'q hv'q F'q N'q; (refine kta_items (knd := PySem.intKind _ _) (enc := PyData.int) (by rfl) F'q N'q hv'q (by assumption) (by assumption) (fun _ _ h => Value.isInt_shape h) rfl ?_)); clear lF'q lN'q; (refine halt_of ?_))) | (k_here; (with_reducible show wpAny _ _ (subscriptTail _ (PySem.Expr.Slice _ _ none _) (Value.ref _) (Value.ref _)) _ _ _); k_dflt ((first | refine' slice17 ?Fv66 ?Nv66 ?tv66 ?_ ?sv66 ?gv66 | refine' slice4 ?Fv66 ?Nv66 ?tv66 ?_ ?sv66 ?gv66); (case Fv66 => k_asm); (case Nv66 => k_asm); (case tv66 => first | k_mem | repeat (first | assumption | apply List.Mem.tail)); (case sv66 => with_unfolding_all rfl); (case gv66 => kmk_pure)); intro D'q h'q F'q N'q l1; (try k_lt l1); (try k_sweep)) | ((with_reducible show wpAny _ _ (call _ _) _ _ _); (first | (k_here; k_dflt (refine' CallsTo.useP1 (sizes_calls _ _ _ _ _ (Or.inl ?pmv65) ?pvv65) ?k1v65 ?k2v65 ?k3v65 ?k4v65 ?k5v65 ?kHv65 ?kAv65 ?kFv65 ?kKv65 ?kdv65 ?kuv65 ?_; (case k1v65 => k_asm); (case k2v65 => k_asm); (case k3v65 => k_asm); (case k4v65 => k_asm); (case pmv65 => k_mem); (case k5v65 => k_asm); (case kHv65 => exact rfl); (case kAv65 => exact rfl); (case kFv65 => first | assumption | exact rfl); (case kKv65 => first | assumption | exact rfl); (case kdv65 => (walk_at "my room")); (case kuv65 => (walk_at "my room")); (case pvv65 => (intro v hv; simp only [List.mem_cons, List.not_mem_nil, or_false] at hv; rcases hv with rfl | rfl | rfl | rfl <;> exact ⟨_, _, rfl, by unfold fits; omega⟩)); k_whole; (intro h'q tk'q F'q N'q); (try k_sweep); (try k_fold))) | (k_here; k_dflt (refine' CallsTo.useP (is_whole_calls _ _ _ _ _ _ _ ?p1v62 ?p2v62) ?k1v62 ?k2v62 ?k3v62 ?k4v62 ?k5v62 ?kHv62 ?kAv62 ?kFv62 ?kKv62 ?kdv62 ?kuv62 ?_; (case k1v62 => k_asm); (case k2v62 => k_asm); (case k3v62 => k_asm); (case k4v62 => k_asm); (case k5v62 => k_asm); (case kHv62 => exact rfl); (case kAv62 => exact rfl); (case kFv62 => first | assumption | exact rfl); (case kKv62 => first | assumption | exact rfl); (case kdv62 => (walk_at "my room")); (case kuv62 => (walk_at "my room")); (case p1v62 => omega); (case p2v62 => omega); k_whole; (intro h'q tk'q F'q N'q); (try k_sweep); (try k_fold))) | fail)) | fail); (all_goals k_steps)) | ((fail_if_success (with_reducible refine Halt.go ?_)); (first | (k_here; (with_reducible show wpAny _ _ (call (Value.builtin "len") [Value.ref _]) _ _ _); k_dflt (refine' len_six ?Nv64 ?mv64 rfl ?_; (case Nv64 => k_asm); (case mv64 => first | k_mem | repeat (first | assumption | apply List.Mem.tail)))) | (k_here; (with_reducible show wpAny _ _ (call (Value.builtin "isinstance") [Value.ref _, Value.type "tuple"]) _ _ _); k_dflt (refine' IsiPair.tuple_tuple ?gv63 ?cv63 ?_; (case gv63 => exact News.get (by k_asm) (by first | k_mem | repeat (first | assumption | apply List.Mem.tail))); (case cv63 => exact rfl))) | fail); (all_goals k_steps))))
    all_goals (refine' ret _ _ _ [] [] ?e1 ?e2 lt_tl0 ⟨rfl, rfl, rfl⟩; (case e1 => k_asm); (case e2 => k_asm))
end
end
section
theorem left_use {prog : Program} {w : World} {news : Led} {p : Program} {loose : List Str} {mean : ExcName → Option Value} {mg mb : Str → Option Value} {A : Around} {env : Env} {outer : List Env} {A₀ : Around} {base h₀ : Heap} {L : Addr} {m : Str → Option Value} {hp : Heap} {gs : Array GenState} {dr : Drawn} {tk0 : Nat} {os : OsState} {Q E : Value → Shared → Prop}
    (B : Below A₀ base outer h₀) (F : Fr h₀ L hp m) (X : (K w.params).In h₀) (N : News h₀ L hp news) (T : Top p loose mean mg mb h₀) (hh : A.handled = none) (hA : A.frames = some (env :: outer)) (hf : env.frame = some L) (hk : env.scope.kind = .function)
    (hd : A.depth + 8 < recursionLimit) (hu : A.units + 120 < cLine)
    (ret : ∀ t h' tk', Fr h₀ L h' m → News h₀ L h' news → Q (.int (-1) t) ⟨h', gs, dr, tk', os⟩) : wpAny (model prog w) A (call (.ref 586) [.ref 688]) Q E ⟨hp, gs, dr, tk0, os⟩ := by
  refine left_calls w news prog p loose mean mg mb A env outer A₀ base h₀ L m ⟨hp, gs, dr, tk0, os⟩ Q E B F X N T hh hA hf hk hd hu ?_
  rintro r h' tk' _ _ F' N' _ ⟨rfl, rfl, t, rfl⟩
  exact ret t h' tk' F' N'
theorem fits_small {t0 t1 t2 t3 t4 t5 t6 : Tok} : ∀ v ∈ [Value.int 0 t0, .int 196608 t1, .int 98304 t2, .int 65536 t3, .int 262144 t4, .int 655360 t5, .int 65536 t6], ∃ i t, v = .int i t ∧ fits i := by
  intro v hv
  simp only [List.mem_cons, List.not_mem_nil, or_false] at hv
  rcases hv with rfl | rfl | rfl | rfl | rfl | rfl | rfl <;> exact ⟨_, _, rfl, by unfold fits; omega⟩
theorem rows_t {fr : Led} {x : Addr × Obj} {kvs : List (Int × Value)} (h : ∀ p ∈ kvs, (0 ≤ p.1 ∧ p.1 ≤ 255) ∧ RowIn fr p.2) : ∀ p ∈ kvs, (0 ≤ p.1 ∧ p.1 ≤ 255) ∧ RowIn (x :: fr) p.2 := fun p hp => by
  obtain ⟨h1, a, i, t0, t1, t2, t3, t4, t5, n, e, hm, f⟩ := h p hp
  exact ⟨h1, a, i, t0, t1, t2, t3, t4, t5, n, e, .tail _ hm, f⟩
theorem fits_none : ∀ v ∈ ([] : List Value), ∃ i t, v = .int i t ∧ fits i := fun _ h => nomatch h
theorem pairs_any {prog prog' : Program} {w : World} {es : List DictEntry} {kvs : List (Int × Value)} (h : Pairs (PySem.intKind prog w) es kvs) : Pairs (PySem.intKind prog' w) es kvs := by
  induction h with
  | nil => exact .nil
  | cons h1 h2 _ ih => exact .cons h1 h2 ih
theorem dict_any {prog prog' : Program} {w : World} {o : Obj} {kvs : List (Int × Value)} (h : o.IsDictOf (PySem.intKind prog w) kvs) : o.IsDictOf (PySem.intKind prog' w) kvs := by
  obtain ⟨es, ep, a, b, c, d, e⟩ := h
  exact ⟨es, ep, a, b, c, pairs_any d, e⟩
theorem dict_copy {prog : Program} {w : World} {A : Around} {E : Value → Shared → Prop} {s : Shared} {h₀ : Heap} {L src : Addr} {m : Str → Option Value} {news : Led} {od : Obj} {kvs : List (Int × Value)} {Q : Value → Shared → Prop} (F : Fr h₀ L s.heap m) (N : News h₀ L s.heap news) (hbig : h₀.NoLimit) (hm : (src, od) ∈ news) (hd : od.IsDictOf (PySem.intKind prog w) kvs) (lo : (src == sysModules) = false) (hsz : kvs.length ≤ 8)
    (k : ∀ d h' o, Fr h₀ L h' m → News h₀ L h' ((d, o) :: news) → (∀ p ∈ news, p.1 < d) → (d == sysModules) = false → (∀ prog', o.IsDictOf (PySem.intKind prog' w) kvs) → Q (.ref d) { s with heap := h' }) :
    wpAny (model prog w) A (call (.type "dict") [.ref src]) Q E s := by
  refine kt_call_dict lo (kda_dict N hm hd) (Nat.le_trans hsz (by rw [sizeLine_eq]; decide)) fun h' hm' hs => ?_
  obtain ⟨o', ho', hd'⟩ := Heap.dictOf_iff.mp hm'
  have N1 := News.push F N { cls := .type "dict", data := .dict #[] }
  exact k _ h' o' ((F.push _).change hs (N1 _ (.head _)).2.1 (N1.fresh (.head _))) (N1.setHead N.apart hs ho') (fun p hp => Heap.lt_size (N p hp).1) (F.notModules (modules_low hbig)) fun prog' => dict_any hd'
theorem tupK {w : World} {h₀ h : Heap} {L a : Addr} {m : Str → Option Value} {vs : List Value} {k : Nat} (X : (K w.params).In h₀) (F : Fr h₀ L h m) (e : (K w.params).lookup a = some (tupO vs k)) : IsTup h a vs.toArray := ⟨_, getK X F e, rfl, k, rfl⟩
theorem list_K {prog : Program} {w : World} {A : Around} {E : Value → Shared → Prop} {s : Shared} {h₀ : Heap} {L a : Addr} {m : Str → Option Value} {news : Led} {vs : List Value} {k : Nat} {Q : Value → Shared → Prop} (F : Fr h₀ L s.heap m) (N : News h₀ L s.heap news) (X : (K w.params).In h₀) (e : (K w.params).lookup a = some (tupO vs k)) (hz : vs.length ≤ 100)
    (h : ∀ D c h', Fr h₀ L h' m → News h₀ L h' ((D, listOf vs.toArray c) :: news) → (∀ p ∈ news, p.1 < D) → Q (.ref D) { s with heap := h' }) : wpAny (model prog w) A (call (.type "list") [.ref a]) Q E s :=
  list_copyKT F N (tupK X F e) (fun D c h' F' N' l1 => h D c h' F' N' l1) (by rw [PySem.sizeLine_eq]; simp only [List.size_toArray]; omega)
def FontAt (w : World) (tl : Led) (kvs : List (Int × Value)) (r : Value) : Prop :=
  ∃ dc oc fs tn, (∀ prog, Obj.IsDictOf (PySem.intKind prog w) oc kvs) ∧ (dc, oc) ∈ tl ∧ (dc == sysModules) = false ∧ Inst w.params tl 676 fs r ∧ fs.lookup (Str.ofString "number") = some (.int 1 tn) ∧ fs.lookup (Str.ofString "chars") = some (.ref dc) ∧ fs.lookup (Str.ofString "width") = none
theorem lt_font {x d D D2 : Addr} {a b c o : Obj} {fr : Led} (l1 : ∀ p ∈ fr, p.1 < d) (l2 : d < x) (l3 : AllLt D fr) (l4 : AllLt D2 fr) : ∀ q ∈ [(D2, o), (D, c), (x, a), (d, b)], LCg.Off1 q.1 ([] ++ fr) :=
  List.forall_mem_cons.mpr ⟨off1_lt l4, List.forall_mem_cons.mpr ⟨off1_lt l3, lt_made l1 l2⟩⟩
section
local macro_rules | `(tactic| walk_at "call ref") => `(tactic| refine halt_of ?_)
set_option maxHeartbeats 4000000 in
theorem font_makes (w : World) (d : Addr) (od : Obj) (kvs : List (Int × Value)) (t0 t1 t2 t3 : Tok) (fr : Led) (hm : (d, od) ∈ fr) (hD : ∀ prog, od.IsDictOf (PySem.intKind prog w) kvs) (lo : (d == sysModules) = false) (hr : ∀ p ∈ kvs, (0 ≤ p.1 ∧ p.1 ≤ 255) ∧ RowIn fr p.2) (hV : ∀ p ∈ kvs, valueAt kvs p.1 = some p.2) (hz : kvs.length ≤ 8) :
    CallsTo w 676 [.int 1 t0, .str "fa" t1, .int 655360 t2, .ref 537, .ref d, .ref 688, .ref 689, .int 256 t3] [] fr 20 400 (fun r mu' tl => mu' = [] ∧ FontAt w tl kvs r) := by
  intro prog p loose mean mg mb A env outer A₀ base h₀ L m s Q E B F X N T hh hA hf hk hd hu ret; obtain ⟨hd0, dp, frm, gd, un⟩ := A; obtain ⟨hp0, gs0, dr0, tk0, os0⟩ := s; dsimp only at hh hA hd hu F N ret; subst hh hA; have hSt := StK.mk gs0 dr0 os0; (try simp only [List.cons_append, List.nil_append] at N)
  (k_steps; repeat' (first | ((with_reducible refine Halt.go ?_); (first | ((with_reducible show wpAny _ _ (call _ _) _ _ _); (first | (k_here; k_dflt (refine' left_use ?k1v78 ?k2v78 ?k3v78 ?k4v78 ?k5v78 ?kHv78 ?kAv78 ?kFv78 ?kKv78 ?kdv78 ?kuv78 ?_; (case k1v78 => k_asm); (case k2v78 => k_asm); (case k3v78 => k_asm); (case k4v78 => k_asm); (case k5v78 => k_asm); (case kHv78 => exact rfl); (case kAv78 => exact rfl); (case kFv78 => first | assumption | exact rfl); (case kKv78 => first | assumption | exact rfl); (case kdv78 => (walk_at "my room")); (case kuv78 => (walk_at "my room")); k_whole; (intro t'q h'q tk'q F'q N'q); (try k_sweep); (try k_fold))) | (k_here; k_dflt (refine' CallsTo.useP1 (program_calls _ _ _ _) ?k1v77 ?k2v77 ?k3v77 ?k4v77 ?k5v77 ?kHv77 ?kAv77 ?kFv77 ?kKv77 ?kdv77 ?kuv77 ?_; (case k1v77 => k_asm); (case k2v77 => k_asm); (case k3v77 => k_asm); (case k4v77 => k_asm); (case k5v77 => k_asm); (case kHv77 => exact rfl); (case kAv77 => exact rfl); (case kFv77 => first | assumption | exact rfl); (case kKv77 => first | assumption | exact rfl); (case kdv77 => (walk_at "my room")); (case kuv77 => (walk_at "my room")); k_whole; (intro h'q tk'q F'q N'q); (try k_sweep); (try k_fold))) | (k_here; k_dflt ((first | refine' CallsTo.useP1 (chars_calls _ _ _ _ _ _ ?pmv76 ?pDv76 ?plv76 ?prv76) ?k1v76 ?k2v76 ?k3v76 ?k4v76 ?k5v76 ?kHv76 ?kAv76 ?kFv76 ?kKv76 ?kdv76 ?kuv76 ?_ | refine' CallsTo.useP1 (larger_calls _ _ _ _ _ ?pmv76 ?pDv76 ?plv76 ?prv76 ?pVv76) ?k1v76 ?k2v76 ?k3v76 ?k4v76 ?k5v76 ?kHv76 ?kAv76 ?kFv76 ?kKv76 ?kdv76 ?kuv76 ?_); (case k1v76 => k_asm); (case k2v76 => k_asm); (case k3v76 => k_asm); (case k4v76 => k_asm); (case pmv76 => first | k_mem | repeat (first | assumption | apply List.Mem.tail)); (case pDv76 => assumption); (case plv76 => assumption); (case prv76 => repeat (first | assumption | refine rows_t ?_)); (try (case pVv76 => assumption)); (case k5v76 => k_asm); (case kHv76 => exact rfl); (case kAv76 => exact rfl); (case kFv76 => first | assumption | exact rfl); (case kKv76 => first | assumption | exact rfl); (case kdv76 => (walk_at "my room")); (case kuv76 => (walk_at "my room")); k_whole; (intro h'q tk'q F'q N'q); (try k_sweep); (try k_fold))) | (k_here; k_dflt (refine' CallsTo.useP1 (sizes_calls _ _ _ _ _ (Or.inr ?pmv75) ?pvv75) ?k1v75 ?k2v75 ?k3v75 ?k4v75 ?k5v75 ?kHv75 ?kAv75 ?kFv75 ?kKv75 ?kdv75 ?kuv75 ?_; (case k1v75 => k_asm); (case k2v75 => k_asm); (case k3v75 => k_asm); (case k4v75 => k_asm); (case pmv75 => exact rfl); (case k5v75 => k_asm); (case kHv75 => exact rfl); (case kAv75 => exact rfl); (case kFv75 => first | assumption | exact rfl); (case kKv75 => first | assumption | exact rfl); (case kdv75 => (walk_at "my room")); (case kuv75 => (walk_at "my room")); (case pvv75 => first | exact fits_small | exact fits_none); k_whole; (intro h'q tk'q F'q N'q); (try k_sweep); (try k_fold))) | (k_here; k_dflt ((first | refine' CallsTo.useP (is_whole_calls _ _ _ _ _ _ _ ?p1v74 ?p2v74) ?k1v74 ?k2v74 ?k3v74 ?k4v74 ?k5v74 ?kHv74 ?kAv74 ?kFv74 ?kKv74 ?kdv74 ?kuv74 ?_ | refine' CallsTo.useP (check_dimen_calls _ _ _ ?p1v74 ?p2v74) ?k1v74 ?k2v74 ?k3v74 ?k4v74 ?k5v74 ?kHv74 ?kAv74 ?kFv74 ?kKv74 ?kdv74 ?kuv74 ?_ | refine' CallsTo.useP (check_code_calls _ _ _ ?p1v74 ?p2v74) ?k1v74 ?k2v74 ?k3v74 ?k4v74 ?k5v74 ?kHv74 ?kAv74 ?kFv74 ?kKv74 ?kdv74 ?kuv74 ?_ | refine' CallsTo.useP (check_number_calls _ _ _ ?p1v74 ?p2v74) ?k1v74 ?k2v74 ?k3v74 ?k4v74 ?k5v74 ?kHv74 ?kAv74 ?kFv74 ?kKv74 ?kdv74 ?kuv74 ?_); (case k1v74 => k_asm); (case k2v74 => k_asm); (case k3v74 => k_asm); (case k4v74 => k_asm); (case k5v74 => k_asm); (case kHv74 => exact rfl); (case kAv74 => exact rfl); (case kFv74 => first | assumption | exact rfl); (case kKv74 => first | assumption | exact rfl); (case kdv74 => (walk_at "my room")); (case kuv74 => (walk_at "my room")); (case p1v74 => omega); (case p2v74 => omega); k_whole; (intro h'q tk'q F'q N'q); (try k_sweep); (try k_fold))) | (k_here; k_dflt (refine' call_cls ?k1v73 ?k2v73 ?k3v73 ?k4v73 ?k5v73 ?k6v73 ?_; (case k1v73 => k_asm); (case k2v73 => k_asm); (case k3v73 => k_asm); (case k4v73 => k_is); (case k5v73 => k_is); (case k6v73 => k_is); k_whole; intro x'q d'q h'q F'q N'q l1 l2; (try k_lt l1); (try k_lt2 l2); (try k_sweep); first | k_dflt (refine' code_def ?k1v73 ?k2v73 ?k3v73 ?k4v73 ?k5v73 ?kAv73 ?kFv73 ?kKv73 ?k6v73 ?k7v73 ?k8v73 ?k9v73 ?kBv73 ?_ ?c2v73 ?c3v73 ?c4v73 ?c5v73; (case kAv73 => exact rfl); (case kFv73 => first | assumption | exact rfl); (case kKv73 => first | assumption | exact rfl); (case k1v73 => k_asm); (case k2v73 => k_asm); (case k3v73 => k_asm); (case k4v73 => k_asm); (case k5v73 => k_asm); (case k6v73 => k_is); (case k7v73 => k_is); (case k8v73 => (walk_at "my room")); (case k9v73 => first | exact BindsTo.of_eq rfl | exact binds_K (by k_in) rfl (by k_is) rfl rfl rfl); (case c5v73 => decide); (case kBv73 => exact locs rfl); (case c2v73 => exact rfl); (case c3v73 => exact rfl); (case c4v73 => exact rfl); k_whole; intro g'q L'q h'q FG'q F'q N'q B'q X'q T'q; (try dsimp only at N'q); (try k_fold)) | k_dflt (refine' code_defC ?k1v73 ?k2v73 ?k3v73 ?k4v73 ?k5v73 ?kAv73 ?kFv73 ?kKv73 ?k6v73 ?k7v73 ?k8v73 ?k9v73 ?kBv73 ?kDv73 ?_ ?c2v73 ?c3v73 ?c4v73; (case kAv73 => exact rfl); (case kFv73 => first | assumption | exact rfl); (case kKv73 => first | assumption | exact rfl); (case k1v73 => k_asm); (case k2v73 => k_asm); (case k3v73 => k_asm); (case k4v73 => k_asm); (case k5v73 => k_asm); (case k6v73 => k_is); (case k7v73 => k_is); (case k8v73 => (walk_at "my room")); (case k9v73 => first | exact BindsTo.of_eq rfl | exact binds_K (by k_in) rfl (by k_is) rfl rfl rfl); (case kBv73 => exact rfl); (case kDv73 => decide +kernel); (case c2v73 => exact rfl); (case c3v73 => exact rfl); (case c4v73 => exact rfl); k_whole; intro g'q L'q h'q tk'q cells'q FG'q F'q N'q Y'q B'q X'q T'q l1; (try k_lt l1); k_cells Y'q; (try simp only [List.cons_append, List.nil_append] at N'q); (try k_fold)))) | fail)) | fail); (all_goals k_steps)) | ((fail_if_success (with_reducible refine Halt.go ?_)); (first | ((with_reducible show wpAny _ _ (call _ _) _ _ _); (k_here; k_dflt (refine' dict_copy ?Fv81 ?Nv81 ?bv81 ?mv81 ?dv81 ?lv81 ?zv81 ?_; (case Fv81 => k_asm); (case Nv81 => k_asm); (case bv81 => exact Top.nolimit (by k_asm)); (case mv81 => first | k_mem | repeat (first | assumption | apply List.Mem.tail)); (case dv81 => (rename ∀ prog, Obj.IsDictOf _ _ _ => hD'q; exact hD'q _)); (case lv81 => assumption); (case zv81 => assumption); intro D'q h'q o'q F'q N'q l1 lo'q hd'q; (try k_lt l1); (try k_sweep)))) | ((with_reducible show wpAny _ _ (call _ _) _ _ _); (k_here; k_dflt (refine' call_tuple_tup ?tv80 ?_; (case tv80 => exact tupK (by k_asm) (by k_asm) rfl)))) | ((with_reducible show wpAny _ _ (call _ _) _ _ _); (k_here; k_dflt (refine' list_K ?Fv79 ?Nv79 ?Xv79 ?ev79 ?zv79 ?_; (case Fv79 => k_asm); (case Nv79 => k_asm); (case Xv79 => k_asm); (case ev79 => exact rfl); (case zv79 => decide)); intro D'q c'q h'q F'q N'q l1; (try k_lt l1); (try k_sweep))) | fail); (all_goals k_steps))))
  refine' ret _ _ _ [] [_, _, _, _] ?e1 ?e2 ?e3 ⟨rfl, ?e4⟩
  case e1 => k_asm
  case e2 => k_asm
  case e3 => exact lt_font (by assumption) (by assumption) (by assumption : _ ∧ _ ∧ AllLt _ _).2.2 (by assumption : _ ∧ _ ∧ _ ∧ AllLt _ _).2.2.2
  case e4 =>
    exact ex4 _ _ [(Str.ofString "number", _), (Str.ofString "name", _), (Str.ofString "size", _), (Str.ofString "design", _), (Str.ofString "check", _), (Str.ofString "params", _), (Str.ofString "chars", _), (Str.ofString "program", _), (Str.ofString "kerns", _), (Str.ofString "boundary", _), (Str.ofString "edge_start", _), (Str.ofString "hyphen_char", _), (Str.ofString "skew_char", _)] _ ⟨by assumption, by k_mem, by assumption, Inst.mk (by first | k_mem | assumption) (by first | k_mem | assumption) (by repeat (first | exact Ents.nil | refine Ents.cons _ _ _ ?_)), rfl, rfl, rfl⟩
end
end
section
def RowX (fr : Led) (v : Value) (i : Int) : Prop := ∃ a t0 t1 t2 t3 t4 t5 n, v = .ref a ∧ (a, tupO [.int i t0, .int 5 t1, .int 0 t2, .int 0 t3, .int 0 t4, .int 0 t5] n) ∈ fr
def RawIn (fr : Led) (v : Value) (c : Int × Int) : Prop := ∃ a t0 t1 t2 t3 n, v = .ref a ∧ (a, tupO [.int c.1 t0, .int c.2 t1, .int 5 t2, .int 0 t3] n) ∈ fr
def PairX (fr : Led) (p : Int × Value) (c : Int × Int) : Prop := p.1 = c.1 ∧ RowX fr p.2 c.2
theorem RowX.mono {l l' : Led} (s : ∀ p ∈ l, p ∈ l') {v : Value} {i : Int} (h : RowX l v i) : RowX l' v i := by
  obtain ⟨a, t0, t1, t2, t3, t4, t5, n, e, m⟩ := h
  exact ⟨a, t0, t1, t2, t3, t4, t5, n, e, s _ m⟩
theorem pairx_mono {l l' : Led} (s : ∀ p ∈ l, p ∈ l') {kvs : List (Int × Value)} {cs : List (Int × Int)} (h : All2 (PairX l) kvs cs) : All2 (PairX l') kvs cs := by
  induction h with
  | nil => exact .nil
  | cons x _ ih => exact .cons ⟨x.1, x.2.mono s⟩ ih
abbrev rows4 : List (Int × Int) := [(65, 120), (66, 0), (67, 401), (68, -35)]
theorem row_new {i : Nat} {c : Int × Int} (h : rows4[i]? = some c) : (∀ c' ∈ rows4.take i, c'.1 ≠ c.1) ∧ (0 ≤ c.1 ∧ c.1 ≤ 255) ∧ fits c.2 := by
  have hi : i = 0 ∨ i = 1 ∨ i = 2 ∨ i = 3 := by
    obtain ⟨hlt, _⟩ := List.getElem?_eq_some_iff.mp h
    have hlt : i < 4 := hlt
    omega
  rcases hi with rfl | rfl | rfl | rfl <;> (cases h; refine ⟨by decide, ⟨by decide, by decide⟩, ?_⟩; unfold fits; decide)
theorem val_none {fr : Led} {kvs : List (Int × Value)} {cs : List (Int × Int)} {k : Int} (h : All2 (PairX fr) kvs cs) (hn : ∀ c' ∈ cs, c'.1 ≠ k) : valueAt kvs k = none := by
  induction h with
  | nil => rfl
  | @cons p c kvs cs hx _ ih =>
    have e1 : p.1 ≠ k := hx.1 ▸ hn c (.head _)
    have := ih fun c' hc => hn c' (.tail _ hc)
    unfold valueAt at this ⊢
    rw [List.find?_cons_of_neg (by simpa using e1)]
    exact this
theorem val_some {fr : Led} {kvs : List (Int × Value)} {cs : List (Int × Int)} (h : All2 (PairX fr) kvs cs) (hn : (cs.map (·.1)).Nodup) : ∀ p ∈ kvs, valueAt kvs p.1 = some p.2 := by
  induction h with
  | nil => exact fun _ h => nomatch h
  | @cons p c kvs cs hx hr ih =>
    rw [List.map_cons, List.nodup_cons] at hn
    intro q hq
    rcases List.mem_cons.mp hq with rfl | hq
    · unfold valueAt
      rw [List.find?_cons_of_pos (by simp)]
      rfl
    · have e := ih hn.2 q hq
      have e1 : p.1 ≠ q.1 := fun e9 => by
        have : valueAt kvs p.1 = none := val_none hr fun c' hc e => hn.1 (List.mem_map.mpr ⟨c', hc, by rw [e, hx.1]⟩)
        rw [e9, e] at this
        cases this
      unfold valueAt at e ⊢
      rw [List.find?_cons_of_neg (by simpa using e1)]
      exact e
theorem all_rows {fr : Led} {kvs : List (Int × Value)} {cs : List (Int × Int)} (h : All2 (PairX fr) kvs cs) (hc : ∀ c ∈ cs, (0 ≤ c.1 ∧ c.1 ≤ 255) ∧ fits c.2) : ∀ p ∈ kvs, (0 ≤ p.1 ∧ p.1 ≤ 255) ∧ RowIn fr p.2 := by
  induction h with
  | nil => exact fun _ h => nomatch h
  | @cons p c kvs cs hx hr ih =>
    intro q hq
    rcases List.mem_cons.mp hq with rfl | hq
    · obtain ⟨e, a, t0, t1, t2, t3, t4, t5, n, e2, m⟩ := hx
      exact ⟨e ▸ (hc c (.head _)).1, a, c.2, t0, t1, t2, t3, t4, t5, n, e2, m, (hc c (.head _)).2⟩
    · exact ih (fun c' h => hc c' (.tail _ h)) q hq
def RowPost (w : World) (h₀ : Heap) (L : Addr) (m₀ : Str → Option Value) (x : Str) (d : Addr) (fr : Led) (kvs : List (Int × Value)) (tl : Led) (c : Int × Int) (I : Addr) (oI : Obj) (s₁ s₂ : Shared) : Prop :=
  ∃ h' tk' m' od D ex, s₂ = { s₁ with heap := h', toks := tk' } ∧ Fr h₀ L h' m' ∧ News h₀ L h' ((I, oI) :: (d, od) :: (ex ++ (tl ++ fr))) ∧ (∀ y, y ≠ x → m' y = m₀ y) ∧ (∃ prog, Obj.IsDictOf (PySem.intKind prog w) od (stored kvs c.1 (.ref D))) ∧ RowX ex (.ref D) c.2 ∧ AllLt D ((I, oI) :: (d, od) :: (tl ++ fr)) ∧ ∃ o, ex = [(D, o)]
theorem font_loop {prog : Program} {w : World} {A : Around} {E : Value → Shared → Prop} {s : Shared} {h₀ : Heap} {env : Env} {la d : Addr} {o : Obj} {rs : List Value} {k : Nat} {fr : Led} {m₀ : Str → Option Value} {x : Str} {body : List Stmt} {Q : Flow → Shared → Prop} (hh : A.handled = none) (F : Fr h₀ env.locals s.heap m₀) (N : News h₀ env.locals s.heap ((d, o) :: fr))
    (hd : o.IsDictOf (PySem.intKind prog w) []) (hm : (la, listOf rs.toArray k) ∈ fr) (off : ∀ q ∈ fr, q.1 < d) (hr : All2 (RawIn fr) rs rows4)
    (turn : ∀ (i : Nat) (c : Int × Int) kvs od tl I oI h tk a t0 t1 t2 t3 n, (a, tupO [.int c.1 t0, .int c.2 t1, .int 5 t2, .int 0 t3] n) ∈ tl ++ fr → od.IsDictOf (PySem.intKind prog w) kvs → kvs.length ≤ 4 → valueAt kvs c.1 = none → (∀ q ∈ tl ++ fr, q.1 ≠ d) → LCg.Off1 I ((d, od) :: (tl ++ fr)) →
      Fr h₀ env.locals h (fun y => if y = x then some (.ref a) else m₀ y) → News h₀ env.locals h ((I, oI) :: (d, od) :: (tl ++ fr)) →
      wpAny (model prog w) A (execs body env) (fun f s₂ => f = .next ∧ RowPost w h₀ env.locals m₀ x d fr kvs tl c I oI { s with heap := h, toks := tk } s₂) E { s with heap := h, toks := tk })
    (done : ∀ u kvs od tl h tk, (∀ prog', od.IsDictOf (PySem.intKind prog' w) kvs) → All2 (PairX tl) kvs rows4 → (∀ q ∈ tl ++ fr, q.1 ≠ d) → (∀ q ∈ tl, LCg.Off1 q.1 fr) → Fr h₀ env.locals h (fun y => if y = x then u else m₀ y) → News h₀ env.locals h ((d, od) :: (tl ++ fr)) → Q .next { s with heap := h, toks := tk }) :
    wpAny (model prog w) A (pyIter (.ref la)) (fun it s₂ => LoopAtV prog w A h₀ env x body Q E it s₂) E s := by
  refine for_list (fun i m₁ nw => ∃ kvs od tl, nw = (d, od) :: (tl ++ fr) ∧ od.IsDictOf (PySem.intKind prog w) kvs ∧ All2 (PairX tl) kvs (rows4.take i) ∧ (∀ q ∈ tl ++ fr, q.1 ≠ d) ∧ (∀ q ∈ tl, LCg.Off1 q.1 fr) ∧ ∀ y, y ≠ x → m₁ y = m₀ y) hh F N ⟨[], o, [], rfl, hd, .nil, fun q hq => Nat.ne_of_lt (off q hq), (fun _ h => nomatch h), fun _ _ => rfl⟩ (fun _ _ _ h => by obtain ⟨_, _, _, rfl, _⟩ := h; exact .tail _ (List.mem_append_right _ hm)) ?_ ?_
  · intro i v m₁ nw I oI h tk hv hri0 o3 F' N'
    refine hide fun Gh back => ?_
    obtain ⟨kvs, od, tl, rfl, hd, hx, o1, o2, hj⟩ := hri0
    refine back ?_
    clear back Gh
    refine hide fun Gh back => ?_
    obtain ⟨c, hc, a, t0, t1, t2, t3, n, rfl, hm2⟩ := hr.get (by simpa using hv)
    refine back ?_
    clear back Gh
    refine hide fun Gh back => ?_
    obtain ⟨r1, r2, r3⟩ := row_new hc
    refine back ?_
    clear back Gh
    rw [keep_map hj] at F'
    have hlen : kvs.length ≤ 4 := by rw [hx.length, List.length_take]; exact Nat.min_le_right _ _
    refine wpAny_mono (turn i c kvs od tl I oI h tk a t0 t1 t2 t3 n (List.mem_append_right _ hm2) hd hlen (val_none hx r1) o1 o3 F' N') (fun f s₂ hq => ?_) fun _ _ e => e
    refine hide fun Gh back => ?_
    obtain ⟨rfl, h', tk', m', od', D, ex, rfl, F2, N2, hm3, ⟨pr, hd2⟩, hrow, lt, oD, rfl⟩ := hq
    refine back ?_
    clear back Gh
    rw [stored_absent (val_none hx r1)] at hd2
    have l3 : ∀ q ∈ (I, oI) :: (d, od') :: (tl ++ fr), q.1 < D := ktn_ltOf lt
    refine ⟨h', tk', m', (d, od') :: (([(D, oD)] ++ tl) ++ fr), rfl, F2, by simpa using N2, ?_, _, od', [(D, oD)] ++ tl, rfl, dict_any hd2, ?_, ?_, ?_, hm3⟩
    · refine Off1of fun q hq => ?_
      rcases List.mem_cons.mp hq with rfl | hq
      · exact Off1mem o3 (d, od) (.head _)
      · rcases List.mem_append.mp hq with hq | hq
        · rcases List.mem_append.mp hq with hq | hq
          · rw [List.mem_singleton.mp hq]; exact Ne.symm (Nat.ne_of_lt (l3 (I, oI) (.head _)))
          · exact Off1mem o3 q (.tail _ (List.mem_append_left _ hq))
        · exact Off1mem o3 q (.tail _ (List.mem_append_right _ hq))
    · rw [List.take_add_one, hc]
      exact (pairx_mono (fun p hp => List.mem_append_right _ hp) hx).snoc ⟨rfl, hrow.mono fun p hp => List.mem_append_left _ hp⟩
    · intro q hq
      rcases List.mem_append.mp hq with hq | hq
      · rcases List.mem_append.mp hq with hq | hq
        · rw [List.mem_singleton.mp hq]; exact Ne.symm (Nat.ne_of_lt (l3 (d, od') (.tail _ (.head _))))
        · exact o1 q (List.mem_append_left _ hq)
      · exact o1 q (List.mem_append_right _ hq)
    · intro q hq
      rcases List.mem_append.mp hq with hq | hq
      · rw [List.mem_singleton.mp hq]; exact Off1of fun p hp => Nat.ne_of_lt (l3 p (.tail _ (.tail _ (List.mem_append_right _ hp))))
      · exact o2 q hq
  · intro m₁ nw h tk hri0 F' N'
    refine hide fun Gh back => ?_
    obtain ⟨kvs, od, tl, rfl, hd, hx, o1, o2, hj⟩ := hri0
    refine back ?_
    clear back Gh
    rw [keep_done hj] at F'
    have e : rows4.take rs.toArray.size = rows4 := by rw [List.size_toArray, hr.length]; exact List.take_length
    rw [e] at hx
    exact done _ kvs od tl h tk (fun _ => dict_any hd) hx o1 o2 F' N'
theorem len_four {prog : Program} {w : World} {A : Around} {E : Value → Shared → Prop} {s : Shared} {h₀ : Heap} {L a : Addr} {m : Str → Option Value} {news : Led} {Q : Value → Shared → Prop} {x0 x1 x2 x3 : Value} {vs : List Value} {k : Nat} (N : News h₀ L s.heap news) (hm : (a, tupO vs k) ∈ news) (hv : vs = [x0, x1, x2, x3]) (h : Q (.int 4 (s.toks + 1)) { s with toks := s.toks + 1 + 1 }) :
    wpAny (model prog w) A (call (.builtin "len") [.ref a]) Q E s := by
  subst hv
  exact PyProof.Rows.len_tuple (items := [x0, x1, x2, x3].toArray) ⟨_, N.get hm, rfl, k, rfl⟩ (by simp) h
theorem add_43 {prog : Program} {w : World} {A : Around} {E : Value → Shared → Prop} {s : Shared} {h₀ : Heap} {L t b : Addr} {m : Str → Option Value} {news : Led} {Q : Value → Shared → Prop} {x0 x1 x2 x3 y0 y1 y2 : Value} {n k : Nat} (F : Fr h₀ L s.heap m) (N : News h₀ L s.heap news) (ht : (t, tupO [x0, x1, x2, x3] n) ∈ news) (hb : (b, tupO [y0, y1, y2] k) ∈ news)
    (h : ∀ D h', Fr h₀ L h' m → News h₀ L h' ((D, tupO [x0, x1, x2, x3, y0, y1, y2] 0) :: news) → (∀ p ∈ news, p.1 < D) → Q (.ref D) { s with heap := h' }) : wpAny (model prog w) A (binaryOp .Add (.ref t) (.ref b)) Q E s :=
  add_tuples (vs := [x0, x1, x2, x3]) (ws := [y0, y1, y2]) F N (N.isTup ht) (N.isTup hb) (fun e => by cases e) (fun _ e => by cases e) (fun _ _ h' F' N' => h _ h' F' N' fun p hp => Heap.lt_size (N p hp).1) (by rw [sizeLine_eq]; simp)
theorem tl_ne {I d : Addr} {o : Obj} {l : Led} (h : LCg.Off1 I ((d, o) :: l)) : @Ne Nat d I := Off1mem h (d, o) (.head _)
theorem lt_two {h₀ h : Heap} {L I d : Addr} {oI o : Obj} {l : Led} (N : News h₀ L h ((I, oI) :: (d, o) :: l)) : @LT.lt Nat _ I h.objs.size ∧ @LT.lt Nat _ d h.objs.size := ⟨Heap.lt_size (N _ (.head _)).1, Heap.lt_size (N _ (.tail _ (.head _))).1⟩
theorem news_row {h₀ h' : Heap} {L : Addr} {p1 p2 p3 p4 p5 : Addr × Obj} {l : Led} (N : News h₀ L h' (p1 :: p2 :: p3 :: p4 :: p5 :: l)) : News h₀ L h' (p4 :: p5 :: ([p1] ++ l)) := news_sub N fun p hp => by
  simp only [List.cons_append, List.nil_append, List.mem_cons] at hp ⊢
  rcases hp with h | h | h | h <;> simp [h]
theorem news_font {h₀ h' : Heap} {L : Addr} {tl2 tl fr : Led} {p : Addr × Obj} (N : News h₀ L h' (tl2 ++ (p :: (tl ++ fr)))) : News h₀ L h' ((tl2 ++ p :: tl) ++ ([] ++ fr)) := by simpa using N
theorem off_font {tl2 tl fr : Led} {d : Addr} {o : Obj} (h1 : ∀ q ∈ tl2, LCg.Off1 q.1 ((d, o) :: (tl ++ fr))) (h2 : ∀ p ∈ fr, p.1 < d) (h3 : ∀ q ∈ tl, LCg.Off1 q.1 fr) : ∀ q ∈ tl2 ++ (d, o) :: tl, LCg.Off1 q.1 ([] ++ fr) := fun q hq => by
  rcases List.mem_append.mp hq with hq | hq
  · exact Off1of fun p hp => Off1mem (h1 q hq) p (.tail _ (List.mem_append_right _ hp))
  · rcases List.mem_cons.mp hq with rfl | hq
    · exact Off1of fun p hp => Nat.ne_of_lt (h2 p hp)
    · exact h3 q hq
theorem FontAt.mono {w : World} {l l' : Led} (s : ∀ p ∈ l, p ∈ l') {kvs : List (Int × Value)} {r : Value} (h : FontAt w l kvs r) : FontAt w l' kvs r := by
  obtain ⟨dc, oc, fs, tn, h1, h2, h3, h4, h5⟩ := h
  exact ⟨dc, oc, fs, tn, h1, s _ h2, h3, h4.mono s, h5⟩
theorem name_use {prog : Program} {w : World} {news : Led} {p : Program} {loose : List Str} {mean : ExcName → Option Value} {mg mb : Str → Option Value} {A : Around} {env : Env} {outer : List Env} {A₀ : Around} {base h₀ : Heap} {L : Addr} {m : Str → Option Value} {hp : Heap} {gs : Array GenState} {dr : Drawn} {tk0 : Nat} {os : OsState} {Q E : Value → Shared → Prop} {t0 : Tok}
    (B : Below A₀ base outer h₀) (F : Fr h₀ L hp m) (X : (K w.params).In h₀) (N : News h₀ L hp news) (T : Top p loose mean mg mb h₀) (hh : A.handled = none) (hA : A.frames = some (env :: outer)) (hf : env.frame = some L) (hk : env.scope.kind = .function)
    (hd : A.depth + 8 < recursionLimit) (hu : A.units + 120 < cLine)
    (ret : ∀ t h' tk', Fr h₀ L h' m → News h₀ L h' news → Q (.str "fa" t) ⟨h', gs, dr, tk', os⟩) : wpAny (model prog w) A (call (.ref 687) [.int 1 t0]) Q E ⟨hp, gs, dr, tk0, os⟩ := by
  refine name_calls w t0 news prog p loose mean mg mb A env outer A₀ base h₀ L m ⟨hp, gs, dr, tk0, os⟩ Q E B F X N T hh hA hf hk hd hu ?_
  rintro r h' tk' _ _ F' N' _ ⟨rfl, rfl, t, rfl⟩
  exact ret t h' tk' F' N'
theorem makes_use {prog : Program} {w : World} {news : Led} {p : Program} {loose : List Str} {mean : ExcName → Option Value} {mg mb : Str → Option Value} {A : Around} {env : Env} {outer : List Env} {A₀ : Around} {base h₀ : Heap} {L d : Addr} {m : Str → Option Value} {hp : Heap} {gs : Array GenState} {dr : Drawn} {tk0 : Nat} {os : OsState} {Q E : Value → Shared → Prop} {t0 t1 t2 t3 : Tok} {od : Obj} {kvs : List (Int × Value)} (hm : (d, od) ∈ news) (hD : ∀ prog, od.IsDictOf (PySem.intKind prog w) kvs) (lo : (d == sysModules) = false) (hx : All2 (PairX news) kvs rows4)
    (B : Below A₀ base outer h₀) (F : Fr h₀ L hp m) (X : (K w.params).In h₀) (N : News h₀ L hp news) (T : Top p loose mean mg mb h₀) (hh : A.handled = none) (hA : A.frames = some (env :: outer)) (hf : env.frame = some L) (hk : env.scope.kind = .function)
    (hd : A.depth + 20 < recursionLimit) (hu : A.units + 400 < cLine)
    (ret : ∀ r h' tk' tl, Fr h₀ L h' m → News h₀ L h' (tl ++ news) → (∀ q ∈ tl, LCg.Off1 q.1 news) → FontAt w tl kvs r → Q r ⟨h', gs, dr, tk', os⟩) : wpAny (model prog w) A (call (.ref 676) [.int 1 t0, .str "fa" t1, .int 655360 t2, .ref 537, .ref d, .ref 688, .ref 689, .int 256 t3]) Q E ⟨hp, gs, dr, tk0, os⟩ := by
  have hz : kvs.length ≤ 8 := by rw [hx.length]; decide
  refine font_makes w d od kvs t0 t1 t2 t3 news hm hD lo (all_rows hx (by unfold fits; decide)) (val_some hx (by decide)) hz prog p loose mean mg mb A env outer A₀ base h₀ L m ⟨hp, gs, dr, tk0, os⟩ Q E B F X N T hh hA hf hk hd hu ?_
  rintro r h' tk' _ tl F' N' o' ⟨rfl, hfa⟩
  exact ret r h' tk' tl F' N' o' hfa
section
local macro_rules | `(tactic| walk_at "compareOp In int ref") => `(tactic| refine halt_of ?_)
local macro_rules | `(tactic| walk_at "setItem ref int") => `(tactic| refine halt_of ?_)
local macro_rules | `(tactic| walk_at "call ref") => `(tactic| refine halt_of ?_)
local macro_rules | `(tactic| walk_at "binaryOp Add ref ref") => `(tactic| refine halt_of ?_)
local macro_rules | `(tactic| walk_at "subscriptTail Name Slice ref ref") => `(tactic| refine halt_of ?_)
local macro_rules | `(tactic| walk_at "exec For Name Name cons nil") => `(tactic| refine halt_of ?_)
local macro_rules | `(tactic| walk_at "pyIter ref") => `(tactic| refine halt_it ?_)
set_option maxHeartbeats 4000000 in
theorem font_calls (w : World) (la : Addr) (lk : Nat) (rs : List Value) (t1 : Tok) (fr : Led) (hl : (la, listOf rs.toArray lk) ∈ fr) (hr : All2 (RawIn fr) rs rows4) :
    CallsTo w 697 [.int 1 t1, .ref la] [] fr 30 500 (fun r mu' tl => mu' = [] ∧ ∃ kvs, FontAt w tl kvs r ∧ All2 (PairX tl) kvs rows4) := by
  intro prog p loose mean mg mb A env outer A₀ base h₀ L m s Q E B F X N T hh hA hf hk hd hu ret; obtain ⟨hd0, dp, frm, gd, un⟩ := A; obtain ⟨hp0, gs0, dr0, tk0, os0⟩ := s; dsimp only at hh hA hd hu F N ret; subst hh hA; have hSt := StK.mk gs0 dr0 os0; (try simp only [List.cons_append, List.nil_append] at N)
  refine wpAny_call ?_; k_dflt (refine' code_def (binds := [(Str.ofString "number", .int 1 t1), (Str.ofString "rows", .ref la), (Str.ofString "params", .ref 537), (Str.ofString "program", .ref 688), (Str.ofString "kerns", .ref 689), (Str.ofString "boundary", .int 256 974)]) ?k1 ?k2 ?k3 ?k4 ?k5 ?kA ?kF ?kK ?k6 ?k7 ?k8 ?k9 ?kB ?_ ?c2 ?c3 ?c4 ?c5; (case kA => exact rfl); (case kF => first | assumption | exact rfl); (case kK => first | assumption | exact rfl); (case k1 => k_asm); (case k2 => k_asm); (case k3 => k_asm); (case k4 => k_asm); (case k5 => k_asm); (case k6 => k_is); (case k7 => k_is); (case k8 => (walk_at "my room")); (case k9 => first | exact BindsTo.of_eq rfl | exact binds_K (by k_in) rfl (by k_is) rfl rfl rfl); (case c5 => decide); (case kB => exact locs rfl); (case c2 => exact rfl); (case c3 => exact rfl); (case c4 => exact rfl); k_whole; intro g' L' h' FG' F' N' B' X' T'; (refine gen_tk fun tk1 => ?_); (try dsimp only at N'); (try dsimp only); (try k_fold))
  (k_steps; repeat' (first | ((with_reducible refine Halt.go ?_); (first | ((with_reducible show wpAny _ _ (exec _ _) _ _ _); (k_here; (rename Fr _ _ _ _ => lF'q); (with_unfolding_all refine' For_invVF lF'q ?k1v89 ?k2v89 ?_; (case k1v89 => exact rfl); (case k2v89 => exact rfl); k_whole))) | (k_here; (with_reducible show wpAny _ _ (subscriptTail _ (PySem.Expr.Slice _ _ none _) (Value.ref _) (Value.ref _)) _ _ _); k_dflt (refine' slice17 ?Fv88 ?Nv88 ?tv88 ?_ ?sv88 ?gv88; (case Fv88 => k_asm); (case Nv88 => k_asm); (case tv88 => k_mem); (case sv88 => with_unfolding_all rfl); (case gv88 => kmk_pure)); intro D'q h'q F'q N'q l1; (try k_lt l1); (try k_sweep)) | (k_here; k_dflt (refine' add_43 ?Fv87 ?Nv87 ?tv87 ?bv87 ?_; (case Fv87 => k_asm); (case Nv87 => k_asm); (case tv87 => repeat (first | assumption | apply List.Mem.tail)); (case bv87 => k_mem)); intro D'q h'q F'q N'q l1; (try k_lt l1); (try k_sweep)) | (k_here; k_dflt (refine' kda_set (knd := PySem.intKind _ _) ?Fv84 ?Nv84 ?Uv84 ?dv84 (intKind_is _ _ _ _) ?zv84 ?_; (case Fv84 => k_asm); (case Nv84 => k_asm); (case Uv84 => k_updF); (case dv84 => assumption); (case zv84 => exact Nat.le_trans (by assumption) (by rw [sizeLine_eq]; decide))); intro h'q o'q F'q N'q hd'q; (try dsimp only at N'q)) | (k_here; k_dflt (refine' kda_in (knd := PySem.intKind _ _) ?Nv83 ?mv83 ?dv83 ?lv83 (intKind_is _ _ _ _) false ?bv83 ?_; (case Nv83 => k_asm); (case mv83 => first | k_mem | repeat (first | assumption | apply List.Mem.tail)); (case dv83 => assumption); (case lv83 => assumption); (case bv83 => rw [(by assumption : valueAt _ _ = none)]; exact rfl))) | ((with_reducible show wpAny _ _ (call _ _) _ _ _); (first | (k_here; k_dflt (refine' CallsTo.useP (is_whole_calls _ _ _ _ _ _ _ ?p1v90 ?p2v90) ?k1v90 ?k2v90 ?k3v90 ?k4v90 ?k5v90 ?kHv90 ?kAv90 ?kFv90 ?kKv90 ?kdv90 ?kuv90 ?_; (case k1v90 => k_asm); (case k2v90 => k_asm); (case k3v90 => k_asm); (case k4v90 => k_asm); (case k5v90 => k_asm); (case kHv90 => exact rfl); (case kAv90 => exact rfl); (case kFv90 => first | assumption | exact rfl); (case kKv90 => first | assumption | exact rfl); (case kdv90 => (walk_at "my room")); (case kuv90 => (walk_at "my room")); (case p1v90 => omega); (case p2v90 => omega); k_whole; (intro h'q tk'q F'q N'q); (try k_sweep); (try k_fold))) | (k_here; k_dflt (refine' makes_use ?pmv86 ?pDv86 ?plv86 ?pxv86 ?k1v86 ?k2v86 ?k3v86 ?k4v86 ?k5v86 ?kHv86 ?kAv86 ?kFv86 ?kKv86 ?kdv86 ?kuv86 ?_; (case k1v86 => k_asm); (case k2v86 => k_asm); (case k3v86 => k_asm); (case k4v86 => k_asm); (case pmv86 => k_mem); (case pDv86 => assumption); (case plv86 => assumption); (case pxv86 => exact pairx_mono (fun _ hp => List.Mem.tail _ (List.mem_append_left _ hp)) (by assumption)); (case k5v86 => k_asm); (case kHv86 => exact rfl); (case kAv86 => exact rfl); (case kFv86 => first | assumption | exact rfl); (case kKv86 => first | assumption | exact rfl); (case kdv86 => (walk_at "my room")); (case kuv86 => (walk_at "my room")); k_whole; (intro r'q h'q tk'q tl'q F'q N'q o'q f'q); (try k_fold))) | (k_here; k_dflt (refine' name_use ?k1v85 ?k2v85 ?k3v85 ?k4v85 ?k5v85 ?kHv85 ?kAv85 ?kFv85 ?kKv85 ?kdv85 ?kuv85 ?_; (case k1v85 => k_asm); (case k2v85 => k_asm); (case k3v85 => k_asm); (case k4v85 => k_asm); (case k5v85 => k_asm); (case kHv85 => exact rfl); (case kAv85 => exact rfl); (case kFv85 => first | assumption | exact rfl); (case kKv85 => first | assumption | exact rfl); (case kdv85 => (walk_at "my room")); (case kuv85 => (walk_at "my room")); k_whole; (intro t'q h'q tk'q F'q N'q); (try k_sweep); (try k_fold))) | fail)) | fail); (all_goals k_steps)) | ((fail_if_success (with_reducible refine Halt.go ?_)); (first | (k_here; (with_reducible show wpAny _ _ (call (Value.type _) [Value.ref _]) _ _ _); k_dflt (refine call_tuple_tup (News.isTup (by k_asm) (by first | k_mem | repeat (first | assumption | apply List.Mem.tail))) ?_)) | (k_here; (with_reducible show wpAny _ _ (call (Value.builtin "len") [Value.ref _]) _ _ _); k_dflt (refine' len_four ?Nv82 ?mv82 rfl ?_; (case Nv82 => k_asm); (case mv82 => first | k_mem | repeat (first | assumption | apply List.Mem.tail)))) | fail); (all_goals k_steps))))
  refine Halt.go ?_
  refine font_loop (by rfl) (by k_asm) (by k_asm) (by assumption) hl (by assumption) hr ?turn ?done
  case turn =>
    intro i c kvs od tl I oI h tk a t0 t1 t2 t3 n hm hd9 hlen hv o1 o3 F1 N1
    have hn := tl_ne o3
    have hs2 := lt_two N1
    (k_steps; repeat' (first | ((with_reducible refine Halt.go ?_); (first | ((with_reducible show wpAny _ _ (exec _ _) _ _ _); (k_here; (rename Fr _ _ _ _ => lF'q); (with_unfolding_all refine' For_invVF lF'q ?k1v89 ?k2v89 ?_; (case k1v89 => exact rfl); (case k2v89 => exact rfl); k_whole))) | (k_here; (with_reducible show wpAny _ _ (subscriptTail _ (PySem.Expr.Slice _ _ none _) (Value.ref _) (Value.ref _)) _ _ _); k_dflt (refine' slice17 ?Fv88 ?Nv88 ?tv88 ?_ ?sv88 ?gv88; (case Fv88 => k_asm); (case Nv88 => k_asm); (case tv88 => k_mem); (case sv88 => with_unfolding_all rfl); (case gv88 => kmk_pure)); intro D'q h'q F'q N'q l1; (try k_lt l1); (try k_sweep)) | (k_here; k_dflt (refine' add_43 ?Fv87 ?Nv87 ?tv87 ?bv87 ?_; (case Fv87 => k_asm); (case Nv87 => k_asm); (case tv87 => repeat (first | assumption | apply List.Mem.tail)); (case bv87 => k_mem)); intro D'q h'q F'q N'q l1; (try k_lt l1); (try k_sweep)) | (k_here; k_dflt (refine' kda_set (knd := PySem.intKind _ _) ?Fv84 ?Nv84 ?Uv84 ?dv84 (intKind_is _ _ _ _) ?zv84 ?_; (case Fv84 => k_asm); (case Nv84 => k_asm); (case Uv84 => k_updF); (case dv84 => assumption); (case zv84 => exact Nat.le_trans (by assumption) (by rw [sizeLine_eq]; decide))); intro h'q o'q F'q N'q hd'q; (try dsimp only at N'q)) | (k_here; k_dflt (refine' kda_in (knd := PySem.intKind _ _) ?Nv83 ?mv83 ?dv83 ?lv83 (intKind_is _ _ _ _) false ?bv83 ?_; (case Nv83 => k_asm); (case mv83 => first | k_mem | repeat (first | assumption | apply List.Mem.tail)); (case dv83 => assumption); (case lv83 => assumption); (case bv83 => rw [(by assumption : valueAt _ _ = none)]; exact rfl))) | ((with_reducible show wpAny _ _ (call _ _) _ _ _); (first | (k_here; k_dflt (refine' CallsTo.useP (is_whole_calls _ _ _ _ _ _ _ ?p1v90 ?p2v90) ?k1v90 ?k2v90 ?k3v90 ?k4v90 ?k5v90 ?kHv90 ?kAv90 ?kFv90 ?kKv90 ?kdv90 ?kuv90 ?_; (case k1v90 => k_asm); (case k2v90 => k_asm); (case k3v90 => k_asm); (case k4v90 => k_asm); (case k5v90 => k_asm); (case kHv90 => exact rfl); (case kAv90 => exact rfl); (case kFv90 => first | assumption | exact rfl); (case kKv90 => first | assumption | exact rfl); (case kdv90 => (walk_at "my room")); (case kuv90 => (walk_at "my room")); (case p1v90 => omega); (case p2v90 => omega); k_whole; (intro h'q tk'q F'q N'q); (try k_sweep); (try k_fold))) | (k_here; k_dflt (refine' makes_use ?pmv86 ?pDv86 ?plv86 ?pxv86 ?k1v86 ?k2v86 ?k3v86 ?k4v86 ?k5v86 ?kHv86 ?kAv86 ?kFv86 ?kKv86 ?kdv86 ?kuv86 ?_; (case k1v86 => k_asm); (case k2v86 => k_asm); (case k3v86 => k_asm); (case k4v86 => k_asm); (case pmv86 => k_mem); (case pDv86 => assumption); (case plv86 => assumption); (case pxv86 => exact pairx_mono (fun _ hp => List.Mem.tail _ (List.mem_append_left _ hp)) (by assumption)); (case k5v86 => k_asm); (case kHv86 => exact rfl); (case kAv86 => exact rfl); (case kFv86 => first | assumption | exact rfl); (case kKv86 => first | assumption | exact rfl); (case kdv86 => (walk_at "my room")); (case kuv86 => (walk_at "my room")); k_whole; (intro r'q h'q tk'q tl'q F'q N'q o'q f'q); (try k_fold))) | (k_here; k_dflt (refine' name_use ?k1v85 ?k2v85 ?k3v85 ?k4v85 ?k5v85 ?kHv85 ?kAv85 ?kFv85 ?kKv85 ?kdv85 ?kuv85 ?_; (case k1v85 => k_asm); (case k2v85 => k_asm); (case k3v85 => k_asm); (case k4v85 => k_asm); (case k5v85 => k_asm); (case kHv85 => exact rfl); (case kAv85 => exact rfl); (case kFv85 => first | assumption | exact rfl); (case kKv85 => first | assumption | exact rfl); (case kdv85 => (walk_at "my room")); (case kuv85 => (walk_at "my room")); k_whole; (intro t'q h'q tk'q F'q N'q); (try k_sweep); (try k_fold))) | fail)) | fail); (all_goals k_steps)) | ((fail_if_success (with_reducible refine Halt.go ?_)); (first | (k_here; (with_reducible show wpAny _ _ (call (Value.type _) [Value.ref _]) _ _ _); k_dflt (refine call_tuple_tup (News.isTup (by k_asm) (by first | k_mem | repeat (first | assumption | apply List.Mem.tail))) ?_)) | (k_here; (with_reducible show wpAny _ _ (call (Value.builtin "len") [Value.ref _]) _ _ _); k_dflt (refine' len_four ?Nv82 ?mv82 rfl ?_; (case Nv82 => k_asm); (case mv82 => first | k_mem | repeat (first | assumption | apply List.Mem.tail)))) | fail); (all_goals k_steps))))
    all_goals first | exact none | skip
    refine' ex2 _ _ (ex4 _ _ _ _ ⟨rfl, ?q1, ?q2, ?q3, ?q4, ?q5, ?q6, ⟨_, rfl⟩⟩)
    case q1 => k_asm
    case q4 => exact ⟨prog, by assumption⟩
    case q2 => exact news_row (by k_asm)
    case q5 => exact ex8 _ _ _ _ _ _ _ _ ⟨rfl, List.Mem.head _⟩
    case q3 => exact fun y hy => if_neg hy
    case q6 => exact (by assumption : _ ∧ _ ∧ _ ∧ _ ∧ AllLt _ (_ ++ _)).2.2
  case done =>
    intro u kvs od tl h tk hd9 hx o1 o2 F1 N1
    (k_steps; repeat' (first | ((with_reducible refine Halt.go ?_); (first | ((with_reducible show wpAny _ _ (exec _ _) _ _ _); (k_here; (rename Fr _ _ _ _ => lF'q); (with_unfolding_all refine' For_invVF lF'q ?k1v89 ?k2v89 ?_; (case k1v89 => exact rfl); (case k2v89 => exact rfl); k_whole))) | (k_here; (with_reducible show wpAny _ _ (subscriptTail _ (PySem.Expr.Slice _ _ none _) (Value.ref _) (Value.ref _)) _ _ _); k_dflt (refine' slice17 ?Fv88 ?Nv88 ?tv88 ?_ ?sv88 ?gv88; (case Fv88 => k_asm); (case Nv88 => k_asm); (case tv88 => k_mem); (case sv88 => with_unfolding_all rfl); (case gv88 => kmk_pure)); intro D'q h'q F'q N'q l1; (try k_lt l1); (try k_sweep)) | (k_here; k_dflt (refine' add_43 ?Fv87 ?Nv87 ?tv87 ?bv87 ?_; (case Fv87 => k_asm); (case Nv87 => k_asm); (case tv87 => repeat (first | assumption | apply List.Mem.tail)); (case bv87 => k_mem)); intro D'q h'q F'q N'q l1; (try k_lt l1); (try k_sweep)) | (k_here; k_dflt (refine' kda_set (knd := PySem.intKind _ _) ?Fv84 ?Nv84 ?Uv84 ?dv84 (intKind_is _ _ _ _) ?zv84 ?_; (case Fv84 => k_asm); (case Nv84 => k_asm); (case Uv84 => k_updF); (case dv84 => assumption); (case zv84 => exact Nat.le_trans (by assumption) (by rw [sizeLine_eq]; decide))); intro h'q o'q F'q N'q hd'q; (try dsimp only at N'q)) | (k_here; k_dflt (refine' kda_in (knd := PySem.intKind _ _) ?Nv83 ?mv83 ?dv83 ?lv83 (intKind_is _ _ _ _) false ?bv83 ?_; (case Nv83 => k_asm); (case mv83 => first | k_mem | repeat (first | assumption | apply List.Mem.tail)); (case dv83 => assumption); (case lv83 => assumption); (case bv83 => rw [(by assumption : valueAt _ _ = none)]; exact rfl))) | ((with_reducible show wpAny _ _ (call _ _) _ _ _); (first | (k_here; k_dflt (refine' CallsTo.useP (is_whole_calls _ _ _ _ _ _ _ ?p1v90 ?p2v90) ?k1v90 ?k2v90 ?k3v90 ?k4v90 ?k5v90 ?kHv90 ?kAv90 ?kFv90 ?kKv90 ?kdv90 ?kuv90 ?_; (case k1v90 => k_asm); (case k2v90 => k_asm); (case k3v90 => k_asm); (case k4v90 => k_asm); (case k5v90 => k_asm); (case kHv90 => exact rfl); (case kAv90 => exact rfl); (case kFv90 => first | assumption | exact rfl); (case kKv90 => first | assumption | exact rfl); (case kdv90 => (walk_at "my room")); (case kuv90 => (walk_at "my room")); (case p1v90 => omega); (case p2v90 => omega); k_whole; (intro h'q tk'q F'q N'q); (try k_sweep); (try k_fold))) | (k_here; k_dflt (refine' makes_use ?pmv86 ?pDv86 ?plv86 ?pxv86 ?k1v86 ?k2v86 ?k3v86 ?k4v86 ?k5v86 ?kHv86 ?kAv86 ?kFv86 ?kKv86 ?kdv86 ?kuv86 ?_; (case k1v86 => k_asm); (case k2v86 => k_asm); (case k3v86 => k_asm); (case k4v86 => k_asm); (case pmv86 => k_mem); (case pDv86 => assumption); (case plv86 => assumption); (case pxv86 => exact pairx_mono (fun _ hp => List.Mem.tail _ (List.mem_append_left _ hp)) (by assumption)); (case k5v86 => k_asm); (case kHv86 => exact rfl); (case kAv86 => exact rfl); (case kFv86 => first | assumption | exact rfl); (case kKv86 => first | assumption | exact rfl); (case kdv86 => (walk_at "my room")); (case kuv86 => (walk_at "my room")); k_whole; (intro r'q h'q tk'q tl'q F'q N'q o'q f'q); (try k_fold))) | (k_here; k_dflt (refine' name_use ?k1v85 ?k2v85 ?k3v85 ?k4v85 ?k5v85 ?kHv85 ?kAv85 ?kFv85 ?kKv85 ?kdv85 ?kuv85 ?_; (case k1v85 => k_asm); (case k2v85 => k_asm); (case k3v85 => k_asm); (case k4v85 => k_asm); (case k5v85 => k_asm); (case kHv85 => exact rfl); (case kAv85 => exact rfl); (case kFv85 => first | assumption | exact rfl); (case kKv85 => first | assumption | exact rfl); (case kdv85 => (walk_at "my room")); (case kuv85 => (walk_at "my room")); k_whole; (intro t'q h'q tk'q F'q N'q); (try k_sweep); (try k_fold))) | fail)) | fail); (all_goals k_steps)) | ((fail_if_success (with_reducible refine Halt.go ?_)); (first | (k_here; (with_reducible show wpAny _ _ (call (Value.type _) [Value.ref _]) _ _ _); k_dflt (refine call_tuple_tup (News.isTup (by k_asm) (by first | k_mem | repeat (first | assumption | apply List.Mem.tail))) ?_)) | (k_here; (with_reducible show wpAny _ _ (call (Value.builtin "len") [Value.ref _]) _ _ _); k_dflt (refine' len_four ?Nv82 ?mv82 rfl ?_; (case Nv82 => k_asm); (case mv82 => first | k_mem | repeat (first | assumption | apply List.Mem.tail)))) | fail); (all_goals k_steps))))
    all_goals first | exact none | skip
    refine' ret _ _ _ [] _ ?e1 ?e2 ?e3 ⟨rfl, kvs, ?e4, ?e5⟩
    case e1 => k_asm
    case e2 => exact news_font (by k_asm)
    case e3 => exact off_font (by assumption) (by assumption) o2
    case e4 => exact FontAt.mono (fun p hp => List.mem_append_left _ hp) (by assumption)
    case e5 => exact pairx_mono (fun p hp => List.mem_append_right _ (.tail _ hp)) hx
end
end
section
theorem font_row {fr : Led} {kvs : List (Int × Value)} (hx : All2 (PairX fr) kvs rows4) (i : Nat) (hi : i < 4) : ∃ v, valueAt kvs (65 + (i : Int)) = some v ∧ RowX fr v (menuL.getD i 0) := by
  have hv := val_some hx (by decide)
  have key : ∀ (p : Int × Value) (c : Int × Int), p ∈ kvs → PairX fr p c → c = (65 + (i : Int), menuL.getD i 0) → ∃ v, valueAt kvs (65 + (i : Int)) = some v ∧ RowX fr v (menuL.getD i 0) := by
    rintro p c hp ⟨e, hr⟩ rfl
    have := hv p hp
    rw [e] at this
    exact ⟨p.2, this, hr⟩
  have hi : i = 0 ∨ i = 1 ∨ i = 2 ∨ i = 3 := by omega
  generalize hr4 : rows4 = cs at hx
  have h0 : ∃ p, p ∈ kvs ∧ PairX fr p (65 + (i : Int), menuL.getD i 0) := by
    subst hr4
    cases hx with
    | cons a hx => cases hx with
      | cons b hx => cases hx with
        | cons c hx => cases hx with
          | cons d hx =>
            rcases hi with rfl | rfl | rfl | rfl
            · exact ⟨_, by simp, a⟩
            · exact ⟨_, by simp, b⟩
            · exact ⟨_, by simp, c⟩
            · exact ⟨_, by simp, d⟩
  obtain ⟨p, hp, h⟩ := h0
  exact key p _ hp h rfl
section
set_option maxHeartbeats 4000000 in
theorem fontw_of (w : World) (font : Addr) (fr0 : Led) (kvs : List (Int × Value)) (hf : FontAt w fr0 kvs (.ref font)) (hx : All2 (PairX fr0) kvs rows4) : FontW w font fr0 := by
  obtain ⟨dc, oc, fs, tn, hD, hmc, lo, hI, h5, h6, h7⟩ := hf
  refine ⟨⟨fs, hI, h7⟩, fun i t fr hi sub => ?_⟩
  obtain ⟨v, hv, ra, u0, u1, u2, u3, u4, u5, rn, rfl, hrow⟩ := font_row hx i hi
  have hmc := sub _ hmc
  have hrow := sub _ hrow
  intro prog p loose mean mg mb A env outer A₀ base h₀ L m s Q E B F X N T hh hA hf hk hd hu ret; obtain ⟨hd0, dp, frm, gd, un⟩ := A; obtain ⟨hp0, gs0, dr0, tk0, os0⟩ := s; dsimp only at hh hA hd hu F N ret; subst hh hA; have hSt := StK.mk gs0 dr0 os0; (try simp only [List.cons_append, List.nil_append] at N)
  have hD := hD prog
  refine wpAny_call ?_; k_dflt (refine' code_def (binds := [(Str.ofString "self", .ref font), (Str.ofString "code", .int (65 + (i : Int)) t)]) ?k1 ?k2 ?k3 ?k4 ?k5 ?kA ?kF ?kK ?k6 ?k7 ?k8 ?k9 ?kB ?_ ?c2 ?c3 ?c4 ?c5; (case kA => exact rfl); (case kF => first | assumption | exact rfl); (case kK => first | assumption | exact rfl); (case k1 => k_asm); (case k2 => k_asm); (case k3 => k_asm); (case k4 => k_asm); (case k5 => k_asm); (case k6 => k_is); (case k7 => k_is); (case k8 => (walk_at "my room")); (case k9 => first | exact BindsTo.of_eq rfl | exact binds_K (by k_in) rfl (by k_is) rfl rfl rfl); (case c5 => decide); (case kB => exact locs rfl); (case c2 => exact rfl); (case c3 => exact rfl); (case c4 => exact rfl); k_whole; intro g' L' h' FG' F' N' B' X' T'; (refine gen_tk fun tk1 => ?_); (try dsimp only at N'); (try dsimp only); (try k_fold))
  (k_steps; repeat' ((fail_if_success (with_reducible refine Halt.go ?_)); (first | ((with_reducible show wpAny _ _ (subscriptTail _ _ _ _) _ _ _); (k_here; k_dflt (refine' sub_tupc ?Nv94 ?mv94 ?av94 ?bv94 ?cv94 ?xv94 ?_; (case Nv94 => k_asm); (case mv94 => first | assumption | repeat (first | assumption | apply List.Mem.tail)); (case av94 => decide); (case bv94 => (simp only [List.length_cons, List.length_nil]; omega)); (case cv94 => (simp only [List.length_cons, List.length_nil]; omega)); (case xv94 => rfl); k_whole))) | ((with_reducible show wpAny _ _ (call _ _) _ _ _); (k_here; k_dflt (refine' kdg_get2 (knd := PySem.intKind _ _) ?Nv93 ?mv93 ?dv93 ?lv93 (intKind_is _ _ _ _) (some _) ?vv93 ?_; (case Nv93 => k_asm); (case mv93 => first | assumption | repeat (first | assumption | apply List.Mem.tail)); (case dv93 => assumption); (case lv93 => assumption); (case vv93 => assumption); (try dsimp only [Option.getD])))) | ((with_reducible show wpAny _ _ (getMethod _ _ _) _ _ _); (k_here; k_dflt (refine' kdg_method (knd := PySem.intKind _ _) ?Nv92 ?mv92 ?dv92 ?_; (case Nv92 => k_asm); (case mv92 => first | assumption | repeat (first | assumption | apply List.Mem.tail)); (case dv92 => assumption)))) | fail); (all_goals k_steps)))
  refine own_read (by k_asm) (by k_asm) (by k_asm) hI sub h6 (by k_is) (by k_is) (by k_is) (by k_is) rfl ?_
  (k_steps; repeat' ((fail_if_success (with_reducible refine Halt.go ?_)); (first | ((with_reducible show wpAny _ _ (subscriptTail _ _ _ _) _ _ _); (k_here; k_dflt (refine' sub_tupc ?Nv94 ?mv94 ?av94 ?bv94 ?cv94 ?xv94 ?_; (case Nv94 => k_asm); (case mv94 => first | assumption | repeat (first | assumption | apply List.Mem.tail)); (case av94 => decide); (case bv94 => (simp only [List.length_cons, List.length_nil]; omega)); (case cv94 => (simp only [List.length_cons, List.length_nil]; omega)); (case xv94 => rfl); k_whole))) | ((with_reducible show wpAny _ _ (call _ _) _ _ _); (k_here; k_dflt (refine' kdg_get2 (knd := PySem.intKind _ _) ?Nv93 ?mv93 ?dv93 ?lv93 (intKind_is _ _ _ _) (some _) ?vv93 ?_; (case Nv93 => k_asm); (case mv93 => first | assumption | repeat (first | assumption | apply List.Mem.tail)); (case dv93 => assumption); (case lv93 => assumption); (case vv93 => assumption); (try dsimp only [Option.getD])))) | ((with_reducible show wpAny _ _ (getMethod _ _ _) _ _ _); (k_here; k_dflt (refine' kdg_method (knd := PySem.intKind _ _) ?Nv92 ?mv92 ?dv92 ?_; (case Nv92 => k_asm); (case mv92 => first | assumption | repeat (first | assumption | apply List.Mem.tail)); (case dv92 => assumption)))) | fail); (all_goals k_steps)))
  all_goals first | exact none | skip
  refine' ret _ _ _ [] [] ?e1 ?e2 lt_tl0 ⟨rfl, rfl, ?e4⟩
  case e1 => k_asm
  case e2 => k_asm
  case e4 => exact ⟨_, rfl⟩
end
theorem fontin_of {w : World} {font : Addr} {fr0 : Led} {kvs : List (Int × Value)} (hf : FontAt w fr0 kvs (.ref font)) : FontIn w.params fr0 font := by
  obtain ⟨dc, oc, fs, tn, hD, hmc, lo, hI, h5, h6, h7⟩ := hf
  exact ⟨fs, tn, hI, h5⟩
end
section
theorem none_calls (w : World) (t : Tok) (fr : Led) : CallsTo w 527 [.none, .int 40 t] [] fr 2 24 (fun r mu' tl => mu' = [] ∧ tl = [] ∧ ∃ t, r = .int (-1073741823) t) := by
  intro prog p loose mean mg mb A env outer A₀ base h₀ L m s Q E B F X N T hh hA hf hk hd hu ret; obtain ⟨hd0, dp, frm, gd, un⟩ := A; obtain ⟨hp0, gs0, dr0, tk0, os0⟩ := s; dsimp only at hh hA hd hu F N ret; subst hh hA; have hSt := StK.mk gs0 dr0 os0; (try simp only [List.cons_append, List.nil_append] at N)
  refine wpAny_call ?_; k_dflt (refine' code_def (binds := [(Str.ofString "line", .none), (Str.ofString "quad", .int 40 t)]) ?k1 ?k2 ?k3 ?k4 ?k5 ?kA ?kF ?kK ?k6 ?k7 ?k8 ?k9 ?kB ?_ ?c2 ?c3 ?c4 ?c5; (case kA => exact rfl); (case kF => first | assumption | exact rfl); (case kK => first | assumption | exact rfl); (case k1 => k_asm); (case k2 => k_asm); (case k3 => k_asm); (case k4 => k_asm); (case k5 => k_asm); (case k6 => k_is); (case k7 => k_is); (case k8 => (walk_at "my room")); (case k9 => first | exact BindsTo.of_eq rfl | exact binds_K (by k_in) rfl (by k_is) rfl rfl rfl); (case c5 => decide); (case kB => exact locs rfl); (case c2 => exact rfl); (case c3 => exact rfl); (case c4 => exact rfl); k_whole; intro g' L' h' FG' F' N' B' X' T'; (refine gen_tk fun tk1 => ?_); (try dsimp only at N'); (try dsimp only); (try k_fold))
  k_steps
  all_goals first | exact none | skip
  all_goals (refine' ret _ _ _ [] [] ?e1 ?e2 lt_tl0 ⟨rfl, rfl, ?e4⟩; (case e1 => k_asm); (case e2 => k_asm); (case e4 => exact ⟨_, rfl⟩))
theorem none_use {prog : Program} {w : World} {news : Led} {p : Program} {loose : List Str} {mean : ExcName → Option Value} {mg mb : Str → Option Value} {A : Around} {env : Env} {outer : List Env} {A₀ : Around} {base h₀ : Heap} {L : Addr} {m : Str → Option Value} {hp : Heap} {gs : Array GenState} {dr : Drawn} {tk0 : Nat} {os : OsState} {Q E : Value → Shared → Prop} {t0 : Tok}
    (B : Below A₀ base outer h₀) (F : Fr h₀ L hp m) (X : (K w.params).In h₀) (N : News h₀ L hp news) (T : Top p loose mean mg mb h₀) (hh : A.handled = none) (hA : A.frames = some (env :: outer)) (hf : env.frame = some L) (hk : env.scope.kind = .function)
    (hd : A.depth + 2 < recursionLimit) (hu : A.units + 24 < cLine)
    (ret : ∀ t h' tk', Fr h₀ L h' m → News h₀ L h' news → Q (.int (-1073741823) t) ⟨h', gs, dr, tk', os⟩) : wpAny (model prog w) A (call (.ref 527) [.none, .int 40 t0]) Q E ⟨hp, gs, dr, tk0, os⟩ := by
  refine none_calls w t0 news prog p loose mean mg mb A env outer A₀ base h₀ L m ⟨hp, gs, dr, tk0, os⟩ Q E B F X N T hh hA hf hk hd hu ?_
  rintro r h' tk' _ _ F' N' _ ⟨rfl, rfl, t, rfl⟩
  exact ret t h' tk' F' N'
theorem font_use {prog : Program} {w : World} {news : Led} {p : Program} {loose : List Str} {mean : ExcName → Option Value} {mg mb : Str → Option Value} {A : Around} {env : Env} {outer : List Env} {A₀ : Around} {base h₀ : Heap} {L la : Addr} {lk : Nat} {rs : List Value} {m : Str → Option Value} {hp : Heap} {gs : Array GenState} {dr : Drawn} {tk0 : Nat} {os : OsState} {Q E : Value → Shared → Prop} {t1 : Tok} (hm : (la, listOf rs.toArray lk) ∈ news) (hr : All2 (RawIn news) rs rows4)
    (B : Below A₀ base outer h₀) (F : Fr h₀ L hp m) (X : (K w.params).In h₀) (N : News h₀ L hp news) (T : Top p loose mean mg mb h₀) (hh : A.handled = none) (hA : A.frames = some (env :: outer)) (hf : env.frame = some L) (hk : env.scope.kind = .function)
    (hd : A.depth + 30 < recursionLimit) (hu : A.units + 500 < cLine)
    (ret : ∀ font kvs h' tk' tl, Fr h₀ L h' m → News h₀ L h' (tl ++ news) → (∀ q ∈ tl, LCg.Off1 q.1 news) → FontAt w tl kvs (.ref font) → All2 (PairX tl) kvs rows4 → Q (.ref font) ⟨h', gs, dr, tk', os⟩) : wpAny (model prog w) A (call (.ref 697) [.int 1 t1, .ref la]) Q E ⟨hp, gs, dr, tk0, os⟩ := by
  refine font_calls w la lk rs t1 news hm hr prog p loose mean mg mb A env outer A₀ base h₀ L m ⟨hp, gs, dr, tk0, os⟩ Q E B F X N T hh hA hf hk hd hu ?_
  rintro r h' tk' _ tl F' N' o' ⟨rfl, kvs, hfa, hx⟩
  have hr : ∃ y, r = .ref y := by obtain ⟨_, _, _, _, _, _, _, hI, _⟩ := hfa; exact hI.isRef
  obtain ⟨font, rfl⟩ := hr
  exact ret font kvs h' tk' tl F' N' o' hfa hx
theorem raw_mono {l l' : Led} (s : ∀ p ∈ l, p ∈ l') {rs : List Value} {cs : List (Int × Int)} (h : All2 (RawIn l) rs cs) : All2 (RawIn l') rs cs := by
  induction h with
  | nil => exact .nil
  | cons x _ ih =>
    obtain ⟨a, t0, t1, t2, t3, n, e, m⟩ := x
    exact .cons ⟨a, t0, t1, t2, t3, n, e, s _ m⟩ ih
theorem sub_K {prog : Program} {w : World} {A : Around} {E : Value → Shared → Prop} {s : Shared} {h₀ : Heap} {L a : Addr} {m : Str → Option Value} {Q : Value → Shared → Prop} {value slice : Expr} {vs : List Value} {n : Nat} {k : Int} {u : Tok} {v : Value} (F : Fr h₀ L s.heap m) (X : (K w.params).In h₀) (e : (K w.params).lookup a = some (tupO vs n)) (h0 : 0 ≤ k) (hk : k < vs.length) (hs8 : vs.length ≤ 8)
    (hx : vs[k.toNat]? = some v) (h : Q v s) (hs : subscripted slice false (.ref a) (.int k u) = operate [.ref a, .int k u] (getItem (.ref a) (.int k u)) := by with_unfolding_all rfl) :
    wpAny (model prog w) A (subscriptTail value slice (.ref a) (.int k u)) Q E s := by
  have T : IsTup s.heap a vs.toArray := ⟨_, getK X F e, rfl, n, rfl⟩
  have hq : seqIndex? k vs.toArray.size = some k.toNat := by
    have e : (if k < 0 then k + (vs.length : Int) else k) = k := if_neg (by omega)
    unfold seqIndex?
    rw [List.size_toArray]
    simp only [e]
    exact if_pos (by simp only [h0, hk, decide_true, Bool.and_self])
  exact tail_any T.typeIs slot_tuple_getitem.lookup (getItem_tuple T (by omega) (by omega) hq (by simpa using hx) h) hs
theorem list_keep {h₀ g : Heap} {L sa : Addr} {m : Str → Option Value} {its : Array Value} (hL : h₀.IsList sa its) (F : Fr h₀ L g m) : g.IsList sa its := by
  obtain ⟨o, e, r⟩ := hL
  exact ⟨o, F.keep _ _ e, r⟩
section
theorem zero_get {k : Int} {x : Value} (h : k = 0) : [x][k.toNat]? = some x := by subst h; rfl
theorem cell_calls (w : World) (sa : Addr) (vs : List Value) (ns : List Int) (k : Int) (tk : Tok) (hI : IntsAre vs ns) (hl : ns.length ≤ 63) (hk0 : 0 ≤ k) (hkl : k < ns.length ∨ k = 0) (fr : Led) (prog : Program) (p : Program) (loose : List Str) (mean : ExcName → Option Value) (mg mb : Str → Option Value)
    (A : Around) (env : Env) (outer : List Env) (A₀ : Around) (base h₀ : Heap) (L : Addr) (m : Str → Option Value) (s : Shared) (Q E : Value → Shared → Prop) (hL : h₀.IsList sa vs.toArray) :
    Below A₀ base outer h₀ → Fr h₀ L s.heap m → (K w.params).In h₀ → News h₀ L s.heap ([] ++ fr) → Top p loose mean mg mb h₀ → A.handled = none → A.frames = some (env :: outer) → env.frame = some L → env.scope.kind = .function → A.depth + 4 < recursionLimit → A.units + 60 < cLine →
    (∀ c t h' tk', Fr h₀ L h' m → News h₀ L h' fr → 0 ≤ c → Q (.int c t) { s with heap := h', toks := tk' }) →
    wpAny (model prog w) A (call (.ref 719) [.ref sa, .int k tk]) Q E s := by
  intro B F X N T hh hA hf hk hd hu ret; obtain ⟨hd0, dp, frm, gd, un⟩ := A; obtain ⟨hp0, gs0, dr0, tk0, os0⟩ := s; dsimp only at hh hA hd hu F N ret; subst hh hA; (try simp only [List.cons_append, List.nil_append] at N)
  refine wpAny_call ?_; k_dflt (refine' code_def (binds := [(Str.ofString "script", .ref sa), (Str.ofString "k", .int k tk)]) ?k1 ?k2 ?k3 ?k4 ?k5 ?kA ?kF ?kK ?k6 ?k7 ?k8 ?k9 ?kB ?_ ?c2 ?c3 ?c4 ?c5; (case kA => exact rfl); (case kF => first | assumption | exact rfl); (case kK => first | assumption | exact rfl); (case k1 => k_asm); (case k2 => k_asm); (case k3 => k_asm); (case k4 => k_asm); (case k5 => k_asm); (case k6 => k_is); (case k7 => k_is); (case k8 => (walk_at "my room")); (case k9 => first | exact BindsTo.of_eq rfl | exact binds_K (by k_in) rfl (by k_is) rfl rfl rfl); (case c5 => decide); (case kB => exact locs rfl); (case c2 => exact rfl); (case c3 => exact rfl); (case c4 => exact rfl); k_whole; intro g' L' h' FG' F' N' B' X' T'; (refine gen_tk fun tk1 => ?_); (try dsimp only at N'); (try dsimp only); (try k_fold))
  have hLg := list_keep hL FG'
  have hsz : ((vs.toArray.size : Nat) : Int) < 2 ^ 63 := by rw [List.size_toArray, hI.length]; omega
  have hsz2 : ((vs.toArray.size : Nat) : Int) = ns.length := by rw [List.size_toArray, hI.length]
  (k_steps; repeat' ((fail_if_success (with_reducible refine Halt.go ?_)); (first | ((with_reducible show wpAny _ _ (subscriptTail _ _ _ _) _ _ _); (k_here; k_dflt (first | (refine' item_list_ints ?lv96 ?iv96 ?av96 ?bv96 ?cv96 ?_; (case lv96 => exact list_keep (by assumption) (by k_asm)); (case iv96 => assumption); (case av96 => omega); (case bv96 => omega); (case cv96 => omega); intro t'q) | (refine' sub_K ?Fv96 ?Xv96 ?ev96 ?av96 ?bv96 ?cv96 ?xv96 ?_; (case Fv96 => k_asm); (case Xv96 => k_asm); (case ev96 => exact rfl); (case av96 => omega); (case bv96 => (simp only [List.length_cons, List.length_nil]; omega)); (case cv96 => decide); (case xv96 => exact zero_get (by omega)))))) | ((with_reducible show wpAny _ _ (call _ _) _ _ _); (k_here; k_dflt (refine' PyProof.Rows.len_list ?lv95 ?zv95 ?_; (case lv95 => exact list_keep (by assumption) (by k_asm)); (case zv95 => assumption)))) | fail); (all_goals k_steps)))
  all_goals first | exact none | skip
  · exact ret _ _ _ _ (by k_asm) (by k_asm) (by split <;> omega)
  · exact ret _ _ _ _ (by k_asm) (by k_asm) (by rw [show k.toNat = 0 by omega]; decide)
end
theorem bag_use {prog : Program} {w : World} {news : Led} {p : Program} {loose : List Str} {mean : ExcName → Option Value} {mg mb : Str → Option Value} {A : Around} {env : Env} {outer : List Env} {A₀ : Around} {base h₀ : Heap} {L : Addr} {m : Str → Option Value} {hp : Heap} {gs : Array GenState} {dr : Drawn} {tk0 : Nat} {os : OsState} {Q E : Value → Shared → Prop} {c : Int} {t : Tok} (C : ∀ fr, CallsTo w 726 [.int c t] [] fr 4 60 (fun r mu' tl => mu' = [] ∧ ∃ b b0 b1 t0 t1 t2 ep, r = .ref b ∧ tl = [(b, bagO b0 b1 0 t0 t1 t2 ep)] ∧ 0 ≤ b0 ∧ 0 ≤ b1 ∧ b1 < 2147483629))
    (B : Below A₀ base outer h₀) (F : Fr h₀ L hp m) (X : (K w.params).In h₀) (N : News h₀ L hp news) (T : Top p loose mean mg mb h₀) (hh : A.handled = none) (hA : A.frames = some (env :: outer)) (hf : env.frame = some L) (hk : env.scope.kind = .function)
    (hd : A.depth + 4 < recursionLimit) (hu : A.units + 60 < cLine)
    (ret : ∀ b b0 b1 t0 t1 t2 ep h' tk', Fr h₀ L h' m → News h₀ L h' ((b, bagO b0 b1 0 t0 t1 t2 ep) :: news) → (∀ q ∈ news, q.1 ≠ b) → 0 ≤ b0 → 0 ≤ b1 → b1 < 2147483629 → Q (.ref b) ⟨h', gs, dr, tk', os⟩) : wpAny (model prog w) A (call (.ref 726) [.int c t]) Q E ⟨hp, gs, dr, tk0, os⟩ := by
  refine C news prog p loose mean mg mb A env outer A₀ base h₀ L m ⟨hp, gs, dr, tk0, os⟩ Q E B F X N T hh hA hf hk hd hu ?_
  rintro r h' tk' _ _ F' N' o' ⟨rfl, b, b0, b1, t0, t1, t2, ep, rfl, rfl, h0, h1, h2⟩
  exact ret b b0 b1 t0 t1 t2 ep h' tk' F' N' (fun q hq => Off1mem (o' _ (.head _)) q hq) h0 h1 h2
theorem bag_calls (w : World) (c : Int) (t : Tok) (h : 0 ≤ c) (fr : Led) : CallsTo w 726 [.int c t] [] fr 4 60 (fun r mu' tl => mu' = [] ∧ ∃ b b0 b1 t0 t1 t2 ep, r = .ref b ∧ tl = [(b, bagO b0 b1 0 t0 t1 t2 ep)] ∧ 0 ≤ b0 ∧ 0 ≤ b1 ∧ b1 < 2147483629) := by
  intro prog p loose mean mg mb A env outer A₀ base h₀ L m s Q E B F X N T hh hA hf hk hd hu ret; obtain ⟨hd0, dp, frm, gd, un⟩ := A; obtain ⟨hp0, gs0, dr0, tk0, os0⟩ := s; dsimp only at hh hA hd hu F N ret; subst hh hA; have hSt := StK.mk gs0 dr0 os0; (try simp only [List.cons_append, List.nil_append] at N)
  refine wpAny_call ?_; k_dflt (refine' code_def (binds := [(Str.ofString "cell", .int c t)]) ?k1 ?k2 ?k3 ?k4 ?k5 ?kA ?kF ?kK ?k6 ?k7 ?k8 ?k9 ?kB ?_ ?c2 ?c3 ?c4 ?c5; (case kA => exact rfl); (case kF => first | assumption | exact rfl); (case kK => first | assumption | exact rfl); (case k1 => k_asm); (case k2 => k_asm); (case k3 => k_asm); (case k4 => k_asm); (case k5 => k_asm); (case k6 => k_is); (case k7 => k_is); (case k8 => (walk_at "my room")); (case k9 => first | exact BindsTo.of_eq rfl | exact binds_K (by k_in) rfl (by k_is) rfl rfl rfl); (case c5 => decide); (case kB => exact locs rfl); (case c2 => exact rfl); (case c3 => exact rfl); (case c4 => exact rfl); k_whole; intro g' L' h' FG' F' N' B' X' T'; (refine gen_tk fun tk1 => ?_); (try dsimp only at N'); (try dsimp only); (try k_fold))
  k_steps
  refine' ret _ _ _ [] [_] ?e1 ?e2 ?e3 ⟨rfl, _, _, _, _, _, _, _, rfl, rfl, ?e4, ?e5, ?e6⟩
  case e1 => k_asm
  case e2 => k_asm
  case e3 => exact List.forall_mem_cons.mpr ⟨Off1of fun p hp => Nat.ne_of_lt ((by assumption : ∀ p ∈ fr, p.1 < _) p hp), List.forall_mem_nil _⟩
  case e4 => exact fmod_nn (by decide)
  case e5 => exact fmod_nn (by decide)
  case e6 => exact fmod_lt (by decide)
def RowTurn (h₀ : Heap) (L : Addr) (m : Str → Option Value) (s : Shared) (c : Int × Int) (old : Led) (y : Value) (s' : Shared) : Prop :=
  ∃ h' tk' T k t0 t1 t2 t3, y = .ref T ∧ s' = { s with heap := h', toks := tk' } ∧ Fr h₀ L h' m ∧ News h₀ L h' ((T, tupO [.int c.1 t0, .int c.2 t1, .int 5 t2, .int 0 t3] k) :: old) ∧ (∀ p ∈ old, p.1 < T)
theorem RowTurn.mk {h₀ h' : Heap} {L T : Addr} {m : Str → Option Value} {s : Shared} {c : Int × Int} {old : Led} {tk' k : Nat} {t0 t1 t2 t3 : Tok} {v : Value} (F : Fr h₀ L h' m) (N : News h₀ L h' ((T, tupO [v, .int c.2 t1, .int 5 t2, .int 0 t3] k) :: old)) (hv : v = .int c.1 t0) (lt : AllLt T old) : RowTurn h₀ L m s c old (.ref T) { s with heap := h', toks := tk' } := by
  subst hv
  exact ⟨h', tk', T, k, t0, t1, t2, t3, rfl, rfl, F, N, fun p hp => ktn_ltOf lt p hp⟩
theorem src_rows {prog : Program} {w : World} {A : Around} {E : Value → Shared → Prop} {s : Shared} {h₀ : Heap} {L : Addr} {m : Str → Option Value} {env : Env} {elt : Expr} {x x₂ : Str} {scope : Scope} {cl : List (Str × Addr)} {Q : Value → Shared → Prop} {ax : Addr} {vs : List Value} {kt : Nat} {base : Led} (hh : A.handled = none) (F : Fr h₀ L s.heap m) (N : News h₀ L s.heap base) (hax : (ax, tupO vs kt) ∈ base) (hv : All2 (fun v (c : Int × Int) => ∃ t, v = Value.int c.2 t) vs rows4)
    (turn : ∀ (g : Heap) (i : Nat) (c : Int × Int) t t2 ys tl e oe I oI C oC D m₂ h tk (E' : Value → Shared → Prop), c.1 = 65 + (i : Int) → LCg.NsObj oC m₂ → m₂ x = some (.int (i : Int) t) → m₂ x₂ = some (.int c.2 t2) → Fr h₀ L h m → News h₀ L h ((e, oe) :: (I, oI) :: (C, oC) :: (D, LCg.lst ys) :: (tl ++ base)) →
      wpAny (model prog w) A (eval elt (compEnvC scope cl C env)) (RowTurn h₀ L m s c ((e, oe) :: (I, oI) :: (C, oC) :: (D, LCg.lst ys) :: (tl ++ base))) E' { s with heap := h, toks := tk })
    (fin : ∀ (g : Heap) ys tl, All2 (RawIn tl) ys rows4 → (∀ q ∈ tl, LCg.Off1 q.1 base) → LCg.FinE h₀ L m { s with heap := g } Q ys (tl ++ base)) :
    wpAny (model prog w) A (call (.type "enumerate") [.ref ax]) (SrcE prog w A h₀ L m env elt x x₂ scope cl Q) E s := by
  refine src_enum (fun i ys tl => All2 (RawIn tl) ys (rows4.take i) ∧ ∀ q ∈ tl, LCg.Off1 q.1 base) hh F N hax (by rw [hv.length, sizeLine_eq]; decide) ⟨.nil, fun _ h => nomatch h⟩ ?_ ?_
  · rintro g i t v ys tl e oe I oI C oC D m₂ h tk E' hvi ⟨hx, ho⟩ hC h1 h2 F' N' off ne
    obtain ⟨c, hc, t2, rfl⟩ := hv.get hvi
    have hc1 : c.1 = 65 + (i : Int) := by
      have hi : i = 0 ∨ i = 1 ∨ i = 2 ∨ i = 3 := by
        obtain ⟨hlt, _⟩ := List.getElem?_eq_some_iff.mp hc
        have hlt : i < 4 := hlt
        omega
      rcases hi with rfl | rfl | rfl | rfl <;> (cases hc; rfl)
    refine wpAny_mono (turn g i c t t2 ys tl e oe I oI C oC D m₂ h tk E' hc1 hC h1 h2 F' N') (fun y s' hy => ?_) fun _ _ e => e
    obtain ⟨h', tk', T, k, t0, t1, t2, t3, rfl, rfl, F2, N2, lt⟩ := hy
    have old : ∀ p ∈ tl ++ base, p.1 < T := fun p hp => lt p (.tail _ (.tail _ (.tail _ (.tail _ hp))))
    refine ⟨h', tk', (T, tupO [.int c.1 t0, .int c.2 t1, .int 5 t2, .int 0 t3] k) :: tl, rfl, F2, news_sub N2 fun p hp => ?_, ?_, ?_, ?_⟩
    · simp only [List.cons_append, List.mem_cons] at hp ⊢
      rcases hp with h | h | h | h | h | h <;> simp [h]
    · intro p hp
      rcases List.mem_cons.mp hp with rfl | hp
      · exact ⟨Ne.symm (Nat.ne_of_lt (lt (e, oe) (.head _))), Ne.symm (Nat.ne_of_lt (lt (I, oI) (.tail _ (.head _)))), Ne.symm (Nat.ne_of_lt (lt (C, oC) (.tail _ (.tail _ (.head _))))), Ne.symm (Nat.ne_of_lt (lt (D, LCg.lst ys) (.tail _ (.tail _ (.tail _ (.head _))))))⟩
      · exact off p (List.mem_append_left _ hp)
    · rw [List.take_add_one, hc]
      exact (raw_mono (fun p hp => .tail _ hp) hx).snoc ⟨T, t0, t1, t2, t3, k, rfl, .head _⟩
    · intro q hq
      rcases List.mem_cons.mp hq with rfl | hq
      · exact Off1of fun p hp => Nat.ne_of_lt (old p (List.mem_append_right _ hp))
      · exact ho q hq
  · rintro g ys tl ⟨hx, ho⟩
    have e : rows4.take vs.length = rows4 := by rw [hv.length]; exact List.take_length
    rw [e] at hx
    exact fin g ys tl hx ho
end
section
abbrev envL (L fa : Addr) (cd : Value) : Env := envOfC (Str.ofString "law") (dS (st 83)) L fa cd
def loopB : List Stmt := match nth (dB (st 83)) 2 with
  | .For _ _ b _ _ => b
  | _ => []
def seqA (rest : List Stmt) : List Stmt := match loopB with
  | a :: b :: _ => a :: b :: rest
  | _ => rest
def seqB (rest : List Stmt) : List Stmt := match loopB with
  | _ :: _ :: a :: b :: _ => a :: b :: rest
  | _ => rest
def seqC : List Stmt := match loopB with
  | _ :: _ :: _ :: _ :: l => l
  | _ => []
def seqC1 (rest : List Stmt) : List Stmt := match seqC with
  | a :: b :: _ => a :: b :: rest
  | _ => rest
def seqD : List Stmt := match seqC with
  | _ :: _ :: l => l
  | _ => []
theorem loopB_eq : loopB = seqA (seqB (seqC1 seqD)) := rfl
abbrev lawE (w : World) (L fa : Addr) (cd : Value) (E : Value → Shared → Prop) : Value → Shared → Prop := fun e s' => wpAny (model rwL.row.prog w) (callerA.deeper (envL L fa cd)) (leaving (envL L fa cd) e) (fun x s'' => E e s'') (fun e' s'' => E e' s'') s'
theorem part_use {prog : Program} {w : World} {news : Led} {p : Program} {loose : List Str} {mean : ExcName → Option Value} {mg mb : Str → Option Value} {A : Around} {env : Env} {outer : List Env} {A₀ : Around} {base h₀ : Heap} {L : Addr} {m : Str → Option Value} {hp : Heap} {gs : Array GenState} {dr : Drawn} {tk0 : Nat} {os : OsState} {Q E : Value → Shared → Prop} {bag : Addr} {b0 b1 b2 : Int} {t0 t1 t2 td : Tok} {ep : Nat} {g : Obj → Led} (U : UpdF bag (bagO b0 b1 b2 t0 t1 t2 ep) news g)
    (B : Below A₀ base outer h₀) (F : Fr h₀ L hp m) (X : (K w.params).In h₀) (N : News h₀ L hp news) (T : Top p loose mean mg mb h₀) (hh : A.handled = none) (hA : A.frames = some (env :: outer)) (hf : env.frame = some L) (hk : env.scope.kind = .function)
    (hd : A.depth + 8 < recursionLimit) (hu : A.units + 160 < cLine) (h0 : 0 ≤ b0) (h1 : 0 ≤ b1) (h1' : b1 < 2147483647) (h2 : 0 ≤ b2) (h2' : b2 < 800000)
    (ret : ∀ r h' tk' tl c0 c2 u0 u1 u2 ep' x, Fr h₀ L h' m → News h₀ L h' (tl ++ g (bagO c0 b1 c2 u0 u1 u2 ep')) → (∀ q ∈ tl, LCg.Off1 q.1 news) → 0 ≤ c0 → 0 ≤ c2 → c2 ≤ b2 + 30 → PartIn tl r x → Q r ⟨h', gs, dr, tk', os⟩) : wpAny (model prog w) A (call (.ref 738) [.ref bag, .int 0 td]) Q E ⟨hp, gs, dr, tk0, os⟩ := by
  refine CallsTo.use1 U (part0 w bag b0 b1 b2 t0 t1 t2 ep td h0 h1 h1' h2 h2') B F X N T hh hA hf hk hd hu ?_
  rintro r h' tk' o' tl F' N' lt ⟨c0, c2, u0, u1, u2, ep', x, rfl, q1, q2, q3, q4⟩
  exact ret r h' tk' tl c0 c2 u0 u1 u2 ep' x F' N' lt q1 q2 q3 q4
theorem mem_cell {h₀ h : Heap} {L : Addr} {p1 p2 p3 p4 x : Addr × Obj} {fr : Led} (_ : News h₀ L h (p1 :: p2 :: p3 :: p4 :: fr)) (m : x ∈ fr) : x ∈ p1 :: p2 :: p3 :: p4 :: fr := .tail _ (.tail _ (.tail _ (.tail _ m)))
theorem news_turn {h₀ h : Heap} {L : Addr} {p1 p2 p3 : Addr × Obj} {tl base : Led} (N : News h₀ L h (p1 :: p2 :: (tl ++ (p3 :: base)))) : News h₀ L h (p2 :: p3 :: p1 :: (tl ++ base)) := news_sub N fun p hp => by
  simp only [List.mem_cons, List.mem_append] at hp ⊢
  rcases hp with h | h | h | h | h <;> simp [h]
theorem off_turn {b D c : Addr} {o1 oD oc : Obj} {tl base : Led} (om : LCg.Off1 D ((b, o1) :: (tl ++ ((c, oc) :: base)))) (lt : ∀ q ∈ tl, q.1 ≠ b ∧ LCg.Off1 q.1 ((c, oc) :: base)) (h1 : @Ne Nat c b) (h2 : ∀ q ∈ base, q.1 ≠ b) : ∀ q ∈ (c, oc) :: (D, oD) :: (tl ++ base), q.1 ≠ b := fun q hq => by
  rcases List.mem_cons.mp hq with rfl | hq
  · exact h1
  rcases List.mem_cons.mp hq with rfl | hq
  · exact Ne.symm om.1
  rcases List.mem_append.mp hq with hq | hq
  · exact (lt q hq).1
  · exact h2 q hq
section
local macro_rules | `(tactic| walk_at "exec Assign cons ListComp") => `(tactic| refine halt_of ?_)
local macro_rules | `(tactic| walk_at "eval ListComp") => `(tactic| refine halt_of ?_)
local macro_rules | `(tactic| walk_at "CompSrc") => `(tactic| refine halt_of ?_)
local macro_rules | `(tactic| walk_at "CompSrcT") => `(tactic| refine halt_of ?_)
local macro_rules | `(tactic| walk_at "call ref") => `(tactic| refine halt_of ?_)
set_option maxHeartbeats 8000000 in
theorem turn_a (w : World) (p : Program) (loose : List Str) (mean : ExcName → Option Value) (mg mb : Str → Option Value) (h₀ h : Heap) (gs0 : Array GenState) (dr0 : Drawn) (tk : Nat) (os0 : OsState) (L fa : Addr) (cd : Value) (sa : Addr) (vs : List Value) (ns : List Int) (hL : h₀.IsList sa vs.toArray) (hI : IntsAre vs ns) (hz : ns.length ≤ 63)
    (K0 : Below callerA h₀ [] h₀) (X : (K w.params).In h₀) (T : Top p loose mean mg mb h₀) (i : Int) (ti : Tok) (hi0 : 0 ≤ i) (hi : i < ns.length ∨ i = 0) (g : Str → Option Value) (F : Fr h₀ L h (fun y => if y = Str.ofString "k" then some (.int i ti) else if y = Str.ofString "script" then some (.ref sa) else g y))
    (oB : Obj) (base : Led) (N : News h₀ L h ((L + 1 + 1, oB) :: base)) (offB : ∀ q ∈ base, q.1 ≠ L + 1 + 1) (vB : Option Value) (hB : oB.data = .cell vB) (Q : Flow → Shared → Prop) (E : Value → Shared → Prop) (rest : List Stmt)
    (ret : ∀ h' tk' b d0 b1 d2 v0 v1 v2 ep oB' Dp lk ys ps tlp, Fr h₀ L h' (fun y => if y = Str.ofString "parts" then some (.ref Dp) else if y = Str.ofString "k" then some (.int i ti) else if y = Str.ofString "script" then some (.ref sa) else g y) →
      News h₀ L h' ((b, bagO d0 b1 d2 v0 v1 v2 ep) :: (L + 1 + 1, oB') :: (Dp, listOf ys.toArray lk) :: (tlp ++ base)) → oB'.data = .cell (some (.ref b)) → (∀ q ∈ (L + 1 + 1, oB') :: (Dp, listOf ys.toArray lk) :: (tlp ++ base), q.1 ≠ b) → (∀ q ∈ tlp, LCg.Off1 q.1 base) → ys.length ≤ 8 → All2 (PartIn tlp) ys ps → 0 ≤ d0 → 0 ≤ b1 → b1 < 2147483629 → 0 ≤ d2 → d2 ≤ 400 →
      wpAny (model rwL.row.prog w) (callerA.deeper (envL L fa cd)) (execs rest (envL L fa cd)) Q (lawE w L fa cd E) ⟨h', gs0, dr0, tk', os0⟩) :
    wpAny (model rwL.row.prog w) (callerA.deeper (envL L fa cd)) (execs (seqA rest) (envL L fa cd)) Q (lawE w L fa cd E) ⟨h, gs0, dr0, tk, os0⟩ := by
  have hR : 900 ≤ recursionLimit := by decide
  have hC9 : 9000 ≤ cLine := by decide
  (k_steps; repeat' (first | ((with_reducible refine Halt.go ?_); (first | (k_here; k_dflt (refine src_range (by rfl) (by k_asm) (by k_asm) (by assumption) (small_one (by omega) (by omega) (by omega) (by omega)) (rangeSize_nat _ _) (by rw [PySem.sizeLine_eq]; omega) ?_)) | (k_here; k_dflt (first | refine src_rangeT (by rfl) (by k_asm) (by k_asm) (by assumption) (small_one (by omega) (by omega) (by omega) (by omega)) (rangeSize_nat _ _) (by rw [PySem.sizeLine_eq]; omega) ?_ | refine src_listT (by rfl) (by k_asm) (by k_asm) (by k_mem) (by rw [PySem.sizeLine_eq]; simp only [List.size_toArray]; omega) ?_)) | (k_here; k_dflt (first | refine src_range (by rfl) (by k_asm) (by k_asm) (by assumption) (small_one (by omega) (by omega) (by omega) (by omega)) (rangeSize_nat _ _) (by rw [PySem.sizeLine_eq]; omega) ?_ | refine src_list (by rfl) (by k_asm) (by k_asm) (by k_mem) (by rw [PySem.sizeLine_eq]; simp only [List.size_toArray]; omega) ?_)) | (k_here; (with_reducible show wpAny _ _ (eval (Expr.ListComp _ [⟨_, _, [_], _⟩] _ _) _) _ _ _); k_dflt (refine LCt.ListComp_T (F₀ := by k_asm) (by with_unfolding_all rfl) (by decide) (by rfl) (by decide) (by rfl) ?_)) | (k_here; (with_reducible show wpAny _ _ (eval (Expr.ListComp _ [⟨_, _, [], _⟩] _ _) _) _ _ _); k_dflt (refine LCg.ListComp_U (F₀ := by k_asm) (by with_unfolding_all rfl) (by decide) (by rfl) (by decide) (by rfl) ?_)) | (k_here; (with_reducible show wpAny _ _ (exec (Stmt.Assign _ (Expr.ListComp _ [⟨_, _, [_], _⟩] _ _) _) _) _ _ _); k_dflt (refine LCt.Assign_ListComp_T (F₀ := by k_asm) (by rfl) (by with_unfolding_all rfl) (by with_unfolding_all rfl) (by decide) (by rfl) (by decide) (by rfl) (by rfl) (by rfl) ?_)) | (k_here; (with_reducible show wpAny _ _ (exec (Stmt.Assign _ (Expr.ListComp _ [⟨_, _, [], _⟩] _ _) _) _) _ _ _); k_dflt (refine LCg.Assign_ListComp_U (F₀ := by k_asm) (by rfl) (by with_unfolding_all rfl) (by with_unfolding_all rfl) (by decide) (by rfl) (by decide) (by rfl) (by rfl) (by rfl) ?_)) | ((with_reducible show wpAny _ _ (call _ _) _ _ _); (first | (k_here; k_dflt (refine' bag_use ?pcv108 ?k1v108 ?k2v108 ?k3v108 ?k4v108 ?k5v108 ?kHv108 ?kAv108 ?kFv108 ?kKv108 ?kdv108 ?kuv108 ?_; (case k1v108 => k_asm); (case k2v108 => k_asm); (case k3v108 => k_asm); (case k4v108 => k_asm); (case k5v108 => k_asm); (case pcv108 => exact bag_calls _ _ _ (by assumption)); (case kHv108 => exact rfl); (case kAv108 => exact rfl); (case kFv108 => first | assumption | exact rfl); (case kKv108 => first | assumption | exact rfl); (case kdv108 => (walk_at "my room")); (case kuv108 => (walk_at "my room")); k_whole; (intro b'q b0'q b1'q t0'q t1'q t2'q ep'q h'q tk'q F'q N'q o'q q0'q q1'q q2'q); (obtain ⟨o1'q, o2'q⟩ := List.forall_mem_cons.mp o'q); (try clear o'q); (try dsimp only at o1'q); (replace o1'q := neN o1'q); (try k_sweep); (try k_fold))) | (k_here; k_dflt (refine' cell_calls _ _ _ _ _ _ ?piv107 ?plv107 ?p0v107 ?pkv107 _ _ _ _ _ _ _ _ _ _ _ _ _ _ _ _ _ _ ?pLv107 ?k1v107 ?k2v107 ?k3v107 ?k4v107 ?k5v107 ?kHv107 ?kAv107 ?kFv107 ?kKv107 ?kdv107 ?kuv107 ?_; (case k1v107 => k_asm); (case k2v107 => k_asm); (case k3v107 => k_asm); (case k4v107 => k_asm); (case k5v107 => k_asm); (case pLv107 => assumption); (case piv107 => assumption); (case plv107 => assumption); (case p0v107 => omega); (case pkv107 => omega); (case kHv107 => exact rfl); (case kAv107 => exact rfl); (case kFv107 => first | assumption | exact rfl); (case kKv107 => first | assumption | exact rfl); (case kdv107 => (walk_at "my room")); (case kuv107 => (walk_at "my room")); k_whole; (intro c'q t'q h'q tk'q F'q N'q hc'q); (try k_sweep); (try k_fold))) | (k_here; k_dflt (refine' part_use ?kUv106 ?k1v106 ?k2v106 ?k3v106 ?k4v106 ?k5v106 ?kHv106 ?kAv106 ?kFv106 ?kKv106 ?kdv106 ?kuv106 ?p1v106 ?p2v106 ?p3v106 ?p4v106 ?p5v106 ?_; (case k1v106 => k_asm); (case k2v106 => k_asm); (case k3v106 => k_asm); (case k4v106 => k_asm); (case kUv106 => k_updF); (case k5v106 => k_asm); (case kHv106 => exact rfl); (case kAv106 => exact rfl); (case kFv106 => first | assumption | exact rfl); (case kKv106 => first | assumption | exact rfl); (case kdv106 => (walk_at "my room")); (case kuv106 => (walk_at "my room")); (case p1v106 => omega); (case p2v106 => omega); (case p3v106 => omega); (case p4v106 => omega); (case p5v106 => omega); k_whole; (intro r'q h'q tk'q tl'q c0'q c2'q u0'q u1'q u2'q ep'q x'q F'q N'q lt'q p1'q p2'q p3'q hf'q); (try dsimp only at N'q); (try simp only [List.cons_append, List.nil_append] at N'q); (try k_sweep); (try k_fold))) | (k_here; k_dflt (refine' draw_use ?kUv104 ?k1v104 ?k2v104 ?k3v104 ?k4v104 ?k5v104 ?kHv104 ?kAv104 ?kFv104 ?kKv104 ?kdv104 ?kuv104 ?p1v104 ?p2v104 ?p3v104 ?p4v104 ?p5v104 ?p6v104 ?p7v104 ?_; (case k1v104 => k_asm); (case k2v104 => k_asm); (case k3v104 => k_asm); (case k4v104 => k_asm); (case kUv104 => k_updF); (case k5v104 => k_asm); (case kHv104 => exact rfl); (case kAv104 => exact rfl); (case kFv104 => first | assumption | exact rfl); (case kKv104 => first | assumption | exact rfl); (case kdv104 => (walk_at "my room")); (case kuv104 => (walk_at "my room")); (case p1v104 => omega); (case p2v104 => omega); (case p3v104 => omega); (case p4v104 => omega); (case p5v104 => omega); (case p6v104 => omega); (case p7v104 => omega); k_whole; (intro d'q td'q c0'q c2'q u0'q u1'q u2'q ep'q h'q tk'q F'q N'q p1'q p2'q p3'q p4'q p5'q); (try dsimp only at N'q); (try simp only [List.cons_append, List.nil_append] at N'q); (try k_sweep); (try k_fold))) | fail)) | fail); (all_goals k_steps)) | ((fail_if_success (with_reducible refine Halt.go ?_)); (first | (k_here; (with_reducible show wpAny _ _ (eval (Expr.Name _ _) (compEnvC _ _ _ _)) _ _ _); k_dflt (refine' lcf_free ?Nv103 ?cv103 ?mv103 ?dv103 ?_ ?av103 ?bv103; (case av103 => rfl); (case bv103 => rfl); (case Nv103 => k_asm); (case cv103 => rfl); (case mv103 => assumption); (case dv103 => assumption); k_whole)) | fail); (all_goals k_steps))))
  refine Halt.go (fun g' => ?_)
  refine comp_bag (R := PartIn) PartIn.mono 30 400 ?hK ?h0 ?h2 ?hM ?offb ?turn ?fin
  case hK => omega
  case h0 => omega
  case h2 => omega
  case hM => omega
  case offb => exact List.forall_mem_cons.mpr ⟨by assumption, by assumption⟩
  case turn =>
    intro i v ys I oI C oC D m₂ h tk E' d0 d2 v0 v1 v2 ep' fr2 hi g0 g2 gM off2 sub2 hv hC hx F2 N2 off3 ne3
    have hcell := mem_cell N2 (sub2 (L + 1 + 1, _) (.head _))
    clear sub2
    simp only [LCg.Off3, and_true] at off3
    (k_steps; repeat' (first | ((with_reducible refine Halt.go ?_); (first | (k_here; k_dflt (refine src_range (by rfl) (by k_asm) (by k_asm) (by assumption) (small_one (by omega) (by omega) (by omega) (by omega)) (rangeSize_nat _ _) (by rw [PySem.sizeLine_eq]; omega) ?_)) | (k_here; k_dflt (first | refine src_rangeT (by rfl) (by k_asm) (by k_asm) (by assumption) (small_one (by omega) (by omega) (by omega) (by omega)) (rangeSize_nat _ _) (by rw [PySem.sizeLine_eq]; omega) ?_ | refine src_listT (by rfl) (by k_asm) (by k_asm) (by k_mem) (by rw [PySem.sizeLine_eq]; simp only [List.size_toArray]; omega) ?_)) | (k_here; k_dflt (first | refine src_range (by rfl) (by k_asm) (by k_asm) (by assumption) (small_one (by omega) (by omega) (by omega) (by omega)) (rangeSize_nat _ _) (by rw [PySem.sizeLine_eq]; omega) ?_ | refine src_list (by rfl) (by k_asm) (by k_asm) (by k_mem) (by rw [PySem.sizeLine_eq]; simp only [List.size_toArray]; omega) ?_)) | (k_here; (with_reducible show wpAny _ _ (eval (Expr.ListComp _ [⟨_, _, [_], _⟩] _ _) _) _ _ _); k_dflt (refine LCt.ListComp_T (F₀ := by k_asm) (by with_unfolding_all rfl) (by decide) (by rfl) (by decide) (by rfl) ?_)) | (k_here; (with_reducible show wpAny _ _ (eval (Expr.ListComp _ [⟨_, _, [], _⟩] _ _) _) _ _ _); k_dflt (refine LCg.ListComp_U (F₀ := by k_asm) (by with_unfolding_all rfl) (by decide) (by rfl) (by decide) (by rfl) ?_)) | (k_here; (with_reducible show wpAny _ _ (exec (Stmt.Assign _ (Expr.ListComp _ [⟨_, _, [_], _⟩] _ _) _) _) _ _ _); k_dflt (refine LCt.Assign_ListComp_T (F₀ := by k_asm) (by rfl) (by with_unfolding_all rfl) (by with_unfolding_all rfl) (by decide) (by rfl) (by decide) (by rfl) (by rfl) (by rfl) ?_)) | (k_here; (with_reducible show wpAny _ _ (exec (Stmt.Assign _ (Expr.ListComp _ [⟨_, _, [], _⟩] _ _) _) _) _ _ _); k_dflt (refine LCg.Assign_ListComp_U (F₀ := by k_asm) (by rfl) (by with_unfolding_all rfl) (by with_unfolding_all rfl) (by decide) (by rfl) (by decide) (by rfl) (by rfl) (by rfl) ?_)) | ((with_reducible show wpAny _ _ (call _ _) _ _ _); (first | (k_here; k_dflt (refine' bag_use ?pcv108 ?k1v108 ?k2v108 ?k3v108 ?k4v108 ?k5v108 ?kHv108 ?kAv108 ?kFv108 ?kKv108 ?kdv108 ?kuv108 ?_; (case k1v108 => k_asm); (case k2v108 => k_asm); (case k3v108 => k_asm); (case k4v108 => k_asm); (case k5v108 => k_asm); (case pcv108 => exact bag_calls _ _ _ (by assumption)); (case kHv108 => exact rfl); (case kAv108 => exact rfl); (case kFv108 => first | assumption | exact rfl); (case kKv108 => first | assumption | exact rfl); (case kdv108 => (walk_at "my room")); (case kuv108 => (walk_at "my room")); k_whole; (intro b'q b0'q b1'q t0'q t1'q t2'q ep'q h'q tk'q F'q N'q o'q q0'q q1'q q2'q); (obtain ⟨o1'q, o2'q⟩ := List.forall_mem_cons.mp o'q); (try clear o'q); (try dsimp only at o1'q); (replace o1'q := neN o1'q); (try k_sweep); (try k_fold))) | (k_here; k_dflt (refine' cell_calls _ _ _ _ _ _ ?piv107 ?plv107 ?p0v107 ?pkv107 _ _ _ _ _ _ _ _ _ _ _ _ _ _ _ _ _ _ ?pLv107 ?k1v107 ?k2v107 ?k3v107 ?k4v107 ?k5v107 ?kHv107 ?kAv107 ?kFv107 ?kKv107 ?kdv107 ?kuv107 ?_; (case k1v107 => k_asm); (case k2v107 => k_asm); (case k3v107 => k_asm); (case k4v107 => k_asm); (case k5v107 => k_asm); (case pLv107 => assumption); (case piv107 => assumption); (case plv107 => assumption); (case p0v107 => omega); (case pkv107 => omega); (case kHv107 => exact rfl); (case kAv107 => exact rfl); (case kFv107 => first | assumption | exact rfl); (case kKv107 => first | assumption | exact rfl); (case kdv107 => (walk_at "my room")); (case kuv107 => (walk_at "my room")); k_whole; (intro c'q t'q h'q tk'q F'q N'q hc'q); (try k_sweep); (try k_fold))) | (k_here; k_dflt (refine' part_use ?kUv106 ?k1v106 ?k2v106 ?k3v106 ?k4v106 ?k5v106 ?kHv106 ?kAv106 ?kFv106 ?kKv106 ?kdv106 ?kuv106 ?p1v106 ?p2v106 ?p3v106 ?p4v106 ?p5v106 ?_; (case k1v106 => k_asm); (case k2v106 => k_asm); (case k3v106 => k_asm); (case k4v106 => k_asm); (case kUv106 => k_updF); (case k5v106 => k_asm); (case kHv106 => exact rfl); (case kAv106 => exact rfl); (case kFv106 => first | assumption | exact rfl); (case kKv106 => first | assumption | exact rfl); (case kdv106 => (walk_at "my room")); (case kuv106 => (walk_at "my room")); (case p1v106 => omega); (case p2v106 => omega); (case p3v106 => omega); (case p4v106 => omega); (case p5v106 => omega); k_whole; (intro r'q h'q tk'q tl'q c0'q c2'q u0'q u1'q u2'q ep'q x'q F'q N'q lt'q p1'q p2'q p3'q hf'q); (try dsimp only at N'q); (try simp only [List.cons_append, List.nil_append] at N'q); (try k_sweep); (try k_fold))) | (k_here; k_dflt (refine' draw_use ?kUv104 ?k1v104 ?k2v104 ?k3v104 ?k4v104 ?k5v104 ?kHv104 ?kAv104 ?kFv104 ?kKv104 ?kdv104 ?kuv104 ?p1v104 ?p2v104 ?p3v104 ?p4v104 ?p5v104 ?p6v104 ?p7v104 ?_; (case k1v104 => k_asm); (case k2v104 => k_asm); (case k3v104 => k_asm); (case k4v104 => k_asm); (case kUv104 => k_updF); (case k5v104 => k_asm); (case kHv104 => exact rfl); (case kAv104 => exact rfl); (case kFv104 => first | assumption | exact rfl); (case kKv104 => first | assumption | exact rfl); (case kdv104 => (walk_at "my room")); (case kuv104 => (walk_at "my room")); (case p1v104 => omega); (case p2v104 => omega); (case p3v104 => omega); (case p4v104 => omega); (case p5v104 => omega); (case p6v104 => omega); (case p7v104 => omega); k_whole; (intro d'q td'q c0'q c2'q u0'q u1'q u2'q ep'q h'q tk'q F'q N'q p1'q p2'q p3'q p4'q p5'q); (try dsimp only at N'q); (try simp only [List.cons_append, List.nil_append] at N'q); (try k_sweep); (try k_fold))) | fail)) | fail); (all_goals k_steps)) | ((fail_if_success (with_reducible refine Halt.go ?_)); (first | (k_here; (with_reducible show wpAny _ _ (eval (Expr.Name _ _) (compEnvC _ _ _ _)) _ _ _); k_dflt (refine' lcf_free ?Nv103 ?cv103 ?mv103 ?dv103 ?_ ?av103 ?bv103; (case av103 => rfl); (case bv103 => rfl); (case Nv103 => k_asm); (case cv103 => rfl); (case mv103 => assumption); (case dv103 => assumption); k_whole)) | fail); (all_goals k_steps))))
    all_goals first | exact BagTurn.mk (by k_asm) (by assumption) (by assumption) (by assumption) (by omega) (by omega) (by omega)
  case fin =>
    intro ys xs tl fr4 d0 d2 v0 v1 v2 ep' hfr hl hx lt g0 g2 gM
    unfold LCg.FinA
    intro Dm hm tkm Fm Nm om
    subst hfr
    refine ret hm tkm _ d0 _ d2 v0 v1 v2 ep' _ Dm ys.length ys xs tl Fm (news_turn Nm) (by assumption) ?o1 ?o2 ?o3 hx g0 (by assumption) (by assumption) g2 gM
    case o1 => exact off_turn om lt (by assumption) (by assumption)
    case o2 => exact fun q hq => Off1of fun p hp => Off1mem (lt q hq).2 p (.tail _ hp)
    case o3 => rw [hx.length]; omega
end
end
section
section
local macro_rules | `(tactic| walk_at "call ref") => `(tactic| refine halt_of ?_)
set_option maxHeartbeats 8000000 in
theorem turn_b (w : World) (p : Program) (loose : List Str) (mean : ExcName → Option Value) (mg mb : Str → Option Value) (h₀ h : Heap) (gs0 : Array GenState) (dr0 : Drawn) (tk : Nat) (os0 : OsState) (L fa : Addr) (cd : Value)
    (K0 : Below callerA h₀ [] h₀) (X : (K w.params).In h₀) (T : Top p loose mean mg mb h₀) (m : Str → Option Value) (F : Fr h₀ L h m)
    (oB : Obj) (b : Addr) (d0 b1 d2 : Int) (v0 v1 v2 : Tok) (ep : Nat) (base : Led) (N : News h₀ L h ((b, bagO d0 b1 d2 v0 v1 v2 ep) :: (L + 1 + 1, oB) :: base)) (hB : oB.data = .cell (some (.ref b))) (offb : ∀ q ∈ base, q.1 ≠ b) (offc : @Ne Nat (L + 1 + 1) b)
    (g0 : 0 ≤ d0) (g1 : 0 ≤ b1) (g1' : b1 < 2147483629) (g2 : 0 ≤ d2) (g2' : d2 ≤ 400) (Q : Flow → Shared → Prop) (E : Value → Shared → Prop) (rest : List Stmt)
    (ret : ∀ h' tk' sg od asd qd ts to ta tq, Fr h₀ L h' (fun y => if y = Str.ofString "aside" then some (.int asd ta) else if y = Str.ofString "quad" then some (.int qd tq) else if y = Str.ofString "sign" then some (.int sg ts) else if y = Str.ofString "order" then some (.int od to) else m y) →
      News h₀ L h' ((L + 1 + 1, oB) :: base) → 0 ≤ sg → sg < 3 → 0 ≤ od → od < 4 → fits asd → fits qd →
      wpAny (model rwL.row.prog w) (callerA.deeper (envL L fa cd)) (execs rest (envL L fa cd)) Q (lawE w L fa cd E) ⟨h', gs0, dr0, tk', os0⟩) :
    wpAny (model rwL.row.prog w) (callerA.deeper (envL L fa cd)) (execs (seqB rest) (envL L fa cd)) Q (lawE w L fa cd E) ⟨h, gs0, dr0, tk, os0⟩ := by
  have hR : 900 ≤ recursionLimit := by decide
  have hC9 : 9000 ≤ cLine := by decide
  (k_steps; repeat' ((with_reducible refine Halt.go ?_); (first | ((with_reducible show wpAny _ _ (call _ _) _ _ _); (first | (k_here; k_dflt (refine' draw_use ?kUv109 ?k1v109 ?k2v109 ?k3v109 ?k4v109 ?k5v109 ?kHv109 ?kAv109 ?kFv109 ?kKv109 ?kdv109 ?kuv109 ?p1v109 ?p2v109 ?p3v109 ?p4v109 ?p5v109 ?p6v109 ?p7v109 ?_; (case k1v109 => k_asm); (case k2v109 => k_asm); (case k3v109 => k_asm); (case k4v109 => k_asm); (case kUv109 => k_updF); (case k5v109 => k_asm); (case kHv109 => exact rfl); (case kAv109 => exact rfl); (case kFv109 => first | assumption | exact rfl); (case kKv109 => first | assumption | exact rfl); (case kdv109 => (walk_at "my room")); (case kuv109 => (walk_at "my room")); (case p1v109 => omega); (case p2v109 => omega); (case p3v109 => omega); (case p4v109 => omega); (case p5v109 => omega); (case p6v109 => omega); (case p7v109 => omega); k_whole; (intro d'q td'q c0'q c2'q u0'q u1'q u2'q ep'q h'q tk'q F'q N'q p1'q p2'q p3'q p4'q p5'q); (try dsimp only at N'q); (try simp only [List.cons_append, List.nil_append] at N'q); (try k_sweep); (try k_fold))) | fail)) | fail); (all_goals k_steps)))
  refine' ret _ _ _ _ _ _ _ _ _ _ ?f ?n ?a ?b ?c ?d ?e ?g
  case f => k_asm
  case n => exact news_sub (by k_asm) (fun p hp => by repeat (first | exact hp | refine List.Mem.tail _ ?_))
  case a => assumption
  case b => assumption
  case c => assumption
  case d => assumption
  case e => exact ⟨by assumption, by assumption⟩
  case g => exact ⟨by assumption, by assumption⟩
end
end
section
theorem box_use {prog : Program} {w : World} {news : Led} {p : Program} {loose : List Str} {mean : ExcName → Option Value} {mg mb : Str → Option Value} {A : Around} {env : Env} {outer : List Env} {A₀ : Around} {base h₀ : Heap} {L : Addr} {m : Str → Option Value} {hp : Heap} {gs : Array GenState} {dr : Drawn} {tk0 : Nat} {os : OsState} {Q E : Value → Shared → Prop} {la : Addr} {kw : Int} {tw t1 t2 t3 : Tok} (h1 : -1073741823 ≤ kw) (h2 : kw ≤ 1073741823)
    (B : Below A₀ base outer h₀) (F : Fr h₀ L hp m) (X : (K w.params).In h₀) (N : News h₀ L hp news) (T : Top p loose mean mg mb h₀) (hh : A.handled = none) (hA : A.frames = some (env :: outer)) (hf : env.frame = some L) (hk : env.scope.kind = .function)
    (hd : A.depth + 8 < recursionLimit) (hu : A.units + 140 < cLine)
    (ret : ∀ x d ra rk k0 k1 k2 k3 k4 k5 k6 k7 k8 t0 t1 t2 t3 t4 t5 t6 t7 t8 h' tk', Fr h₀ L h' m → News h₀ L h' ((ra, tupO [.int 0 t7, .int 1 t8] rk) :: (x, instObj 325 d) :: (d, dictOf (boxEs w.params k0 k1 k2 k3 k4 k5 k6 k7 k8 (.int 2 t0) (.int kw t1) (.int 5 t2) (.int 0 t3) (.ref la) (.int 0 t4) (.int 0 t5) (.int 0 t6) (.ref ra)) 9) :: news) →
      (∀ q ∈ news, q.1 ≠ d) → (∀ q ∈ news, q.1 ≠ x) → (∀ q ∈ news, q.1 ≠ ra) → @LT.lt Nat _ d x → @LT.lt Nat _ x ra → Q (.ref x) ⟨h', gs, dr, tk', os⟩) : wpAny (model prog w) A (call (.ref 325) [.int 2 t1, .int kw tw, .int 5 t2, .int 0 t3, .ref la]) Q E ⟨hp, gs, dr, tk0, os⟩ := by
  refine box_raw w kw tw t1 t2 t3 la h1 h2 news prog p loose mean mg mb A env outer A₀ base h₀ L m ⟨hp, gs, dr, tk0, os⟩ Q E B F X N T hh hA hf hk hd hu ?_
  rintro r h' tk' _ _ F' N' o' ⟨rfl, x, d, ra, rk, k0, k1, k2, k3, k4, k5, k6, k7, k8, u0, u1, u2, u3, u4, u5, u6, u7, u8, rfl, rfl, l1, l2⟩
  exact ret x d ra rk k0 k1 k2 k3 k4 k5 k6 k7 k8 u0 u1 u2 u3 u4 u5 u6 u7 u8 h' tk' F' N' (fun q hq => Off1mem (o' _ (.tail _ (.tail _ (.head _)))) q hq) (fun q hq => Off1mem (o' _ (.tail _ (.head _))) q hq) (fun q hq => Off1mem (o' _ (.head _)) q hq) l1 l2
theorem off_six {D D1 ra x d Dm : Addr} {a b c e f g : Obj} {tl led : Led} (h1 : AllLt D (tl ++ led)) (h2 : AllLt D1 (tl ++ led)) (h3 : ∀ q ∈ (Dm, g) :: (tl ++ led), q.1 ≠ ra) (h4 : ∀ q ∈ (Dm, g) :: (tl ++ led), q.1 ≠ x) (h5 : ∀ q ∈ (Dm, g) :: (tl ++ led), q.1 ≠ d) (h6 : LCg.Off1 Dm (tl ++ led)) (h7 : ∀ q ∈ tl, LCg.Off1 q.1 led) :
    ∀ q ∈ (D, a) :: (D1, b) :: (ra, c) :: (x, e) :: (d, f) :: (Dm, g) :: tl, LCg.Off1 q.1 led := by
  have up : ∀ p ∈ led, p ∈ tl ++ led := fun p hp => List.mem_append_right _ hp
  refine List.forall_mem_cons.mpr ⟨off1_sub (off1_lt h1) up, List.forall_mem_cons.mpr ⟨off1_sub (off1_lt h2) up, List.forall_mem_cons.mpr ⟨Off1of fun p hp => h3 p (.tail _ (up p hp)), List.forall_mem_cons.mpr ⟨Off1of fun p hp => h4 p (.tail _ (up p hp)), List.forall_mem_cons.mpr ⟨Off1of fun p hp => h5 p (.tail _ (up p hp)), List.forall_mem_cons.mpr ⟨off1_sub h6 up, h7⟩⟩⟩⟩⟩⟩
section
local macro_rules | `(tactic| walk_at "eval ListComp") => `(tactic| refine halt_of ?_)
local macro_rules | `(tactic| walk_at "CompSrc") => `(tactic| refine halt_of ?_)
local macro_rules | `(tactic| walk_at "call ref") => `(tactic| refine halt_of ?_)
set_option maxHeartbeats 8000000 in
theorem turn_c (w : World) (p : Program) (loose : List Str) (mean : ExcName → Option Value) (mg mb : Str → Option Value) (h₀ h : Heap) (gs0 : Array GenState) (dr0 : Drawn) (tk : Nat) (os0 : OsState) (L fa : Addr) (cd : Value)
    (K0 : Below callerA h₀ [] h₀) (X : (K w.params).In h₀) (T : Top p loose mean mg mb h₀) (g : Str → Option Value) (asd qd sg od : Int) (ta tq ts to : Tok) (Dp : Addr)
    (F : Fr h₀ L h (fun y => if y = Str.ofString "aside" then some (.int asd ta) else if y = Str.ofString "quad" then some (.int qd tq) else if y = Str.ofString "sign" then some (.int sg ts) else if y = Str.ofString "order" then some (.int od to) else if y = Str.ofString "parts" then some (.ref Dp) else g y))
    (oF : Obj) (font : Addr) (led : Led) (N : News h₀ L h led) (hmF : (L + 1, oF) ∈ led) (hF : oF.data = .cell (some (.ref font))) (lk : Nat) (ys : List Value) (ps : List Part) (hmP : (Dp, listOf ys.toArray lk) ∈ led) (hps : All2 (PartIn led) ys ps) (hys : ys.length ≤ 8)
    (Q : Flow → Shared → Prop) (E : Value → Shared → Prop) (rest : List Stmt)
    (ret : ∀ h' tk' x tlc its, Fr h₀ L h' (fun y => if y = Str.ofString "box" then some (.ref x) else if y = Str.ofString "aside" then some (.int asd ta) else if y = Str.ofString "quad" then some (.int qd tq) else if y = Str.ofString "sign" then some (.int sg ts) else if y = Str.ofString "order" then some (.int od to) else if y = Str.ofString "parts" then some (.ref Dp) else g y) →
      News h₀ L h' (tlc ++ led) → (∀ q ∈ tlc, LCg.Off1 q.1 led) → BoxIn w.params tlc 1000 asd sg od 1 3 its (.ref x) → All2 (TopIn w.params font tlc) its ps →
      wpAny (model rwL.row.prog w) (callerA.deeper (envL L fa cd)) (execs rest (envL L fa cd)) Q (lawE w L fa cd E) ⟨h', gs0, dr0, tk', os0⟩) :
    wpAny (model rwL.row.prog w) (callerA.deeper (envL L fa cd)) (execs (seqC1 rest) (envL L fa cd)) Q (lawE w L fa cd E) ⟨h, gs0, dr0, tk, os0⟩ := by
  have hR : 900 ≤ recursionLimit := by decide
  have hC9 : 9000 ≤ cLine := by decide
  (k_steps; repeat' (first | ((with_reducible refine Halt.go ?_); (first | (k_here; k_dflt (refine src_list (by rfl) (by k_asm) (by k_asm) (by repeat (first | assumption | refine List.mem_append_right _ ?_ | refine List.Mem.tail _ ?_)) (by rw [PySem.sizeLine_eq]; simp only [List.size_toArray]; omega) ?_)) | (k_here; (with_reducible show wpAny _ _ (eval (Expr.ListComp _ [⟨_, _, [], _⟩] _ _) _) _ _ _); k_dflt (refine LCg.ListComp_U (F₀ := by k_asm) (by with_unfolding_all rfl) (by decide) (by rfl) (by decide) (by rfl) ?_)) | ((with_reducible show wpAny _ _ (call _ _) _ _ _); (first | (k_here; k_dflt (refine' box_use ?p1v113 ?p2v113 ?k1v113 ?k2v113 ?k3v113 ?k4v113 ?k5v113 ?kHv113 ?kAv113 ?kFv113 ?kKv113 ?kdv113 ?kuv113 ?_; (case k1v113 => k_asm); (case k2v113 => k_asm); (case k3v113 => k_asm); (case k4v113 => k_asm); (case k5v113 => k_asm); (case p1v113 => decide); (case p2v113 => decide); (case kHv113 => exact rfl); (case kAv113 => exact rfl); (case kFv113 => first | assumption | exact rfl); (case kKv113 => first | assumption | exact rfl); (case kdv113 => (walk_at "my room")); (case kuv113 => (walk_at "my room")); k_whole; (intro x'q d'q ra'q rk'q k0'q k1'q k2'q k3'q k4'q k5'q k6'q k7'q k8'q t0'q t1'q t2'q t3'q t4'q t5'q t6'q t7'q t8'q h'q tk'q F'q N'q o1'q o2'q o3'q l1'q l2'q); (try k_sweep); (try k_fold))) | fail)) | fail); (all_goals k_steps)) | ((fail_if_success (with_reducible refine Halt.go ?_)); (first | (k_here; (with_reducible show wpAny _ _ (eval (Expr.Name _ _) (compEnvC _ _ _ _)) _ _ _); k_dflt (refine' lcf_free ?Nv112 ?cv112 ?mv112 ?dv112 ?_ ?av112 ?bv112; (case av112 => rfl); (case bv112 => rfl); (case Nv112 => k_asm); (case cv112 => rfl); (case mv112 => assumption); (case dv112 => assumption); k_whole)) | fail); (all_goals k_steps))))
  refine Halt.go (fun gz => ?_)
  refine comp_grow (R := TopIn w.params font) TopIn.mono (src := ps) (by rw [← hps.length]; simp) (fun tl => Or.inr ⟨_, List.mem_append_right _ hmP, rfl, _, rfl⟩) ?turn ?fin
  case turn =>
    intro i v x ys I oI C oC D m₂ h tk E' fr2 hb hvi hC hx F2 sub2 N2 off3 ne3
    have hcell : (L + 1, oF) ∈ (I, oI) :: (C, oC) :: (D, LCg.lst ys) :: fr2 := .tail _ (.tail _ (.tail _ (sub2 _ hmF)))
    obtain ⟨x2, hx2, hfl⟩ := hps.get (by simpa using hvi)
    obtain rfl : x2 = x := Option.some.inj (hx2.symm.trans hb)
    have hfl2 : PartIn ((I, oI) :: (C, oC) :: (D, LCg.lst ys) :: fr2) v x2 := hfl.mono fun p hp => .tail _ (.tail _ (.tail _ (sub2 p hp)))
    clear sub2
    (k_steps; repeat' (first | ((with_reducible refine Halt.go ?_); (first | (k_here; k_dflt (refine src_list (by rfl) (by k_asm) (by k_asm) (by repeat (first | assumption | refine List.mem_append_right _ ?_ | refine List.Mem.tail _ ?_)) (by rw [PySem.sizeLine_eq]; simp only [List.size_toArray]; omega) ?_)) | (k_here; (with_reducible show wpAny _ _ (eval (Expr.ListComp _ [⟨_, _, [], _⟩] _ _) _) _ _ _); k_dflt (refine LCg.ListComp_U (F₀ := by k_asm) (by with_unfolding_all rfl) (by decide) (by rfl) (by decide) (by rfl) ?_)) | ((with_reducible show wpAny _ _ (call _ _) _ _ _); (first | (k_here; k_dflt (refine' box_use ?p1v113 ?p2v113 ?k1v113 ?k2v113 ?k3v113 ?k4v113 ?k5v113 ?kHv113 ?kAv113 ?kFv113 ?kKv113 ?kdv113 ?kuv113 ?_; (case k1v113 => k_asm); (case k2v113 => k_asm); (case k3v113 => k_asm); (case k4v113 => k_asm); (case k5v113 => k_asm); (case p1v113 => decide); (case p2v113 => decide); (case kHv113 => exact rfl); (case kAv113 => exact rfl); (case kFv113 => first | assumption | exact rfl); (case kKv113 => first | assumption | exact rfl); (case kdv113 => (walk_at "my room")); (case kuv113 => (walk_at "my room")); k_whole; (intro x'q d'q ra'q rk'q k0'q k1'q k2'q k3'q k4'q k5'q k6'q k7'q k8'q t0'q t1'q t2'q t3'q t4'q t5'q t6'q t7'q t8'q h'q tk'q F'q N'q o1'q o2'q o3'q l1'q l2'q); (try k_sweep); (try k_fold))) | fail)) | fail); (all_goals k_steps)) | ((fail_if_success (with_reducible refine Halt.go ?_)); (first | (k_here; (with_reducible show wpAny _ _ (eval (Expr.Name _ _) (compEnvC _ _ _ _)) _ _ _); k_dflt (refine' lcf_free ?Nv112 ?cv112 ?mv112 ?dv112 ?_ ?av112 ?bv112; (case av112 => rfl); (case bv112 => rfl); (case Nv112 => k_asm); (case cv112 => rfl); (case mv112 => assumption); (case dv112 => assumption); k_whole)) | fail); (all_goals k_steps))))
    refine Halt.go ?_
    refine CallsTo.use0e (node_calls w x2 v font _ hfl2) (by k_asm) (by k_asm) (by k_asm) (by k_asm) (by k_asm) (by exact rfl) (by exact rfl) (by first | assumption | exact rfl) (by first | assumption | exact rfl) (by (walk_at "my room")) (by (walk_at "my room")) ?_
    intro r' h' tk' tl' F' N' lt' hp'
    exact GrowTurn.mk F' N' lt' hp'
  case fin =>
    intro its tl hx lt
    unfold LCg.FinE
    intro Dm hm tkm Fm Nm om
    (try dsimp only)
    (k_steps; repeat' (first | ((with_reducible refine Halt.go ?_); (first | (k_here; k_dflt (refine src_list (by rfl) (by k_asm) (by k_asm) (by repeat (first | assumption | refine List.mem_append_right _ ?_ | refine List.Mem.tail _ ?_)) (by rw [PySem.sizeLine_eq]; simp only [List.size_toArray]; omega) ?_)) | (k_here; (with_reducible show wpAny _ _ (eval (Expr.ListComp _ [⟨_, _, [], _⟩] _ _) _) _ _ _); k_dflt (refine LCg.ListComp_U (F₀ := by k_asm) (by with_unfolding_all rfl) (by decide) (by rfl) (by decide) (by rfl) ?_)) | ((with_reducible show wpAny _ _ (call _ _) _ _ _); (first | (k_here; k_dflt (refine' box_use ?p1v113 ?p2v113 ?k1v113 ?k2v113 ?k3v113 ?k4v113 ?k5v113 ?kHv113 ?kAv113 ?kFv113 ?kKv113 ?kdv113 ?kuv113 ?_; (case k1v113 => k_asm); (case k2v113 => k_asm); (case k3v113 => k_asm); (case k4v113 => k_asm); (case k5v113 => k_asm); (case p1v113 => decide); (case p2v113 => decide); (case kHv113 => exact rfl); (case kAv113 => exact rfl); (case kFv113 => first | assumption | exact rfl); (case kKv113 => first | assumption | exact rfl); (case kdv113 => (walk_at "my room")); (case kuv113 => (walk_at "my room")); k_whole; (intro x'q d'q ra'q rk'q k0'q k1'q k2'q k3'q k4'q k5'q k6'q k7'q k8'q t0'q t1'q t2'q t3'q t4'q t5'q t6'q t7'q t8'q h'q tk'q F'q N'q o1'q o2'q o3'q l1'q l2'q); (try k_sweep); (try k_fold))) | fail)) | fail); (all_goals k_steps)) | ((fail_if_success (with_reducible refine Halt.go ?_)); (first | (k_here; (with_reducible show wpAny _ _ (eval (Expr.Name _ _) (compEnvC _ _ _ _)) _ _ _); k_dflt (refine' lcf_free ?Nv112 ?cv112 ?mv112 ?dv112 ?_ ?av112 ?bv112; (case av112 => rfl); (case bv112 => rfl); (case Nv112 => k_asm); (case cv112 => rfl); (case mv112 => assumption); (case dv112 => assumption); k_whole)) | fail); (all_goals k_steps))))
    refine' ret _ _ _ (_ :: _ :: _ :: _ :: _ :: _ :: tl) its ?f ?n ?o ?b ?q
    case f => k_asm
    case n => k_asm
    case o => exact off_six (by assumption : _ ∧ _ ∧ _ ∧ _ ∧ _ ∧ AllLt _ (_ ++ _)).2.2.2.2.2 (by assumption : _ ∧ _ ∧ _ ∧ _ ∧ AllLt _ (_ ++ _)).2.2.2.2 (by assumption) (by assumption) (by assumption) om lt
    case b => exact ex8 _ _ _ _ _ _ _ _ (ex5 _ _ _ _ _ ⟨Inst.mk (by first | k_mem | assumption) (by first | k_mem | assumption) (by repeat (first | exact Ents.nil | refine Ents.cons _ _ _ ?_)), by k_mem, by k_mem⟩)
    case q => exact hx.mono fun _ _ => TopIn.mono fun p hp => .tail _ (.tail _ (.tail _ (.tail _ (.tail _ (.tail _ hp)))))
end
end
section
theorem flat_ok (n : Nat) (x : Flat) : kqdOk (n + 4) (flatD x) = true := by
  cases x with
  | l i => simp only [flatD]; split <;> rfl
  | g s w st so sh ho => cases s <;> simp [flatD, kqdOk, ruleD, optD]
  | r ow => cases ow <;> simp [flatD, kqdOk, ruleD, optD]
  | _ => simp [flatD, kqdOk, boxD]
theorem part_ok (x : Part) : kqdOk 6 (partD x) = true := by
  cases x with
  | f x => exact flat_ok 2 x
  | c xs =>
    have h : ∀ d ∈ xs.map flatD, kqdOk 4 d = true := fun d hd => by
      obtain ⟨x, _, rfl⟩ := List.mem_map.mp hd
      exact flat_ok 0 x
    have h0 := flat_ok 0 (.l 0)
    simp only [Nat.zero_add] at h0
    simp only [partD, discD, kqdOk, List.all_cons, List.all_nil, h0, Bool.and_self, Bool.and_true, Bool.true_and]
    exact List.all_eq_true.mpr h
theorem box_ok (w sh sg od r1 r2 : Int) (ps : List Part) : kqdOk 8 (boxD w sh sg od r1 r2 (ps.map partD)) = true := by
  have h : ∀ d ∈ ps.map partD, kqdOk 6 d = true := fun d hd => by
    obtain ⟨x, _, rfl⟩ := List.mem_map.mp hd
    exact part_ok x
  simp only [boxD, kqdOk, List.all_cons, List.all_nil, Bool.and_self, Bool.and_true, Bool.true_and]
  exact List.all_eq_true.mpr h
open Classical in
theorem ne_same {prog : Program} {w : World} {A : Around} {E : Value → Shared → Prop} {s : Shared} {h₀ : Heap} {L : Addr} {a b : Value} {news n1 n2 : Led} {d : Dat} {Q : Value → Shared → Prop} (N : News h₀ L s.heap news) (Da : DatIn n1 a d) (sa : ∀ p ∈ n1, p ∈ news) (Db : DatIn n2 b d) (sb : ∀ p ∈ n2, p ∈ news) (hk : kqdOk 8 d = true) (hu : A.units + 64 < cLine) (h : Q (.bool false) s) :
    wpAny (model prog w) A (compareOp .NotEq a b) Q E s := by
  obtain ⟨as, ra⟩ := kqd_in N 8 (Da.mono sa) hk
  obtain ⟨bs, rb⟩ := kqd_in N 8 (Db.mono sb) hk
  have la := kqd_lay 8 d hk
  have e : PyData.eqv (kqdP d) (kqdP d) = true := (kqd_eqv 8 d d 8 hk hk).mpr rfl
  have sh : SeqAt.shaped (kqdP d) = true := by unfold SeqAt.shaped; rw [la.1, Bool.true_and]; exact decide_eq_true (Nat.le_trans la.2 (by decide))
  exact ne_dataH ra rb sh sh hu (by rw [e]; exact h)
section
variable {prog : Program} {w : World} {news : Led} {p : Program} {loose : List Str} {mean : ExcName → Option Value} {mg mb : Str → Option Value} {A : Around} {env : Env} {outer : List Env} {A₀ : Around} {base h₀ : Heap} {L : Addr} {m : Str → Option Value} {s : Shared} {Q E : Value → Shared → Prop} {font : Addr} {led : Led} {bw sh sg od r1 r2 : Int} {ps : List Part} {its : List Value} {v : Value}
theorem desc_use {hp : Heap} {gs : Array GenState} {dr : Drawn} {tk0 : Nat} {os : OsState} (sub : ∀ p ∈ led, p ∈ news) (hb : BoxIn w.params led bw sh sg od r1 r2 its v) (hps : All2 (TopIn w.params font led) its ps) (hl : ps.length ≤ 100) (hf0 : FontIn w.params led font)
    (B : Below A₀ base outer h₀) (F : Fr h₀ L hp m) (X : (K w.params).In h₀) (N : News h₀ L hp news) (T : Top p loose mean mg mb h₀) (hh : A.handled = none) (hA : A.frames = some (env :: outer)) (hf : env.frame = some L) (hk : env.scope.kind = .function)
    (hd : A.depth + 48 < recursionLimit) (hu : A.units + 800 < cLine)
    (ret : ∀ y h' tk' tl, Fr h₀ L h' m → News h₀ L h' (tl ++ news) → DatIn (tl ++ led) (.ref y) (boxD bw sh sg od r1 r2 (ps.map partD)) → Q (.ref y) ⟨h', gs, dr, tk', os⟩) : wpAny (model prog w) A (call (.ref 502) [v]) Q E ⟨hp, gs, dr, tk0, os⟩ := by
  refine described_box w 0 (by decide) (by decide) font bw sh sg od r1 r2 ps v led news 926 [v] (.inr ⟨rfl, rfl, rfl⟩) sub ⟨⟨its, hb, hps, hl⟩, hf0⟩ prog p loose mean mg mb A env outer A₀ base h₀ L m ⟨hp, gs, dr, tk0, os⟩ Q E B F X N T hh hA hf hk hd hu ?_
  rintro r h' tk' _ tl F' N' o' ⟨rfl, hd⟩
  have hr : ∃ y, r = .ref y := by
    unfold boxD at hd
    cases hd with
    | tuple hm _ => exact ⟨_, rfl⟩
  obtain ⟨y, rfl⟩ := hr
  exact ret y h' tk' tl F' N' hd
theorem reach_use {hp : Heap} {gs : Array GenState} {dr : Drawn} {tk0 : Nat} {os : OsState} {quad : Int} {tq : Tok} (sub : ∀ p ∈ led, p ∈ news) (hfw : FontW w font led) (hb : BoxIn w.params led bw sh sg od r1 r2 its v) (hps : All2 (TopIn w.params font led) its ps) (hsg : sg = 0 ∨ sg = 1 ∨ sg = 2) (hsh : fits sh) (hq : fits quad) (hlen : its.length ≤ 10)
    (B : Below A₀ base outer h₀) (F : Fr h₀ L hp m) (X : (K w.params).In h₀) (N : News h₀ L hp news) (T : Top p loose mean mg mb h₀) (hh : A.handled = none) (hA : A.frames = some (env :: outer)) (hf : env.frame = some L) (hk : env.scope.kind = .function)
    (hd : A.depth + 20 < recursionLimit) (hu : A.units + 300 < cLine)
    (ret : ∀ t h' tk', Fr h₀ L h' m → News h₀ L h' news → Q (.int (dueOf (Flat.moves sg od) (flats ps) (sh + 2 * quad)) t) ⟨h', gs, dr, tk', os⟩) : wpAny (model prog w) A (call (.ref 527) [v, .int quad tq]) Q E ⟨hp, gs, dr, tk0, os⟩ := by
  refine reach_calls w font bw sh sg od r1 r2 quad tq its ps v led news sub hfw hb hps hsg hsh hq hlen prog p loose mean mg mb A env outer A₀ base h₀ L m ⟨hp, gs, dr, tk0, os⟩ Q E B F X N T hh hA hf hk hd hu ?_
  rintro r h' tk' _ _ F' N' _ ⟨rfl, rfl, t, rfl⟩
  rw [plain_law]
  exact ret t h' tk' F' N'
theorem due_use {hp : Heap} {gs : Array GenState} {dr : Drawn} {tk0 : Nat} {os : OsState} {pa : Addr} {pk : Nat} {vs : List Value} {aside quad : Int} {ta tq ts to : Tok} (sub : ∀ p ∈ led, p ∈ news) (hm : (pa, listOf vs.toArray pk) ∈ led) (hps : All2 (PartIn led) vs ps) (hsg : sg = 0 ∨ sg = 1 ∨ sg = 2) (hlen : vs.length ≤ 10)
    (B : Below A₀ base outer h₀) (F : Fr h₀ L hp m) (X : (K w.params).In h₀) (N : News h₀ L hp news) (T : Top p loose mean mg mb h₀) (hh : A.handled = none) (hA : A.frames = some (env :: outer)) (hf : env.frame = some L) (hk : env.scope.kind = .function)
    (hd : A.depth + 20 < recursionLimit) (hu : A.units + 300 < cLine)
    (ret : ∀ t h' tk', Fr h₀ L h' m → News h₀ L h' news → Q (.int (dueOf (Flat.moves sg od) (flats ps) (aside + 2 * quad)) t) ⟨h', gs, dr, tk', os⟩) : wpAny (model prog w) A (call (.ref 755) [.ref pa, .int aside ta, .int quad tq, .int sg ts, .int od to]) Q E ⟨hp, gs, dr, tk0, os⟩ := by
  refine due_calls w pa pk vs ps aside quad sg od ta tq ts to led news sub hm hps hsg hlen prog p loose mean mg mb A env outer A₀ base h₀ L m ⟨hp, gs, dr, tk0, os⟩ Q E B F X N T hh hA hf hk hd hu ?_
  rintro r h' tk' _ _ F' N' _ ⟨rfl, rfl, t, rfl⟩
  exact ret t h' tk' F' N'
end
theorem mem_mid {a b c : Led} {p : Addr × Obj} (h : p ∈ a ++ c) : p ∈ a ++ (b ++ c) := (List.mem_append.mp h).elim (fun h => List.mem_append_left _ h) fun h => List.mem_append_right _ (List.mem_append_right _ h)
theorem mem_late {a b c : Led} {p : Addr × Obj} (h : p ∈ b ++ c) : p ∈ a ++ (b ++ c) := List.mem_append_right _ h
section
local macro_rules | `(tactic| walk_at "call ref") => `(tactic| refine halt_of ?_)
set_option maxHeartbeats 8000000 in
theorem turn_d (w : World) (p : Program) (loose : List Str) (mean : ExcName → Option Value) (mg mb : Str → Option Value) (h₀ h : Heap) (gs0 : Array GenState) (dr0 : Drawn) (tk : Nat) (os0 : OsState) (L fa : Addr) (cd : Value)
    (K0 : Below callerA h₀ [] h₀) (X : (K w.params).In h₀) (T : Top p loose mean mg mb h₀) (g : Str → Option Value) (asd qd sg od : Int) (ta tq ts to : Tok) (Dp x : Addr)
    (F : Fr h₀ L h (fun y => if y = Str.ofString "box" then some (.ref x) else if y = Str.ofString "aside" then some (.int asd ta) else if y = Str.ofString "quad" then some (.int qd tq) else if y = Str.ofString "sign" then some (.int sg ts) else if y = Str.ofString "order" then some (.int od to) else if y = Str.ofString "parts" then some (.ref Dp) else g y))
    (font : Addr) (led : Led) (N : News h₀ L h led) (hfw : FontW w font led) (hfi : FontIn w.params led font) (lk : Nat) (ys : List Value) (ps : List Part) (hmP : (Dp, listOf ys.toArray lk) ∈ led) (hps : All2 (PartIn led) ys ps) (hys : ys.length ≤ 10) (its : List Value) (hb : BoxIn w.params led 1000 asd sg od 1 3 its (.ref x)) (hts : All2 (TopIn w.params font led) its ps)
    (hsg : sg = 0 ∨ sg = 1 ∨ sg = 2) (ha : fits asd) (hq : fits qd)
    (Q : Flow → Shared → Prop) (E : Value → Shared → Prop)
    (ret : ∀ h' tk' r, Fr h₀ L h' (fun y => if y = Str.ofString "before" then some r else if y = Str.ofString "box" then some (.ref x) else if y = Str.ofString "aside" then some (.int asd ta) else if y = Str.ofString "quad" then some (.int qd tq) else if y = Str.ofString "sign" then some (.int sg ts) else if y = Str.ofString "order" then some (.int od to) else if y = Str.ofString "parts" then some (.ref Dp) else g y) →
      News h₀ L h' led → Q .next ⟨h', gs0, dr0, tk', os0⟩) :
    wpAny (model rwL.row.prog w) (callerA.deeper (envL L fa cd)) (execs seqD (envL L fa cd)) Q (lawE w L fa cd E) ⟨h, gs0, dr0, tk, os0⟩ := by
  have hR : 900 ≤ recursionLimit := by decide
  have hC9 : 9000 ≤ cLine := by decide
  have hlp : ps.length ≤ 100 := by rw [← hps.length]; omega
  have hli : its.length ≤ 10 := by rw [hts.length, ← hps.length]; omega
  (k_steps; repeat' (first | ((with_reducible refine Halt.go ?_); (first | ((with_reducible show wpAny _ _ (call _ _) _ _ _); (first | (k_here; k_dflt (refine' due_use ?psv116 ?pmv116 ?ppv116 ?pgv116 ?plv116 ?k1v116 ?k2v116 ?k3v116 ?k4v116 ?k5v116 ?kHv116 ?kAv116 ?kFv116 ?kKv116 ?kdv116 ?kuv116 ?_; (case k1v116 => k_asm); (case k2v116 => k_asm); (case k3v116 => k_asm); (case k4v116 => k_asm); (case k5v116 => k_asm); (case pmv116 => assumption); (case ppv116 => assumption); (case pgv116 => assumption); (case plv116 => assumption); (case psv116 => exact fun p hp => by repeat (first | exact hp | apply List.mem_append_right)); (case kHv116 => exact rfl); (case kAv116 => exact rfl); (case kFv116 => first | assumption | exact rfl); (case kKv116 => first | assumption | exact rfl); (case kdv116 => (walk_at "my room")); (case kuv116 => (walk_at "my room")); k_whole; (intro t'q h'q tk'q F'q N'q); (try k_sweep); (try k_fold))) | (k_here; k_dflt (refine' reach_use ?psv115 ?pwv115 ?pbv115 ?ppv115 ?pgv115 ?pfv115 ?pqv115 ?plv115 ?k1v115 ?k2v115 ?k3v115 ?k4v115 ?k5v115 ?kHv115 ?kAv115 ?kFv115 ?kKv115 ?kdv115 ?kuv115 ?_; (case k1v115 => k_asm); (case k2v115 => k_asm); (case k3v115 => k_asm); (case k4v115 => k_asm); (case k5v115 => k_asm); (case pwv115 => assumption); (case pbv115 => assumption); (case ppv115 => assumption); (case pgv115 => assumption); (case pfv115 => assumption); (case pqv115 => assumption); (case plv115 => assumption); (case psv115 => exact fun p hp => by repeat (first | exact hp | apply List.mem_append_right)); (case kHv115 => exact rfl); (case kAv115 => exact rfl); (case kFv115 => first | assumption | exact rfl); (case kKv115 => first | assumption | exact rfl); (case kdv115 => (walk_at "my room")); (case kuv115 => (walk_at "my room")); k_whole; (intro t'q h'q tk'q F'q N'q); (try k_sweep); (try k_fold))) | (k_here; k_dflt (refine' desc_use ?psv114 ?pbv114 ?ppv114 ?plv114 ?pfv114 ?k1v114 ?k2v114 ?k3v114 ?k4v114 ?k5v114 ?kHv114 ?kAv114 ?kFv114 ?kKv114 ?kdv114 ?kuv114 ?_; (case k1v114 => k_asm); (case k2v114 => k_asm); (case k3v114 => k_asm); (case k4v114 => k_asm); (case k5v114 => k_asm); (case pbv114 => assumption); (case ppv114 => assumption); (case plv114 => assumption); (case pfv114 => assumption); (case psv114 => exact fun p hp => by repeat (first | exact hp | apply List.mem_append_right)); (case kHv114 => exact rfl); (case kAv114 => exact rfl); (case kFv114 => first | assumption | exact rfl); (case kKv114 => first | assumption | exact rfl); (case kdv114 => (walk_at "my room")); (case kuv114 => (walk_at "my room")); k_whole; (intro y'q h'q tk'q tl'q F'q N'q hd'q); (try k_sweep); (try k_fold))) | fail)) | fail); (all_goals k_steps)) | ((fail_if_success (with_reducible refine Halt.go ?_)); (first | ((with_reducible show wpAny _ _ (compareOp _ _ _) _ _ _); (k_here; k_dflt (refine' ne_same ?Nv117 ?av117 ?sav117 ?bv117 ?sbv117 (box_ok _ _ _ _ _ _ _) ?uv117 ?_; (case Nv117 => k_asm); (case av117 => assumption); (case bv117 => assumption); (case sav117 => first | exact fun p hp => mem_mid hp | exact fun p hp => mem_late hp); (case sbv117 => first | exact fun p hp => mem_late hp | exact fun p hp => mem_mid hp); (case uv117 => (walk_at "my room"))))) | fail); (all_goals k_steps))))
  · exact absurd rfl (by assumption : ¬ dueOf _ _ _ = dueOf _ _ _)
  · exact ret _ _ _ (by k_asm) (news_sub (by k_asm) fun p hp => by repeat (first | exact hp | apply List.mem_append_right))
end
end
section
theorem law_turn (w : World) (p : Program) (loose : List Str) (mean : ExcName → Option Value) (mg mb : Str → Option Value) (h₀ h : Heap) (gs0 : Array GenState) (dr0 : Drawn) (tk : Nat) (os0 : OsState) (L fa : Addr) (cd : Value) (sa : Addr) (vs : List Value) (ns : List Int) (hL : h₀.IsList sa vs.toArray) (hI : IntsAre vs ns) (hz : ns.length ≤ 63)
    (K0 : Below callerA h₀ [] h₀) (X : (K w.params).In h₀) (T : Top p loose mean mg mb h₀) (i : Int) (ti : Tok) (hi0 : 0 ≤ i) (hi : i < ns.length ∨ i = 0) (g : Str → Option Value) (F : Fr h₀ L h (fun y => if y = Str.ofString "k" then some (.int i ti) else if y = Str.ofString "script" then some (.ref sa) else g y))
    (I : Addr) (oI oF oB : Obj) (tl : Led) (N : News h₀ L h ((I, oI) :: (L + 1, oF) :: (L + 1 + 1, oB) :: tl)) (vB : Option Value) (hB : oB.data = .cell vB) (font : Addr) (hF : oF.data = .cell (some (.ref font))) (kvs : List (Int × Value)) (hfa : FontAt w tl kvs (.ref font)) (hpx : All2 (PairX tl) kvs rows4)
    (o1 : ∀ q ∈ tl, q.1 ≠ L + 1) (o2 : ∀ q ∈ tl, q.1 ≠ L + 1 + 1) (off : LCg.Off1 I ((L + 1, oF) :: (L + 1 + 1, oB) :: tl)) (Q : Flow → Shared → Prop) (E : Value → Shared → Prop)
    (ret : ∀ h' tk' m' oB' vB', Fr h₀ L h' m' → News h₀ L h' ((I, oI) :: (L + 1, oF) :: (L + 1 + 1, oB') :: tl) → oB'.data = .cell vB' → m' (Str.ofString "script") = some (.ref sa) → Q .next ⟨h', gs0, dr0, tk', os0⟩) :
    wpAny (model rwL.row.prog w) (callerA.deeper (envL L fa cd)) (execs loopB (envL L fa cd)) Q (lawE w L fa cd E) ⟨h, gs0, dr0, tk, os0⟩ := by
  have offB : ∀ q ∈ (I, oI) :: (L + 1, oF) :: tl, q.1 ≠ L + 1 + 1 := by
    intro q hq
    rcases List.mem_cons.mp hq with rfl | hq
    · exact Ne.symm off.2.1
    rcases List.mem_cons.mp hq with rfl | hq
    · exact Nat.ne_of_lt (Nat.lt_succ_self _)
    · exact o2 q hq
  have N1 : News h₀ L h ((L + 1 + 1, oB) :: (I, oI) :: (L + 1, oF) :: tl) := news_sub N fun q hq => by
    simp only [List.mem_cons] at hq ⊢
    rcases hq with h | h | h | h <;> simp [h]
  rw [loopB_eq]
  refine turn_a w p loose mean mg mb h₀ h gs0 dr0 tk os0 L fa cd sa vs ns hL hI hz K0 X T i ti hi0 hi g F oB _ N1 offB vB hB Q E (seqB (seqC1 seqD)) ?_
  intro h2 tk2 b d0 b1 d2 v0 v1 v2 ep oB2 Dp lk ys ps tlp F2 N2 hB2 ob otp hys hps g0 g1 g1' g2 g2'
  refine turn_b w p loose mean mg mb h₀ h2 gs0 dr0 tk2 os0 L fa cd K0 X T _ F2 oB2 b d0 b1 d2 v0 v1 v2 ep _ N2 hB2 (fun q hq => ob q (.tail _ hq)) (ob (L + 1 + 1, oB2) (.head _)) g0 g1 g1' g2 g2' Q E (seqC1 seqD) ?_
  intro h3 tk3 sg od asd qd ts to ta tq F3 N3 s0 s3 q0 q4 fa1 fq1
  have hps3 : All2 (PartIn ((L + 1 + 1, oB2) :: (Dp, listOf ys.toArray lk) :: (tlp ++ ((I, oI) :: (L + 1, oF) :: tl)))) ys ps := hps.mono fun _ _ => PartIn.mono fun q hq => .tail _ (.tail _ (List.mem_append_left _ hq))
  refine turn_c w p loose mean mg mb h₀ h3 gs0 dr0 tk3 os0 L fa cd K0 X T _ asd qd sg od ta tq ts to Dp F3 oF font _ N3 (.tail _ (.tail _ (List.mem_append_right _ (.tail _ (.head _))))) hF lk ys ps (.tail _ (.head _)) hps3 hys Q E seqD ?_
  intro h4 tk4 x tlc its F4 N4 o4 hb hts
  have up : ∀ q ∈ tl, q ∈ tlc ++ ((L + 1 + 1, oB2) :: (Dp, listOf ys.toArray lk) :: (tlp ++ ((I, oI) :: (L + 1, oF) :: tl))) := fun q hq => List.mem_append_right _ (.tail _ (.tail _ (List.mem_append_right _ (.tail _ (.tail _ hq)))))
  have hfa4 := hfa.mono up
  refine turn_d w p loose mean mg mb h₀ h4 gs0 dr0 tk4 os0 L fa cd K0 X T _ asd qd sg od ta tq ts to Dp x F4 font _ N4 (fontw_of w font _ kvs hfa4 (pairx_mono up hpx)) (fontin_of hfa4) lk ys ps (List.mem_append_right _ (.tail _ (.head _))) (hps3.mono fun _ _ => PartIn.mono fun q hq => List.mem_append_right _ hq) (by omega) its (hb.mono fun q hq => List.mem_append_left _ hq) (hts.mono fun _ _ => TopIn.mono fun q hq => List.mem_append_left _ hq) (by omega) fa1 fq1 Q E ?_
  intro h5 tk5 r F5 N5
  refine ret h5 tk5 _ oB2 _ F5 (news_sub N5 fun q hq => ?_) hB2 rfl
  simp only [List.mem_cons, List.mem_append] at hq ⊢
  rcases hq with h | h | h | h <;> simp [h]
end
section
theorem news_cells {h₀ h : Heap} {L : Addr} {a b c d : Addr × Obj} {tl2 tl : Led} (N : News h₀ L h (tl2 ++ a :: (tl ++ [b, c, d]))) : News h₀ L h (d :: c :: tl2) := news_sub N fun p hp => by
  simp only [List.mem_cons, List.mem_append] at hp ⊢
  rcases hp with h | h | h <;> simp [h]
theorem off_cells {a b : Addr × Obj} {oB oF : Obj} {L : Nat} {tl2 tl : Led} (o : ∀ q ∈ tl2, LCg.Off1 q.1 (a :: (tl ++ [b, (L + 1 + 1, oB), (L + 1, oF)]))) : (∀ q ∈ tl2, q.1 ≠ L + 1) ∧ (∀ q ∈ tl2, q.1 ≠ L + 1 + 1) :=
  ⟨fun q hq => Ne.symm (Off1mem (o q hq) (L + 1, oF) (by simp)), fun q hq => Ne.symm (Off1mem (o q hq) (L + 1 + 1, oB) (by simp))⟩
theorem loop_n (n : Nat) : 1 ≤ (if (if ((n : Nat) : Int) < 4 then ((n : Nat) : Int) else 4) > 1 then if ((n : Nat) : Int) < 4 then ((n : Nat) : Int) else 4 else 1) ∧ (if (if ((n : Nat) : Int) < 4 then ((n : Nat) : Int) else 4) > 1 then if ((n : Nat) : Int) < 4 then ((n : Nat) : Int) else 4 else 1) ≤ 4 ∧
    ((if (if ((n : Nat) : Int) < 4 then ((n : Nat) : Int) else 4) > 1 then if ((n : Nat) : Int) < 4 then ((n : Nat) : Int) else 4 else 1) ≤ (n : Int) ∨ (if (if ((n : Nat) : Int) < 4 then ((n : Nat) : Int) else 4) > 1 then if ((n : Nat) : Int) < 4 then ((n : Nat) : Int) else 4 else 1) = 1) := by
  refine ⟨?_, ?_, ?_⟩ <;> (repeat' split) <;> omega
theorem k_script {m : Str → Option Value} {v : Value} {sa : Addr} (h : m (Str.ofString "script") = some (.ref sa)) : (fun y => if y = Str.ofString "k" then some v else m y) = fun y => if y = Str.ofString "k" then some v else if y = Str.ofString "script" then some (.ref sa) else m y := by
  funext y
  by_cases e : y = Str.ofString "script"
  · subst e; simp [h]
  · simp [e]
section
local macro_rules | `(tactic| walk_at "eval ListComp") => `(tactic| refine halt_of ?_)
local macro_rules | `(tactic| walk_at "call type:enumerate") => `(tactic| (k_here; refine halt_of ?_))
local macro_rules | `(tactic| walk_at "call ref") => `(tactic| refine halt_of ?_)
local macro_rules | `(tactic| walk_at "exec For Name Call cons nil") => `(tactic| refine halt_of ?_)
local macro_rules | `(tactic| walk_at "pyIter ref") => `(tactic| refine halt_it ?_)
set_option maxHeartbeats 8000000 in
theorem law_body (w : World) (p : Program) (loose : List Str) (mean : ExcName → Option Value) (mg mb : Str → Option Value) (h₀ h : Heap) (gs0 : Array GenState) (dr0 : Drawn) (tk : Nat) (os0 : OsState) (L fa : Addr) (cd : Value) (sa : Addr) (vs : List Value) (ns : List Int) (hL : h₀.IsList sa vs.toArray) (hI : IntsAre vs ns) (hz : ns.length ≤ 63)
    (K0 : Below callerA h₀ [] h₀) (X : (K w.params).In h₀) (T : Top p loose mean mg mb h₀) (F : Fr h₀ L h (bindL (envOfC (Str.ofString "law") (dS (st 83)) L fa cd).kindOf [(Str.ofString "script", .ref sa)] (fun _ => none))) (oB oF : Obj) (N : News h₀ L h [(L + 1 + 1, oB), (L + 1, oF)])
    (hB : oB.data = .cell none) (hF : oF.data = .cell none) (Q : Flow → Shared → Prop) (E : Value → Shared → Prop) (ret : ∀ h' tk' m', Fr h₀ L h' m' → Q (.ret (.bool true)) ⟨h', gs0, dr0, tk', os0⟩) :
    wpAny (model rwL.row.prog w) (callerA.deeper (envOfC (Str.ofString "law") (dS (st 83)) L fa cd)) (execs (dB (st 83)) (envOfC (Str.ofString "law") (dS (st 83)) L fa cd)) Q (fun e s' => wpAny (model rwL.row.prog w) (callerA.deeper (envOfC (Str.ofString "law") (dS (st 83)) L fa cd)) (leaving (envOfC (Str.ofString "law") (dS (st 83)) L fa cd) e) (fun x s'' => E e s'') (fun e' s'' => E e' s'') s') ⟨h, gs0, dr0, tk, os0⟩ := by
  have hsz : ((vs.toArray.size : Nat) : Int) < 2 ^ 63 := by rw [List.size_toArray, hI.length]; omega
  have hsz2 : ((vs.toArray.size : Nat) : Int) = ns.length := by rw [List.size_toArray, hI.length]
  have hR : 900 ≤ recursionLimit := by decide
  have hC9 : 9000 ≤ cLine := by decide
  (k_steps; repeat' (first | ((with_reducible refine Halt.go ?_); (first | ((with_reducible show wpAny _ _ (exec _ _) _ _ _); (k_here; (rename Fr _ _ _ _ => lF'q); (with_unfolding_all refine' For_invVF lF'q ?k1v123 ?k2v123 ?_; (case k1v123 => exact rfl); (case k2v123 => exact rfl); k_whole))) | (k_here; (with_reducible show wpAny _ _ (eval (Expr.ListComp _ [⟨Expr.Tuple _ _ _, _, [], _⟩] _ _) _) _ _ _); k_dflt (refine ListComp_E (F₀ := by k_asm) (by with_unfolding_all rfl) (by decide) (by rfl) (by decide) (by rfl) (by rfl) (by decide) ?_)) | ((with_reducible show wpAny _ _ (call _ _) _ _ _); (first | (k_here; k_dflt (refine' most_use ?k1v121 ?k2v121 ?k3v121 ?k4v121 ?k5v121 ?kHv121 ?kAv121 ?kFv121 ?kKv121 ?kdv121 ?kuv121 ?_; (case k1v121 => k_asm); (case k2v121 => k_asm); (case k3v121 => k_asm); (case k4v121 => k_asm); (case k5v121 => k_asm); (case kHv121 => exact rfl); (case kAv121 => exact rfl); (case kFv121 => first | assumption | exact rfl); (case kKv121 => first | assumption | exact rfl); (case kdv121 => (walk_at "my room")); (case kuv121 => (walk_at "my room")); k_whole; (intro t'q h'q tk'q F'q N'q); (try k_sweep); (try k_fold))) | (k_here; k_dflt (refine' none_use ?k1v120 ?k2v120 ?k3v120 ?k4v120 ?k5v120 ?kHv120 ?kAv120 ?kFv120 ?kKv120 ?kdv120 ?kuv120 ?_; (case k1v120 => k_asm); (case k2v120 => k_asm); (case k3v120 => k_asm); (case k4v120 => k_asm); (case k5v120 => k_asm); (case kHv120 => exact rfl); (case kAv120 => exact rfl); (case kFv120 => first | assumption | exact rfl); (case kKv120 => first | assumption | exact rfl); (case kdv120 => (walk_at "my room")); (case kuv120 => (walk_at "my room")); k_whole; (intro t'q h'q tk'q F'q N'q); (try k_sweep); (try k_fold))) | (k_here; k_dflt (refine' font_use ?pmv119 ?prv119 ?k1v119 ?k2v119 ?k3v119 ?k4v119 ?k5v119 ?kHv119 ?kAv119 ?kFv119 ?kKv119 ?kdv119 ?kuv119 ?_; (case k1v119 => k_asm); (case k2v119 => k_asm); (case k3v119 => k_asm); (case k4v119 => k_asm); (case pmv119 => k_mem); (case prv119 => exact raw_mono (fun _ hp => List.Mem.tail _ (List.mem_append_left _ hp)) (by assumption)); (case k5v119 => k_asm); (case kHv119 => exact rfl); (case kAv119 => exact rfl); (case kFv119 => first | assumption | exact rfl); (case kKv119 => first | assumption | exact rfl); (case kdv119 => (walk_at "my room")); (case kuv119 => (walk_at "my room")); k_whole; (intro f'q kvs'q h'q tk'q tl'q F'q N'q o'q fa'q fx'q); (try k_fold))) | fail)) | fail); (all_goals k_steps)) | ((fail_if_success (with_reducible refine Halt.go ?_)); (first | ((with_reducible show wpAny _ _ (call _ _) _ _ _); (k_here; k_dflt (refine' PyProof.Rows.len_list ?lv122 ?zv122 ?_; (case lv122 => exact list_keep (by assumption) (by k_asm)); (case zv122 => assumption)))) | fail); (all_goals k_steps))))
  refine Halt.go ?_
  refine src_rows (by rfl) (by k_asm) (by k_asm) (by k_mem) (.cons ⟨_, rfl⟩ (.cons ⟨_, rfl⟩ (.cons ⟨_, rfl⟩ (.cons ⟨_, rfl⟩ .nil)))) ?turn ?fin
  case turn =>
    intro g i c t t2 ys tl e oe I oI C oC D m₂ h tk E' hc hC h1 h2 F1 N1
    (k_steps; repeat' (first | ((with_reducible refine Halt.go ?_); (first | ((with_reducible show wpAny _ _ (exec _ _) _ _ _); (k_here; (rename Fr _ _ _ _ => lF'q); (with_unfolding_all refine' For_invVF lF'q ?k1v123 ?k2v123 ?_; (case k1v123 => exact rfl); (case k2v123 => exact rfl); k_whole))) | (k_here; (with_reducible show wpAny _ _ (eval (Expr.ListComp _ [⟨Expr.Tuple _ _ _, _, [], _⟩] _ _) _) _ _ _); k_dflt (refine ListComp_E (F₀ := by k_asm) (by with_unfolding_all rfl) (by decide) (by rfl) (by decide) (by rfl) (by rfl) (by decide) ?_)) | ((with_reducible show wpAny _ _ (call _ _) _ _ _); (first | (k_here; k_dflt (refine' most_use ?k1v121 ?k2v121 ?k3v121 ?k4v121 ?k5v121 ?kHv121 ?kAv121 ?kFv121 ?kKv121 ?kdv121 ?kuv121 ?_; (case k1v121 => k_asm); (case k2v121 => k_asm); (case k3v121 => k_asm); (case k4v121 => k_asm); (case k5v121 => k_asm); (case kHv121 => exact rfl); (case kAv121 => exact rfl); (case kFv121 => first | assumption | exact rfl); (case kKv121 => first | assumption | exact rfl); (case kdv121 => (walk_at "my room")); (case kuv121 => (walk_at "my room")); k_whole; (intro t'q h'q tk'q F'q N'q); (try k_sweep); (try k_fold))) | (k_here; k_dflt (refine' none_use ?k1v120 ?k2v120 ?k3v120 ?k4v120 ?k5v120 ?kHv120 ?kAv120 ?kFv120 ?kKv120 ?kdv120 ?kuv120 ?_; (case k1v120 => k_asm); (case k2v120 => k_asm); (case k3v120 => k_asm); (case k4v120 => k_asm); (case k5v120 => k_asm); (case kHv120 => exact rfl); (case kAv120 => exact rfl); (case kFv120 => first | assumption | exact rfl); (case kKv120 => first | assumption | exact rfl); (case kdv120 => (walk_at "my room")); (case kuv120 => (walk_at "my room")); k_whole; (intro t'q h'q tk'q F'q N'q); (try k_sweep); (try k_fold))) | (k_here; k_dflt (refine' font_use ?pmv119 ?prv119 ?k1v119 ?k2v119 ?k3v119 ?k4v119 ?k5v119 ?kHv119 ?kAv119 ?kFv119 ?kKv119 ?kdv119 ?kuv119 ?_; (case k1v119 => k_asm); (case k2v119 => k_asm); (case k3v119 => k_asm); (case k4v119 => k_asm); (case pmv119 => k_mem); (case prv119 => exact raw_mono (fun _ hp => List.Mem.tail _ (List.mem_append_left _ hp)) (by assumption)); (case k5v119 => k_asm); (case kHv119 => exact rfl); (case kAv119 => exact rfl); (case kFv119 => first | assumption | exact rfl); (case kKv119 => first | assumption | exact rfl); (case kdv119 => (walk_at "my room")); (case kuv119 => (walk_at "my room")); k_whole; (intro f'q kvs'q h'q tk'q tl'q F'q N'q o'q fa'q fx'q); (try k_fold))) | fail)) | fail); (all_goals k_steps)) | ((fail_if_success (with_reducible refine Halt.go ?_)); (first | ((with_reducible show wpAny _ _ (call _ _) _ _ _); (k_here; k_dflt (refine' PyProof.Rows.len_list ?lv122 ?zv122 ?_; (case lv122 => exact list_keep (by assumption) (by k_asm)); (case zv122 => assumption)))) | fail); (all_goals k_steps))))
    all_goals first | exact RowTurn.mk (by k_asm) (by k_asm) (congrArg (fun z => Value.int z _) hc.symm) (by assumption : _ ∧ _ ∧ _ ∧ _ ∧ AllLt _ (_ ++ _))
  case fin =>
    intro g ys tl hx ho
    unfold LCg.FinE
    intro Dr hr tkr F1 N1 o1
    (try dsimp only)
    (k_steps; repeat' (first | ((with_reducible refine Halt.go ?_); (first | ((with_reducible show wpAny _ _ (exec _ _) _ _ _); (k_here; (rename Fr _ _ _ _ => lF'q); (with_unfolding_all refine' For_invVF lF'q ?k1v123 ?k2v123 ?_; (case k1v123 => exact rfl); (case k2v123 => exact rfl); k_whole))) | (k_here; (with_reducible show wpAny _ _ (eval (Expr.ListComp _ [⟨Expr.Tuple _ _ _, _, [], _⟩] _ _) _) _ _ _); k_dflt (refine ListComp_E (F₀ := by k_asm) (by with_unfolding_all rfl) (by decide) (by rfl) (by decide) (by rfl) (by rfl) (by decide) ?_)) | ((with_reducible show wpAny _ _ (call _ _) _ _ _); (first | (k_here; k_dflt (refine' most_use ?k1v121 ?k2v121 ?k3v121 ?k4v121 ?k5v121 ?kHv121 ?kAv121 ?kFv121 ?kKv121 ?kdv121 ?kuv121 ?_; (case k1v121 => k_asm); (case k2v121 => k_asm); (case k3v121 => k_asm); (case k4v121 => k_asm); (case k5v121 => k_asm); (case kHv121 => exact rfl); (case kAv121 => exact rfl); (case kFv121 => first | assumption | exact rfl); (case kKv121 => first | assumption | exact rfl); (case kdv121 => (walk_at "my room")); (case kuv121 => (walk_at "my room")); k_whole; (intro t'q h'q tk'q F'q N'q); (try k_sweep); (try k_fold))) | (k_here; k_dflt (refine' none_use ?k1v120 ?k2v120 ?k3v120 ?k4v120 ?k5v120 ?kHv120 ?kAv120 ?kFv120 ?kKv120 ?kdv120 ?kuv120 ?_; (case k1v120 => k_asm); (case k2v120 => k_asm); (case k3v120 => k_asm); (case k4v120 => k_asm); (case k5v120 => k_asm); (case kHv120 => exact rfl); (case kAv120 => exact rfl); (case kFv120 => first | assumption | exact rfl); (case kKv120 => first | assumption | exact rfl); (case kdv120 => (walk_at "my room")); (case kuv120 => (walk_at "my room")); k_whole; (intro t'q h'q tk'q F'q N'q); (try k_sweep); (try k_fold))) | (k_here; k_dflt (refine' font_use ?pmv119 ?prv119 ?k1v119 ?k2v119 ?k3v119 ?k4v119 ?k5v119 ?kHv119 ?kAv119 ?kFv119 ?kKv119 ?kdv119 ?kuv119 ?_; (case k1v119 => k_asm); (case k2v119 => k_asm); (case k3v119 => k_asm); (case k4v119 => k_asm); (case pmv119 => k_mem); (case prv119 => exact raw_mono (fun _ hp => List.Mem.tail _ (List.mem_append_left _ hp)) (by assumption)); (case k5v119 => k_asm); (case kHv119 => exact rfl); (case kAv119 => exact rfl); (case kFv119 => first | assumption | exact rfl); (case kKv119 => first | assumption | exact rfl); (case kdv119 => (walk_at "my room")); (case kuv119 => (walk_at "my room")); k_whole; (intro f'q kvs'q h'q tk'q tl'q F'q N'q o'q fa'q fx'q); (try k_fold))) | fail)) | fail); (all_goals k_steps)) | ((fail_if_success (with_reducible refine Halt.go ?_)); (first | ((with_reducible show wpAny _ _ (call _ _) _ _ _); (k_here; k_dflt (refine' PyProof.Rows.len_list ?lv122 ?zv122 ?_; (case lv122 => exact list_keep (by assumption) (by k_asm)); (case zv122 => assumption)))) | fail); (all_goals k_steps))))
    rename FontAt _ _ _ _ => hfa
    rename All2 (PairX _) _ _ => hpx
    rename News _ _ _ (_ ++ _ :: (_ ++ _)) => N2
    rename Fr _ _ _ _ => F2
    have N5 : News h₀ L _ ((L + 1, oF) :: (L + 1 + 1, oB) :: _) := news_cells N2
    obtain ⟨o5, o6⟩ := off_cells (oB := oB) (oF := oF) (L := L) (by assumption)
    clear N2 hx ho N1 F1 o1
    (k_steps; repeat' (first | ((with_reducible refine Halt.go ?_); (first | ((with_reducible show wpAny _ _ (exec _ _) _ _ _); (k_here; (rename Fr _ _ _ _ => lF'q); (with_unfolding_all refine' For_invVF lF'q ?k1v123 ?k2v123 ?_; (case k1v123 => exact rfl); (case k2v123 => exact rfl); k_whole))) | (k_here; (with_reducible show wpAny _ _ (eval (Expr.ListComp _ [⟨Expr.Tuple _ _ _, _, [], _⟩] _ _) _) _ _ _); k_dflt (refine ListComp_E (F₀ := by k_asm) (by with_unfolding_all rfl) (by decide) (by rfl) (by decide) (by rfl) (by rfl) (by decide) ?_)) | ((with_reducible show wpAny _ _ (call _ _) _ _ _); (first | (k_here; k_dflt (refine' most_use ?k1v121 ?k2v121 ?k3v121 ?k4v121 ?k5v121 ?kHv121 ?kAv121 ?kFv121 ?kKv121 ?kdv121 ?kuv121 ?_; (case k1v121 => k_asm); (case k2v121 => k_asm); (case k3v121 => k_asm); (case k4v121 => k_asm); (case k5v121 => k_asm); (case kHv121 => exact rfl); (case kAv121 => exact rfl); (case kFv121 => first | assumption | exact rfl); (case kKv121 => first | assumption | exact rfl); (case kdv121 => (walk_at "my room")); (case kuv121 => (walk_at "my room")); k_whole; (intro t'q h'q tk'q F'q N'q); (try k_sweep); (try k_fold))) | (k_here; k_dflt (refine' none_use ?k1v120 ?k2v120 ?k3v120 ?k4v120 ?k5v120 ?kHv120 ?kAv120 ?kFv120 ?kKv120 ?kdv120 ?kuv120 ?_; (case k1v120 => k_asm); (case k2v120 => k_asm); (case k3v120 => k_asm); (case k4v120 => k_asm); (case k5v120 => k_asm); (case kHv120 => exact rfl); (case kAv120 => exact rfl); (case kFv120 => first | assumption | exact rfl); (case kKv120 => first | assumption | exact rfl); (case kdv120 => (walk_at "my room")); (case kuv120 => (walk_at "my room")); k_whole; (intro t'q h'q tk'q F'q N'q); (try k_sweep); (try k_fold))) | (k_here; k_dflt (refine' font_use ?pmv119 ?prv119 ?k1v119 ?k2v119 ?k3v119 ?k4v119 ?k5v119 ?kHv119 ?kAv119 ?kFv119 ?kKv119 ?kdv119 ?kuv119 ?_; (case k1v119 => k_asm); (case k2v119 => k_asm); (case k3v119 => k_asm); (case k4v119 => k_asm); (case pmv119 => k_mem); (case prv119 => exact raw_mono (fun _ hp => List.Mem.tail _ (List.mem_append_left _ hp)) (by assumption)); (case k5v119 => k_asm); (case kHv119 => exact rfl); (case kAv119 => exact rfl); (case kFv119 => first | assumption | exact rfl); (case kKv119 => first | assumption | exact rfl); (case kdv119 => (walk_at "my room")); (case kuv119 => (walk_at "my room")); k_whole; (intro f'q kvs'q h'q tk'q tl'q F'q N'q o'q fa'q fx'q); (try k_fold))) | fail)) | fail); (all_goals k_steps)) | ((fail_if_success (with_reducible refine Halt.go ?_)); (first | ((with_reducible show wpAny _ _ (call _ _) _ _ _); (k_here; k_dflt (refine' PyProof.Rows.len_list ?lv122 ?zv122 ?_; (case lv122 => exact list_keep (by assumption) (by k_asm)); (case zv122 => assumption)))) | fail); (all_goals k_steps))))
    rename IsRange _ _ _ _ _ _ _ _ => hrg
    rename IntsAre _ _ => hI
    obtain ⟨z1, z2, z3⟩ := loop_n ns.length
    generalize (if (if ((ns.length : Nat) : Int) < 4 then ((ns.length : Nat) : Int) else 4) > 1 then if ((ns.length : Nat) : Int) < 4 then ((ns.length : Nat) : Int) else 4 else 1) = Nn at hrg z1 z2 z3 ⊢
    rename (_ : Obj).data = Data.cell (some (.ref _)) => hdat
    have hK := X 101 _ rfl
    refine Halt.go ?_
    refine for_range (fun _ m₁ nw => ∃ oB' vB', nw = (L + 1, _) :: (L + 1 + 1, oB') :: _ ∧ oB'.data = .cell vB' ∧ m₁ (Str.ofString "script") = some (.ref sa)) (by rfl) (by k_asm) (by k_asm) hrg (small_one (by omega) (by omega) (by omega) (by omega)) (rangeSize_nat _ _) ⟨oB, _, rfl, hB, rfl⟩ hK ?turn2 ?done2
    case turn2 =>
      rintro j v m₁ nw I oI h tk hj ⟨t, rfl⟩ ⟨oB', vB', rfl, hB', hs⟩ off F1 N1
      rw [k_script hs] at F1
      refine law_turn w p loose mean mg mb h₀ h gs0 dr0 tk os0 L fa cd sa vs ns hL hI hz K0 X T (0 + (j : Int)) t (by omega) (by omega) m₁ F1 I oI _ oB' _ N1 vB' hB' _ hdat _ hfa hpx o5 o6 off _ E ?_
      intro h' tk' m' oB2 vB2 F' N' hB2 hs2
      exact ⟨h', tk', m', _, rfl, F', N', ⟨off.1, off.2.1, off.2.2⟩, oB2, vB2, rfl, hB2, hs2⟩
    case done2 =>
      rintro m₁ nw h tk ⟨oB', vB', rfl, hB', hs⟩ F1 N1
      (k_steps; repeat' (first | ((with_reducible refine Halt.go ?_); (first | ((with_reducible show wpAny _ _ (exec _ _) _ _ _); (k_here; (rename Fr _ _ _ _ => lF'q); (with_unfolding_all refine' For_invVF lF'q ?k1v123 ?k2v123 ?_; (case k1v123 => exact rfl); (case k2v123 => exact rfl); k_whole))) | (k_here; (with_reducible show wpAny _ _ (eval (Expr.ListComp _ [⟨Expr.Tuple _ _ _, _, [], _⟩] _ _) _) _ _ _); k_dflt (refine ListComp_E (F₀ := by k_asm) (by with_unfolding_all rfl) (by decide) (by rfl) (by decide) (by rfl) (by rfl) (by decide) ?_)) | ((with_reducible show wpAny _ _ (call _ _) _ _ _); (first | (k_here; k_dflt (refine' most_use ?k1v121 ?k2v121 ?k3v121 ?k4v121 ?k5v121 ?kHv121 ?kAv121 ?kFv121 ?kKv121 ?kdv121 ?kuv121 ?_; (case k1v121 => k_asm); (case k2v121 => k_asm); (case k3v121 => k_asm); (case k4v121 => k_asm); (case k5v121 => k_asm); (case kHv121 => exact rfl); (case kAv121 => exact rfl); (case kFv121 => first | assumption | exact rfl); (case kKv121 => first | assumption | exact rfl); (case kdv121 => (walk_at "my room")); (case kuv121 => (walk_at "my room")); k_whole; (intro t'q h'q tk'q F'q N'q); (try k_sweep); (try k_fold))) | (k_here; k_dflt (refine' none_use ?k1v120 ?k2v120 ?k3v120 ?k4v120 ?k5v120 ?kHv120 ?kAv120 ?kFv120 ?kKv120 ?kdv120 ?kuv120 ?_; (case k1v120 => k_asm); (case k2v120 => k_asm); (case k3v120 => k_asm); (case k4v120 => k_asm); (case k5v120 => k_asm); (case kHv120 => exact rfl); (case kAv120 => exact rfl); (case kFv120 => first | assumption | exact rfl); (case kKv120 => first | assumption | exact rfl); (case kdv120 => (walk_at "my room")); (case kuv120 => (walk_at "my room")); k_whole; (intro t'q h'q tk'q F'q N'q); (try k_sweep); (try k_fold))) | (k_here; k_dflt (refine' font_use ?pmv119 ?prv119 ?k1v119 ?k2v119 ?k3v119 ?k4v119 ?k5v119 ?kHv119 ?kAv119 ?kFv119 ?kKv119 ?kdv119 ?kuv119 ?_; (case k1v119 => k_asm); (case k2v119 => k_asm); (case k3v119 => k_asm); (case k4v119 => k_asm); (case pmv119 => k_mem); (case prv119 => exact raw_mono (fun _ hp => List.Mem.tail _ (List.mem_append_left _ hp)) (by assumption)); (case k5v119 => k_asm); (case kHv119 => exact rfl); (case kAv119 => exact rfl); (case kFv119 => first | assumption | exact rfl); (case kKv119 => first | assumption | exact rfl); (case kdv119 => (walk_at "my room")); (case kuv119 => (walk_at "my room")); k_whole; (intro f'q kvs'q h'q tk'q tl'q F'q N'q o'q fa'q fx'q); (try k_fold))) | fail)) | fail); (all_goals k_steps)) | ((fail_if_success (with_reducible refine Halt.go ?_)); (first | ((with_reducible show wpAny _ _ (call _ _) _ _ _); (k_here; k_dflt (refine' PyProof.Rows.len_list ?lv122 ?zv122 ?_; (case lv122 => exact list_keep (by assumption) (by k_asm)); (case zv122 => assumption)))) | fail); (all_goals k_steps))))
      exact ret _ _ _ (by k_asm)
end
set_option maxHeartbeats 8000000 in
theorem law_walk : WalkO vw loose (XL vw []) hook.says rwL.row.toRowW dL [] fun f vs => PySem.call f vs := by
  w_strict (k_go0; refine' law_body _ _ _ _ _ _ _ _ _ _ _ _ _ _ _ _ _ _ ?zL ?zI ?zz ?zK ?zX ?zT ?zF _ _ ?zN ?zB ?zC _ _ ?zr; (case zL => assumption); (case zI => assumption); (case zz => omega); (case zK => assumption); (case zX => assumption); (case zT => assumption); (case zF => assumption); (case zN => assumption); (case zB => assumption); (case zC => assumption); (case zr => intro h' tk' m' F'; k_steps))
end
end Mine
theorem PySem.Challenge.cw_sq0056_01_holds : PySem.Challenge.rw_sq0056_01.Holds :=
  Mine.holds_of Mine.law_walk
