import PyProof.Rows.All
import Wide.All
import OpenK.AllK
import Wide.FinOn
import PySem.Challenge.RW_og0196_01
open PySem PySem.W PySem.Calls PyProof.Rows
set_option Elab.async false
set_option maxRecDepth 100000
set_option maxHeartbeats 8000000
set_option linter.unusedVariables false
namespace Mine
abbrev pw : Program := PySem.Challenge.pw_og0196_01
abbrev ks (x : String) (t : Nat) : Value := .str (PySem.Str.ofString x) t
abbrev ke (P : Params) (x : String) (t : Nat) (v : Value) : DictEntry := ⟨PyData.keyHash P (PySem.Str.ofString x), .str (PySem.Str.ofString x) t, v⟩
noncomputable def kstm (i : Nat) : Stmt := (pw.main.body[i]?).getD (.Pass default)
def bodyOf : Stmt → List Stmt
  | .FunctionDef _ _ b .. => b
  | .ClassDef _ _ _ b .. => b
  | _ => []
def paramsOf : Stmt → Arguments
  | .FunctionDef _ a .. => a
  | _ => default
def scopeOf : Stmt → PySem.Scope
  | .FunctionDef _ _ _ _ _ _ s .. => s
  | _ => default
noncomputable def kmth (i j : Nat) : Stmt := ((bodyOf (kstm i))[j]?).getD (.Pass default)
abbrev kfn (name qual : String) (s : Stmt) (dV kV doc pm cd : Value) : Data := .func (fnOf (PySem.Str.ofString name) (PySem.Str.ofString qual) (paramsOf s) (bodyOf s) (scopeOf s) dV kV doc pm none cd .none)
noncomputable def K (P : Params) : Frag := [
  (3, ⟨.type "dict", none, (.dict #[ke P "__name__" 165 (ks "law_og0196_01" 1427), ke P "__doc__" 166 (.none), ke P "__package__" 167 (.none), ke P "__loader__" 168 (.builtin "__main__.__loader__#opaque"), ke P "__spec__" 169 (.none), ke P "__annotations__" 170 (.ref 6), ke P "__builtins__" 171 (.ref 4), ke P "__file__" 173 (ks "/claim/cut.py" 172), ke P "__cached__" 174 (.none), ke P "_wall" 193 (.ref 21), ke P "PaperError" 235 (.ref 46), ke P "PaintFault" 251 (.ref 59), ke P "FontFault" 267 (.ref 71), ke P "Decimal" 387 (.ref 167), ke P "sign_text" 394 (.ref 178), ke P "decimal_of" 401 (.ref 185), ke P "at_one_scale" 412 (.ref 192), ke P "Name" 443 (.ref 209), ke P "String" 474 (.ref 231), ke P "Stream" 505 (.ref 252), ke P "Reference" 543 (.ref 280), ke P "kind_of" 550 (.ref 291), ke P "is_number" 557 (.ref 298), ke P "told_plain" 565 (.ref 305), ke P "told" 571 (.ref 310), ke P "told_objects" 572 (.ref 310), ke P "Matrix" 662 (.ref 360), ke P "identity" 668 (.ref 371), ke P "translation" 676 (.ref 378), ke P "from_array" 683 (.ref 385), ke P "Operation" 722 (.ref 407), ke P "text_kinds" 730 (.ref 418), ke P "fits_kind" 736 (.ref 423), ke P "PLACED_WORDS" 748 (.ref 424), ke P "SPACING_WORDS" 754 (.ref 425), ke P "Glyph" 798 (.ref 449), ke P "TextSheet" 833 (.ref 470), ke P "TextState" 881 (.ref 505), ke P "advance" 891 (.ref 516), ke P "along" 901 (.ref 523), ke P "shown_glyphs" 919 (.ref 530), ke P "check_operands" 929 (.ref 537), ke P "TextWalk" 1008 (.ref 589), ke P "follow_placed" 1017 (.ref 600), ke P "choose_font" 1025 (.ref 607), ke P "follow_state" 1034 (.ref 614), ke P "sheet_glyphs" 1048 (.ref 621), ke P "lay_glyphs" 1055 (.ref 628), ke P "MOST_LENGTH" 1059 (.int 4 1058), ke P "HEX_SIGNS" 1061 (ks "0123456789ABCDEF" 1060), ke P "CMap" 1098 (.ref 650), ke P "code_of" 1107 (.ref 661), ke P "code_octets" 1113 (.ref 666), ke P "fitting" 1127 (.ref 673), ke P "next_length" 1133 (.ref 678), ke P "split_codes" 1145 (.ref 685), ke P "LOW_NAMES" 1149 (ks "space exclam quotedbl numbersign dollar percent ampersand quotesingle parenleft parenright asterisk plus comma hyphen period slash zero one two three four five six seven eight nine colon semicolon less equal greater question at" 1148), ke P "MIDDLE_NAMES" 1151 (ks "bracketleft backslash bracketright asciicircum underscore grave" 1150), ke P "HIGH_NAMES" 1153 (ks "braceleft bar braceright asciitilde" 1152), ke P "LATIN_NAMES" 1155 (ks "exclamdown cent sterling currency yen brokenbar section dieresis copyright ordfeminine guillemotleft logicalnot hyphen registered macron degree plusminus twosuperior threesuperior acute mu paragraph periodcentered cedilla onesuperior ordmasculine guillemotright onequarter onehalf threequarters questiondown Agrave Aacute Acircumflex Atilde Adieresis Aring AE Ccedilla Egrave Eacute Ecircumflex Edieresis Igrave Iacute Icircumflex Idieresis Eth Ntilde Ograve Oacute Ocircumflex Otilde Odieresis multiply Oslash Ugrave Uacute Ucircumflex Udieresis Yacute Thorn germandbls" 1154), ke P "OTHER_CODES" 1273 (.ref 686), ke P "SURROGATES" 1276 (.ref 689), ke P "MOST_CODE" 1278 (.int 1114111 1277), ke P "ascii_names" 1284 (.ref 694), ke P "latin_names" 1290 (.ref 699), ke P "hex_number" 1299 (.ref 706), ke P "is_sign_code" 1306 (.ref 713), ke P "known_code" 1314 (.ref 720), ke P "part_text" 1320 (.ref 725), ke P "glyph_text" 1326 (.ref 730), ke P "width_in" 1340 (.ref 737), ke P "standard_width" 1349 (.ref 744), ke P "cid_of" 1362 (.ref 751), ke P "Font" 1426 (.ref 787), ke P "_law_draw" 1438 (.ref 798), ke P "_law_number" 1446 (.ref 805), ke P "_law_six" 1452 (.ref 810), ke P "_law_matrix" 1459 (.ref 817), ke P "_law_block" 1469 (.ref 824), ke P "_law_form" 1485 (.ref 831), ke P "_law_item" 1501 (.ref 838), ke P "_law_items" 1517 (.ref 845), ke P "_law_told" 1523 (.ref 850), ke P "law" 1542 (.ref 857)] 84), #[]⟩),
  (86, ⟨.type "code", none, (.fields #[ks "__init__" 282, ks "Decimal.__init__" 283, ks "/claim/cut.py" 284, .int 21 0, .int 3 0, .int 0 0, .int 0 0, .int 3 0, .ref 81, .bool true, .int 181 0, .ref 82, .none, .ref 83, .ref 84, .ref 85, .int 288 0, .int 21 0, ks "/claim/cut.py" 289]), #[]⟩),
  (87, ⟨.type "function", none, (kfn "__init__" "Decimal.__init__" (kmth 6 0) (.none) (.none) (.none) (ks "paperhold.decimals" 268) (.ref 86)), #[]⟩),
  (93, ⟨.type "code", none, (.fields #[ks "plus" 291, ks "Decimal.plus" 292, ks "/claim/cut.py" 293, .int 28 0, .int 2 0, .int 0 0, .int 0 0, .int 3 0, .ref 88, .bool true, .int 181 0, .ref 89, .none, .ref 90, .ref 91, .ref 92, .int 299 0, .int 28 0, ks "/claim/cut.py" 300]), #[]⟩),
  (94, ⟨.type "function", none, (kfn "plus" "Decimal.plus" (kmth 6 1) (.none) (.none) (.none) (ks "paperhold.decimals" 268) (.ref 93)), #[]⟩),
  (107, ⟨.type "code", none, (.fields #[ks "times" 310, ks "Decimal.times" 311, ks "/claim/cut.py" 312, .int 35 0, .int 2 0, .int 0 0, .int 0 0, .int 3 0, .ref 102, .bool true, .int 181 0, .ref 103, .none, .ref 104, .ref 105, .ref 106, .int 316 0, .int 35 0, ks "/claim/cut.py" 317]), #[]⟩),
  (108, ⟨.type "function", none, (kfn "times" "Decimal.times" (kmth 6 3) (.none) (.none) (.none) (ks "paperhold.decimals" 268) (.ref 107)), #[]⟩),
  (149, ⟨.type "code", none, (.fields #[ks "told" 356, ks "Decimal.told" 357, ks "/claim/cut.py" 358, .int 54 0, .int 1 0, .int 0 0, .int 0 0, .int 3 0, .ref 144, .bool true, .int 181 0, .ref 145, .none, .ref 146, .ref 147, .ref 148, .int 360 0, .int 54 0, ks "/claim/cut.py" 361]), #[]⟩),
  (150, ⟨.type "function", none, (kfn "told" "Decimal.told" (kmth 6 9) (.none) (.none) (.none) (ks "paperhold.decimals" 268) (.ref 149)), #[]⟩),
  (166, ⟨.type "dict", none, (.dict #[ke P "__module__" 277 (ks "paperhold.decimals" 268), ke P "__firstlineno__" 281 (.int 19 280), ke P "__init__" 290 (.ref 87), ke P "plus" 301 (.ref 94), ke P "minus" 309 (.ref 101), ke P "times" 318 (.ref 108), ke P "negated" 325 (.ref 115), ke P "compared" 333 (.ref 122), ke P "is_whole" 340 (.ref 129), ke P "floor" 347 (.ref 136), ke P "rounded" 355 (.ref 143), ke P "told" 362 (.ref 150), ke P "text" 370 (.ref 157), ke P "least_text" 377 (.ref 164), ke P "__static_attributes__" 380 (.ref 165), ke P "__dict__" 382 (.ref 168), ke P "__weakref__" 384 (.ref 169), ke P "__doc__" 385 (.none)] 4), #[]⟩),
  (167, ⟨.type "type", none, (.cls { name := "Decimal", bases := [.type "object"], mro := [.ref 167, .type "object"], ns := 166, qualname := "Decimal", hasDict := true, slotNames := [], abstract := false, hasDel := false }), #[none, none, some (ks "Decimal" 270), some (ks "Decimal" 278), some (.builtin "object.__new__"), some (.bool true)]⟩),
  (184, ⟨.type "code", none, (.fields #[ks "decimal_of" 395, ks "decimal_of" 396, ks "/claim/cut.py" 397, .int 68 0, .int 1 0, .int 0 0, .int 0 0, .int 3 0, .ref 179, .bool true, .int 181 0, .ref 180, .none, .ref 181, .ref 182, .ref 183, .int 399 0, .int 68 0, ks "/claim/cut.py" 400]), #[]⟩),
  (185, ⟨.type "function", none, (kfn "decimal_of" "decimal_of" (kstm 8) (.none) (.none) (.none) (ks "paperhold.decimals" 268) (.ref 184)), #[]⟩),
  (191, ⟨.type "code", none, (.fields #[ks "at_one_scale" 402, ks "at_one_scale" 403, ks "/claim/cut.py" 404, .int 74 0, .int 2 0, .int 0 0, .int 0 0, .int 3 0, .ref 186, .bool true, .int 181 0, .ref 187, .none, .ref 188, .ref 189, .ref 190, .int 410 0, .int 74 0, ks "/claim/cut.py" 411]), #[]⟩),
  (192, ⟨.type "function", none, (kfn "at_one_scale" "at_one_scale" (kstm 9) (.none) (.none) (.none) (ks "paperhold.decimals" 268) (.ref 191)), #[]⟩),
  (205, ⟨.type "code", none, (.fields #[ks "__init__" 427, ks "Name.__init__" 428, ks "/claim/cut.py" 429, .int 82 0, .int 2 0, .int 0 0, .int 0 0, .int 3 0, .ref 200, .bool true, .int 181 0, .ref 201, .none, .ref 202, .ref 203, .ref 204, .int 432 0, .int 82 0, ks "/claim/cut.py" 433]), #[]⟩),
  (206, ⟨.type "function", none, (kfn "__init__" "Name.__init__" (kmth 11 0) (.none) (.none) (.none) (ks "paperhold.objects" 413) (.ref 205)), #[]⟩),
  (208, ⟨.type "dict", none, (.dict #[ke P "__module__" 422 (ks "paperhold.objects" 413), ke P "__firstlineno__" 426 (.int 80 425), ke P "__init__" 434 (.ref 206), ke P "__static_attributes__" 436 (.ref 207), ke P "__dict__" 438 (.ref 210), ke P "__weakref__" 440 (.ref 211), ke P "__doc__" 441 (.none)] 4), #[]⟩),
  (209, ⟨.type "type", none, (.cls { name := "Name", bases := [.type "object"], mro := [.ref 209, .type "object"], ns := 208, qualname := "Name", hasDict := true, slotNames := [], abstract := false, hasDel := false }), #[none, none, some (ks "Name" 415), some (ks "Name" 423), some (.builtin "object.__new__"), some (.bool true)]⟩),
  (221, ⟨.type "tuple", none, (.seq #[.bool false] 0), #[]⟩),
  (227, ⟨.type "code", none, (.fields #[ks "__init__" 456, ks "String.__init__" 457, ks "/claim/cut.py" 458, .int 86 0, .int 3 0, .int 0 0, .int 0 0, .int 3 0, .ref 222, .bool true, .int 181 0, .ref 223, .none, .ref 224, .ref 225, .ref 226, .int 462 0, .int 86 0, ks "/claim/cut.py" 463]), #[]⟩),
  (228, ⟨.type "function", none, (kfn "__init__" "String.__init__" (kmth 12 0) (.ref 221) (.none) (.none) (ks "paperhold.objects" 413) (.ref 227)), #[]⟩),
  (230, ⟨.type "dict", none, (.dict #[ke P "__module__" 451 (ks "paperhold.objects" 413), ke P "__firstlineno__" 455 (.int 84 454), ke P "__init__" 464 (.ref 228), ke P "__static_attributes__" 467 (.ref 229), ke P "__dict__" 469 (.ref 232), ke P "__weakref__" 471 (.ref 233), ke P "__doc__" 472 (.none)] 4), #[]⟩),
  (231, ⟨.type "type", none, (.cls { name := "String", bases := [.type "object"], mro := [.ref 231, .type "object"], ns := 230, qualname := "String", hasDict := true, slotNames := [], abstract := false, hasDel := false }), #[none, none, some (ks "String" 444), some (ks "String" 452), some (.builtin "object.__new__"), some (.bool true)]⟩),
  (251, ⟨.type "dict", none, (.dict #[ke P "__module__" 482 (ks "paperhold.objects" 413), ke P "__firstlineno__" 486 (.int 89 485), ke P "__init__" 495 (.ref 249), ke P "__static_attributes__" 498 (.ref 250), ke P "__dict__" 500 (.ref 253), ke P "__weakref__" 502 (.ref 254), ke P "__doc__" 503 (.none)] 4), #[]⟩),
  (252, ⟨.type "type", none, (.cls { name := "Stream", bases := [.type "object"], mro := [.ref 252, .type "object"], ns := 251, qualname := "Stream", hasDict := true, slotNames := [], abstract := false, hasDel := false }), #[none, none, some (ks "Stream" 475), some (ks "Stream" 483), some (.builtin "object.__new__"), some (.bool true)]⟩),
  (290, ⟨.type "code", none, (.fields #[ks "kind_of" 544, ks "kind_of" 545, ks "/claim/cut.py" 546, .int 102 0, .int 1 0, .int 0 0, .int 0 0, .int 3 0, .ref 285, .bool true, .int 181 0, .ref 286, .none, .ref 287, .ref 288, .ref 289, .int 548 0, .int 102 0, ks "/claim/cut.py" 549]), #[]⟩),
  (291, ⟨.type "function", none, (kfn "kind_of" "kind_of" (kstm 15) (.none) (.none) (.none) (ks "paperhold.objects" 413) (.ref 290)), #[]⟩),
  (297, ⟨.type "code", none, (.fields #[ks "is_number" 551, ks "is_number" 552, ks "/claim/cut.py" 553, .int 124 0, .int 1 0, .int 0 0, .int 0 0, .int 3 0, .ref 292, .bool true, .int 181 0, .ref 293, .none, .ref 294, .ref 295, .ref 296, .int 555 0, .int 124 0, ks "/claim/cut.py" 556]), #[]⟩),
  (298, ⟨.type "function", none, (kfn "is_number" "is_number" (kstm 16) (.none) (.none) (.none) (ks "paperhold.objects" 413) (.ref 297)), #[]⟩),
  (323, ⟨.type "code", none, (.fields #[ks "__init__" 587, ks "Matrix.__init__" 588, ks "/claim/cut.py" 589, .int 153 0, .int 7 0, .int 0 0, .int 0 0, .int 3 0, .ref 318, .bool true, .int 181 0, .ref 319, .none, .ref 320, .ref 321, .ref 322, .int 597 0, .int 153 0, ks "/claim/cut.py" 598]), #[]⟩),
  (324, ⟨.type "function", none, (kfn "__init__" "Matrix.__init__" (kmth 21 0) (.none) (.none) (.none) (ks "paperhold.matrix" 573) (.ref 323)), #[]⟩),
  (330, ⟨.type "code", none, (.fields #[ks "times" 600, ks "Matrix.times" 601, ks "/claim/cut.py" 602, .int 161 0, .int 2 0, .int 0 0, .int 0 0, .int 3 0, .ref 325, .bool true, .int 181 0, .ref 326, .none, .ref 327, .ref 328, .ref 329, .int 611 0, .int 161 0, ks "/claim/cut.py" 612]), #[]⟩),
  (331, ⟨.type "function", none, (kfn "times" "Matrix.times" (kmth 21 1) (.none) (.none) (.none) (ks "paperhold.matrix" 573) (.ref 330)), #[]⟩),
  (337, ⟨.type "code", none, (.fields #[ks "applied" 614, ks "Matrix.applied" 615, ks "/claim/cut.py" 616, .int 169 0, .int 3 0, .int 0 0, .int 0 0, .int 3 0, .ref 332, .bool true, .int 181 0, .ref 333, .none, .ref 334, .ref 335, .ref 336, .int 622 0, .int 169 0, ks "/claim/cut.py" 623]), #[]⟩),
  (338, ⟨.type "function", none, (kfn "applied" "Matrix.applied" (kmth 21 2) (.none) (.none) (.none) (ks "paperhold.matrix" 573) (.ref 337)), #[]⟩),
  (344, ⟨.type "code", none, (.fields #[ks "shifted" 625, ks "Matrix.shifted" 626, ks "/claim/cut.py" 627, .int 174 0, .int 3 0, .int 0 0, .int 0 0, .int 3 0, .ref 339, .bool true, .int 181 0, .ref 340, .none, .ref 341, .ref 342, .ref 343, .int 633 0, .int 174 0, ks "/claim/cut.py" 634]), #[]⟩),
  (345, ⟨.type "function", none, (kfn "shifted" "Matrix.shifted" (kmth 21 3) (.none) (.none) (.none) (ks "paperhold.matrix" 573) (.ref 344)), #[]⟩),
  (359, ⟨.type "dict", none, (.dict #[ke P "__module__" 582 (ks "paperhold.matrix" 573), ke P "__firstlineno__" 586 (.int 151 585), ke P "__init__" 599 (.ref 324), ke P "times" 613 (.ref 331), ke P "applied" 624 (.ref 338), ke P "shifted" 635 (.ref 345), ke P "parts" 642 (.ref 352), ke P "told" 648 (.ref 357), ke P "__static_attributes__" 655 (.ref 358), ke P "__dict__" 657 (.ref 361), ke P "__weakref__" 659 (.ref 362), ke P "__doc__" 660 (.none)] 4), #[]⟩),
  (360, ⟨.type "type", none, (.cls { name := "Matrix", bases := [.type "object"], mro := [.ref 360, .type "object"], ns := 359, qualname := "Matrix", hasDict := true, slotNames := [], abstract := false, hasDel := false }), #[none, none, some (ks "Matrix" 575), some (ks "Matrix" 583), some (.builtin "object.__new__"), some (.bool true)]⟩),
  (370, ⟨.type "code", none, (.fields #[ks "identity" 663, ks "identity" 664, ks "/claim/cut.py" 665, .int 184 0, .int 0 0, .int 0 0, .int 0 0, .int 3 0, .ref 365, .bool true, .int 181 0, .ref 366, .none, .ref 367, .ref 368, .ref 369, .int 666 0, .int 184 0, ks "/claim/cut.py" 667]), #[]⟩),
  (371, ⟨.type "function", none, (kfn "identity" "identity" (kstm 22) (.none) (.none) (.none) (ks "paperhold.matrix" 573) (.ref 370)), #[]⟩),
  (377, ⟨.type "code", none, (.fields #[ks "translation" 669, ks "translation" 670, ks "/claim/cut.py" 671, .int 186 0, .int 2 0, .int 0 0, .int 0 0, .int 3 0, .ref 372, .bool true, .int 181 0, .ref 373, .none, .ref 374, .ref 375, .ref 376, .int 674 0, .int 186 0, ks "/claim/cut.py" 675]), #[]⟩),
  (378, ⟨.type "function", none, (kfn "translation" "translation" (kstm 23) (.none) (.none) (.none) (ks "paperhold.matrix" 573) (.ref 377)), #[]⟩),
  (384, ⟨.type "code", none, (.fields #[ks "from_array" 677, ks "from_array" 678, ks "/claim/cut.py" 679, .int 188 0, .int 1 0, .int 0 0, .int 0 0, .int 3 0, .ref 379, .bool true, .int 181 0, .ref 380, .none, .ref 381, .ref 382, .ref 383, .int 681 0, .int 188 0, ks "/claim/cut.py" 682]), #[]⟩),
  (385, ⟨.type "function", none, (kfn "from_array" "from_array" (kstm 24) (.none) (.none) (.none) (ks "paperhold.matrix" 573) (.ref 384)), #[]⟩),
  (398, ⟨.type "code", none, (.fields #[ks "__init__" 698, ks "Operation.__init__" 699, ks "/claim/cut.py" 700, .int 195 0, .int 3 0, .int 0 0, .int 0 0, .int 3 0, .ref 393, .bool true, .int 181 0, .ref 394, .none, .ref 395, .ref 396, .ref 397, .int 704 0, .int 195 0, ks "/claim/cut.py" 705]), #[]⟩),
  (399, ⟨.type "function", none, (kfn "__init__" "Operation.__init__" (kmth 26 0) (.none) (.none) (.none) (ks "paperhold.content" 684) (.ref 398)), #[]⟩),
  (406, ⟨.type "dict", none, (.dict #[ke P "__module__" 693 (ks "paperhold.content" 684), ke P "__firstlineno__" 697 (.int 193 696), ke P "__init__" 706 (.ref 399), ke P "told" 712 (.ref 404), ke P "__static_attributes__" 715 (.ref 405), ke P "__dict__" 717 (.ref 408), ke P "__weakref__" 719 (.ref 409), ke P "__doc__" 720 (.none)] 4), #[]⟩),
  (407, ⟨.type "type", none, (.cls { name := "Operation", bases := [.type "object"], mro := [.ref 407, .type "object"], ns := 406, qualname := "Operation", hasDict := true, slotNames := [], abstract := false, hasDel := false }), #[none, none, some (ks "Operation" 686), some (ks "Operation" 694), some (.builtin "object.__new__"), some (.bool true)]⟩),
  (417, ⟨.type "code", none, (.fields #[ks "text_kinds" 723, ks "text_kinds" 724, ks "/claim/cut.py" 725, .int 201 0, .int 0 0, .int 0 0, .int 0 0, .int 3 0, .ref 412, .bool true, .int 181 0, .ref 413, .none, .ref 414, .ref 415, .ref 416, .int 728 0, .int 201 0, ks "/claim/cut.py" 729]), #[]⟩),
  (418, ⟨.type "function", none, (kfn "text_kinds" "text_kinds" (kstm 27) (.none) (.none) (.none) (ks "paperhold.content" 684) (.ref 417)), #[]⟩),
  (422, ⟨.type "code", none, (.fields #[ks "fits_kind" 731, ks "fits_kind" 732, ks "/claim/cut.py" 733, .int 212 0, .int 2 0, .int 0 0, .int 0 0, .int 3 0, .ref 419, .bool true, .int 181 0, .ref 420, .none, .none, .none, .ref 421, .int 734 0, .int 212 0, ks "/claim/cut.py" 735]), #[]⟩),
  (423, ⟨.type "function", none, (kfn "fits_kind" "fits_kind" (kstm 28) (.none) (.none) (.none) (ks "paperhold.content" 684) (.ref 422)), #[]⟩),
  (424, ⟨.type "tuple", none, (.seq #[ks "Td" 739, ks "TD" 740, ks "T*" 741, ks "Tm" 742, ks "Tj" 743, ks "TJ" 744, ks "'" 745, ks "\"" 746, ks "ET" 747] 0), #[]⟩),
  (425, ⟨.type "tuple", none, (.seq #[ks "Tc" 749, ks "Tw" 750, ks "Tz" 751, ks "TL" 752, ks "Ts" 753] 0), #[]⟩),
  (438, ⟨.type "code", none, (.fields #[ks "__init__" 767, ks "Glyph.__init__" 768, ks "/claim/cut.py" 769, .int 225 0, .int 6 0, .int 0 0, .int 0 0, .int 3 0, .ref 433, .bool true, .int 181 0, .ref 434, .none, .ref 435, .ref 436, .ref 437, .int 776 0, .int 225 0, ks "/claim/cut.py" 777]), #[]⟩),
  (439, ⟨.type "function", none, (kfn "__init__" "Glyph.__init__" (kmth 32 0) (.none) (.none) (.none) (ks "paperhold.textout" 737) (.ref 438)), #[]⟩),
  (445, ⟨.type "code", none, (.fields #[ks "told" 779, ks "Glyph.told" 780, ks "/claim/cut.py" 781, .int 232 0, .int 1 0, .int 0 0, .int 0 0, .int 3 0, .ref 440, .bool true, .int 181 0, .ref 441, .none, .ref 442, .ref 443, .ref 444, .int 783 0, .int 232 0, ks "/claim/cut.py" 784]), #[]⟩),
  (446, ⟨.type "function", none, (kfn "told" "Glyph.told" (kmth 32 1) (.none) (.none) (.none) (ks "paperhold.textout" 737) (.ref 445)), #[]⟩),
  (448, ⟨.type "dict", none, (.dict #[ke P "__module__" 762 (ks "paperhold.textout" 737), ke P "__firstlineno__" 766 (.int 223 765), ke P "__init__" 778 (.ref 439), ke P "told" 785 (.ref 446), ke P "__static_attributes__" 791 (.ref 447), ke P "__dict__" 793 (.ref 450), ke P "__weakref__" 795 (.ref 451), ke P "__doc__" 796 (.none)] 4), #[]⟩),
  (449, ⟨.type "type", none, (.cls { name := "Glyph", bases := [.type "object"], mro := [.ref 449, .type "object"], ns := 448, qualname := "Glyph", hasDict := true, slotNames := [], abstract := false, hasDel := false }), #[none, none, some (ks "Glyph" 755), some (ks "Glyph" 763), some (.builtin "object.__new__"), some (.bool true)]⟩),
  (466, ⟨.type "code", none, (.fields #[ks "__init__" 811, ks "TextSheet.__init__" 812, ks "/claim/cut.py" 813, .int 236 0, .int 5 0, .int 0 0, .int 0 0, .int 3 0, .ref 461, .bool true, .int 181 0, .ref 462, .none, .ref 463, .ref 464, .ref 465, .int 819 0, .int 236 0, ks "/claim/cut.py" 820]), #[]⟩),
  (467, ⟨.type "function", none, (kfn "__init__" "TextSheet.__init__" (kmth 33 0) (.none) (.none) (.none) (ks "paperhold.textout" 737) (.ref 466)), #[]⟩),
  (469, ⟨.type "dict", none, (.dict #[ke P "__module__" 806 (ks "paperhold.textout" 737), ke P "__firstlineno__" 810 (.int 234 809), ke P "__init__" 821 (.ref 467), ke P "__static_attributes__" 826 (.ref 468), ke P "__dict__" 828 (.ref 471), ke P "__weakref__" 830 (.ref 472), ke P "__doc__" 831 (.none)] 4), #[]⟩),
  (470, ⟨.type "type", none, (.cls { name := "TextSheet", bases := [.type "object"], mro := [.ref 470, .type "object"], ns := 469, qualname := "TextSheet", hasDict := true, slotNames := [], abstract := false, hasDel := false }), #[none, none, some (ks "TextSheet" 799), some (ks "TextSheet" 807), some (.builtin "object.__new__"), some (.bool true)]⟩),
  (487, ⟨.type "code", none, (.fields #[ks "__init__" 846, ks "TextState.__init__" 847, ks "/claim/cut.py" 848, .int 243 0, .int 2 0, .int 0 0, .int 0 0, .int 3 0, .ref 482, .bool true, .int 181 0, .ref 483, .none, .ref 484, .ref 485, .ref 486, .int 851 0, .int 243 0, ks "/claim/cut.py" 852]), #[]⟩),
  (488, ⟨.type "function", none, (kfn "__init__" "TextState.__init__" (kmth 34 0) (.none) (.none) (.none) (ks "paperhold.textout" 737) (.ref 487)), #[]⟩),
  (494, ⟨.type "code", none, (.fields #[ks "copied" 854, ks "TextState.copied" 855, ks "/claim/cut.py" 856, .int 249 0, .int 1 0, .int 0 0, .int 0 0, .int 3 0, .ref 489, .bool true, .int 181 0, .ref 490, .none, .ref 491, .ref 492, .ref 493, .int 859 0, .int 249 0, ks "/claim/cut.py" 860]), #[]⟩),
  (495, ⟨.type "function", none, (kfn "copied" "TextState.copied" (kmth 34 1) (.none) (.none) (.none) (ks "paperhold.textout" 737) (.ref 494)), #[]⟩),
  (501, ⟨.type "code", none, (.fields #[ks "stretched" 862, ks "TextState.stretched" 863, ks "/claim/cut.py" 864, .int 256 0, .int 2 0, .int 0 0, .int 0 0, .int 3 0, .ref 496, .bool true, .int 181 0, .ref 497, .none, .ref 498, .ref 499, .ref 500, .int 867 0, .int 256 0, ks "/claim/cut.py" 868]), #[]⟩),
  (502, ⟨.type "function", none, (kfn "stretched" "TextState.stretched" (kmth 34 2) (.none) (.none) (.none) (ks "paperhold.textout" 737) (.ref 501)), #[]⟩),
  (504, ⟨.type "dict", none, (.dict #[ke P "__module__" 841 (ks "paperhold.textout" 737), ke P "__firstlineno__" 845 (.int 241 844), ke P "__init__" 853 (.ref 488), ke P "copied" 861 (.ref 495), ke P "stretched" 869 (.ref 502), ke P "__static_attributes__" 874 (.ref 503), ke P "__dict__" 876 (.ref 506), ke P "__weakref__" 878 (.ref 507), ke P "__doc__" 879 (.none)] 4), #[]⟩),
  (505, ⟨.type "type", none, (.cls { name := "TextState", bases := [.type "object"], mro := [.ref 505, .type "object"], ns := 504, qualname := "TextState", hasDict := true, slotNames := [], abstract := false, hasDel := false }), #[none, none, some (ks "TextState" 834), some (ks "TextState" 842), some (.builtin "object.__new__"), some (.bool true)]⟩),
  (515, ⟨.type "code", none, (.fields #[ks "advance" 882, ks "advance" 883, ks "/claim/cut.py" 884, .int 258 0, .int 2 0, .int 0 0, .int 0 0, .int 3 0, .ref 510, .bool true, .int 181 0, .ref 511, .none, .ref 512, .ref 513, .ref 514, .int 889 0, .int 258 0, ks "/claim/cut.py" 890]), #[]⟩),
  (516, ⟨.type "function", none, (kfn "advance" "advance" (kstm 35) (.none) (.none) (.none) (ks "paperhold.textout" 737) (.ref 515)), #[]⟩),
  (522, ⟨.type "code", none, (.fields #[ks "along" 892, ks "along" 893, ks "/claim/cut.py" 894, .int 264 0, .int 2 0, .int 0 0, .int 0 0, .int 3 0, .ref 517, .bool true, .int 181 0, .ref 518, .none, .ref 519, .ref 520, .ref 521, .int 899 0, .int 264 0, ks "/claim/cut.py" 900]), #[]⟩),
  (523, ⟨.type "function", none, (kfn "along" "along" (kstm 36) (.none) (.none) (.none) (ks "paperhold.textout" 737) (.ref 522)), #[]⟩),
  (529, ⟨.type "code", none, (.fields #[ks "shown_glyphs" 902, ks "shown_glyphs" 903, ks "/claim/cut.py" 904, .int 267 0, .int 3 0, .int 0 0, .int 0 0, .int 3 0, .ref 524, .bool true, .int 181 0, .ref 525, .none, .ref 526, .ref 527, .ref 528, .int 917 0, .int 267 0, ks "/claim/cut.py" 918]), #[]⟩),
  (530, ⟨.type "function", none, (kfn "shown_glyphs" "shown_glyphs" (kstm 37) (.none) (.none) (.none) (ks "paperhold.textout" 737) (.ref 529)), #[]⟩),
  (536, ⟨.type "code", none, (.fields #[ks "check_operands" 920, ks "check_operands" 921, ks "/claim/cut.py" 922, .int 280 0, .int 2 0, .int 0 0, .int 0 0, .int 3 0, .ref 531, .bool true, .int 181 0, .ref 532, .none, .ref 533, .ref 534, .ref 535, .int 927 0, .int 280 0, ks "/claim/cut.py" 928]), #[]⟩),
  (537, ⟨.type "function", none, (kfn "check_operands" "check_operands" (kstm 38) (.none) (.none) (.none) (ks "paperhold.textout" 737) (.ref 536)), #[]⟩),
  (550, ⟨.type "code", none, (.fields #[ks "__init__" 942, ks "TextWalk.__init__" 943, ks "/claim/cut.py" 944, .int 291 0, .int 3 0, .int 0 0, .int 0 0, .int 3 0, .ref 545, .bool true, .int 181 0, .ref 546, .none, .ref 547, .ref 548, .ref 549, .int 948 0, .int 291 0, ks "/claim/cut.py" 949]), #[]⟩),
  (551, ⟨.type "function", none, (kfn "__init__" "TextWalk.__init__" (kmth 39 0) (.none) (.none) (.none) (ks "paperhold.textout" 737) (.ref 550)), #[]⟩),
  (557, ⟨.type "code", none, (.fields #[ks "show" 951, ks "TextWalk.show" 952, ks "/claim/cut.py" 953, .int 299 0, .int 2 0, .int 0 0, .int 0 0, .int 3 0, .ref 552, .bool true, .int 181 0, .ref 553, .none, .ref 554, .ref 555, .ref 556, .int 958 0, .int 299 0, ks "/claim/cut.py" 959]), #[]⟩),
  (558, ⟨.type "function", none, (kfn "show" "TextWalk.show" (kmth 39 1) (.none) (.none) (.none) (ks "paperhold.textout" 737) (.ref 557)), #[]⟩),
  (571, ⟨.type "code", none, (.fields #[ks "next_row" 971, ks "TextWalk.next_row" 972, ks "/claim/cut.py" 973, .int 312 0, .int 3 0, .int 0 0, .int 0 0, .int 3 0, .ref 566, .bool true, .int 181 0, .ref 567, .none, .ref 568, .ref 569, .ref 570, .int 977 0, .int 312 0, ks "/claim/cut.py" 978]), #[]⟩),
  (572, ⟨.type "function", none, (kfn "next_row" "TextWalk.next_row" (kmth 39 3) (.none) (.none) (.none) (ks "paperhold.textout" 737) (.ref 571)), #[]⟩),
  (585, ⟨.type "code", none, (.fields #[ks "set_matrix" 987, ks "TextWalk.set_matrix" 988, ks "/claim/cut.py" 989, .int 319 0, .int 2 0, .int 0 0, .int 0 0, .int 3 0, .ref 580, .bool true, .int 181 0, .ref 581, .none, .ref 582, .ref 583, .ref 584, .int 992 0, .int 319 0, ks "/claim/cut.py" 993]), #[]⟩),
  (586, ⟨.type "function", none, (kfn "set_matrix" "TextWalk.set_matrix" (kmth 39 5) (.none) (.none) (.none) (ks "paperhold.textout" 737) (.ref 585)), #[]⟩),
  (588, ⟨.type "dict", none, (.dict #[ke P "__module__" 937 (ks "paperhold.textout" 737), ke P "__firstlineno__" 941 (.int 289 940), ke P "__init__" 950 (.ref 551), ke P "show" 960 (.ref 558), ke P "show_parts" 970 (.ref 565), ke P "next_row" 979 (.ref 572), ke P "feed" 986 (.ref 579), ke P "set_matrix" 994 (.ref 586), ke P "__static_attributes__" 1001 (.ref 587), ke P "__dict__" 1003 (.ref 590), ke P "__weakref__" 1005 (.ref 591), ke P "__doc__" 1006 (.none)] 4), #[]⟩),
  (589, ⟨.type "type", none, (.cls { name := "TextWalk", bases := [.type "object"], mro := [.ref 589, .type "object"], ns := 588, qualname := "TextWalk", hasDict := true, slotNames := [], abstract := false, hasDel := false }), #[none, none, some (ks "TextWalk" 930), some (ks "TextWalk" 938), some (.builtin "object.__new__"), some (.bool true)]⟩),
  (599, ⟨.type "code", none, (.fields #[ks "follow_placed" 1009, ks "follow_placed" 1010, ks "/claim/cut.py" 1011, .int 322 0, .int 3 0, .int 0 0, .int 0 0, .int 3 0, .ref 594, .bool true, .int 181 0, .ref 595, .none, .ref 596, .ref 597, .ref 598, .int 1015 0, .int 322 0, ks "/claim/cut.py" 1016]), #[]⟩),
  (600, ⟨.type "function", none, (kfn "follow_placed" "follow_placed" (kstm 40) (.none) (.none) (.none) (ks "paperhold.textout" 737) (.ref 599)), #[]⟩),
  (606, ⟨.type "code", none, (.fields #[ks "choose_font" 1018, ks "choose_font" 1019, ks "/claim/cut.py" 1020, .int 344 0, .int 2 0, .int 0 0, .int 0 0, .int 3 0, .ref 601, .bool true, .int 181 0, .ref 602, .none, .ref 603, .ref 604, .ref 605, .int 1023 0, .int 344 0, ks "/claim/cut.py" 1024]), #[]⟩),
  (607, ⟨.type "function", none, (kfn "choose_font" "choose_font" (kstm 41) (.none) (.none) (.none) (ks "paperhold.textout" 737) (.ref 606)), #[]⟩),
  (613, ⟨.type "code", none, (.fields #[ks "follow_state" 1026, ks "follow_state" 1027, ks "/claim/cut.py" 1028, .int 349 0, .int 3 0, .int 0 0, .int 0 0, .int 3 0, .ref 608, .bool true, .int 181 0, .ref 609, .none, .ref 610, .ref 611, .ref 612, .int 1032 0, .int 349 0, ks "/claim/cut.py" 1033]), #[]⟩),
  (614, ⟨.type "function", none, (kfn "follow_state" "follow_state" (kstm 42) (.none) (.none) (.none) (ks "paperhold.textout" 737) (.ref 613)), #[]⟩),
  (620, ⟨.type "code", none, (.fields #[ks "sheet_glyphs" 1035, ks "sheet_glyphs" 1036, ks "/claim/cut.py" 1037, .int 362 0, .int 2 0, .int 0 0, .int 0 0, .int 3 0, .ref 615, .bool true, .int 181 0, .ref 616, .none, .ref 617, .ref 618, .ref 619, .int 1046 0, .int 362 0, ks "/claim/cut.py" 1047]), #[]⟩),
  (621, ⟨.type "function", none, (kfn "sheet_glyphs" "sheet_glyphs" (kstm 43) (.none) (.none) (.none) (ks "paperhold.textout" 737) (.ref 620)), #[]⟩),
  (627, ⟨.type "code", none, (.fields #[ks "lay_glyphs" 1049, ks "lay_glyphs" 1050, ks "/claim/cut.py" 1051, .int 384 0, .int 1 0, .int 0 0, .int 0 0, .int 3 0, .ref 622, .bool true, .int 181 0, .ref 623, .none, .ref 624, .ref 625, .ref 626, .int 1053 0, .int 384 0, ks "/claim/cut.py" 1054]), #[]⟩),
  (628, ⟨.type "function", none, (kfn "lay_glyphs" "lay_glyphs" (kstm 44) (.none) (.none) (.none) (ks "paperhold.textout" 737) (.ref 627)), #[]⟩),
  (641, ⟨.type "code", none, (.fields #[ks "__init__" 1074, ks "CMap.__init__" 1075, ks "/claim/cut.py" 1076, .int 391 0, .int 3 0, .int 0 0, .int 0 0, .int 3 0, .ref 636, .bool true, .int 181 0, .ref 637, .none, .ref 638, .ref 639, .ref 640, .int 1080 0, .int 391 0, ks "/claim/cut.py" 1081]), #[]⟩),
  (642, ⟨.type "function", none, (kfn "__init__" "CMap.__init__" (kmth 48 0) (.none) (.none) (.none) (ks "paperhold.cmaps" 1056) (.ref 641)), #[]⟩),
  (649, ⟨.type "dict", none, (.dict #[ke P "__module__" 1069 (ks "paperhold.cmaps" 1056), ke P "__firstlineno__" 1073 (.int 389 1072), ke P "__init__" 1082 (.ref 642), ke P "told" 1088 (.ref 647), ke P "__static_attributes__" 1091 (.ref 648), ke P "__dict__" 1093 (.ref 651), ke P "__weakref__" 1095 (.ref 652), ke P "__doc__" 1096 (.none)] 4), #[]⟩),
  (650, ⟨.type "type", none, (.cls { name := "CMap", bases := [.type "object"], mro := [.ref 650, .type "object"], ns := 649, qualname := "CMap", hasDict := true, slotNames := [], abstract := false, hasDel := false }), #[none, none, some (ks "CMap" 1062), some (ks "CMap" 1070), some (.builtin "object.__new__"), some (.bool true)]⟩),
  (686, ⟨.type "dict", none, (.dict #[ke P "Euro" 1156 (.int 8364 1157), ke P "quotesinglbase" 1159 (.int 8218 1160), ke P "florin" 1162 (.int 402 1163), ke P "quotedblbase" 1165 (.int 8222 1166), ke P "ellipsis" 1168 (.int 8230 1169), ke P "dagger" 1171 (.int 8224 1172), ke P "daggerdbl" 1174 (.int 8225 1175), ke P "circumflex" 1177 (.int 710 1178), ke P "perthousand" 1180 (.int 8240 1181), ke P "Scaron" 1183 (.int 352 1184), ke P "guilsinglleft" 1186 (.int 8249 1187), ke P "OE" 1189 (.int 338 1190), ke P "Zcaron" 1192 (.int 381 1193), ke P "quoteleft" 1195 (.int 8216 1196), ke P "quoteright" 1198 (.int 8217 1199), ke P "quotedblleft" 1201 (.int 8220 1202), ke P "quotedblright" 1204 (.int 8221 1205), ke P "bullet" 1207 (.int 8226 1208), ke P "endash" 1210 (.int 8211 1211), ke P "emdash" 1213 (.int 8212 1214), ke P "tilde" 1216 (.int 732 1217), ke P "trademark" 1219 (.int 8482 1220), ke P "scaron" 1222 (.int 353 1223), ke P "guilsinglright" 1225 (.int 8250 1226), ke P "oe" 1228 (.int 339 1229), ke P "zcaron" 1231 (.int 382 1232), ke P "Ydieresis" 1234 (.int 376 1235), ke P "fraction" 1237 (.int 8260 1238), ke P "fi" 1240 (.int 64257 1241), ke P "fl" 1243 (.int 64258 1244), ke P "breve" 1246 (.int 728 1247), ke P "dotaccent" 1249 (.int 729 1250), ke P "ring" 1252 (.int 730 1253), ke P "hungarumlaut" 1255 (.int 733 1256), ke P "ogonek" 1258 (.int 731 1259), ke P "caron" 1260 (.int 711 1261), ke P "Lslash" 1262 (.int 321 1263), ke P "lslash" 1264 (.int 322 1265), ke P "dotlessi" 1266 (.int 305 1267)] 39), #[]⟩),
  (693, ⟨.type "code", none, (.fields #[ks "ascii_names" 1279, ks "ascii_names" 1280, ks "/claim/cut.py" 1281, .int 438 0, .int 0 0, .int 0 0, .int 0 0, .int 3 0, .ref 690, .bool true, .int 181 0, .ref 691, .none, .none, .none, .ref 692, .int 1282 0, .int 438 0, ks "/claim/cut.py" 1283]), #[]⟩),
  (694, ⟨.type "function", none, (kfn "ascii_names" "ascii_names" (kstm 62) (.none) (.none) (.none) (ks "paperhold.encodings" 1146) (.ref 693)), #[]⟩),
  (698, ⟨.type "code", none, (.fields #[ks "latin_names" 1285, ks "latin_names" 1286, ks "/claim/cut.py" 1287, .int 442 0, .int 0 0, .int 0 0, .int 0 0, .int 3 0, .ref 695, .bool true, .int 181 0, .ref 696, .none, .none, .none, .ref 697, .int 1288 0, .int 442 0, ks "/claim/cut.py" 1289]), #[]⟩),
  (699, ⟨.type "function", none, (kfn "latin_names" "latin_names" (kstm 63) (.none) (.none) (.none) (ks "paperhold.encodings" 1146) (.ref 698)), #[]⟩),
  (719, ⟨.type "code", none, (.fields #[ks "known_code" 1307, ks "known_code" 1308, ks "/claim/cut.py" 1309, .int 456 0, .int 1 0, .int 0 0, .int 0 0, .int 3 0, .ref 714, .bool true, .int 181 0, .ref 715, .none, .ref 716, .ref 717, .ref 718, .int 1312 0, .int 456 0, ks "/claim/cut.py" 1313]), #[]⟩),
  (720, ⟨.type "function", none, (kfn "known_code" "known_code" (kstm 66) (.none) (.none) (.none) (ks "paperhold.encodings" 1146) (.ref 719)), #[]⟩),
  (724, ⟨.type "code", none, (.fields #[ks "part_text" 1315, ks "part_text" 1316, ks "/claim/cut.py" 1317, .int 466 0, .int 1 0, .int 0 0, .int 0 0, .int 3 0, .ref 721, .bool true, .int 181 0, .ref 722, .none, .none, .none, .ref 723, .int 1318 0, .int 466 0, ks "/claim/cut.py" 1319]), #[]⟩),
  (725, ⟨.type "function", none, (kfn "part_text" "part_text" (kstm 67) (.none) (.none) (.none) (ks "paperhold.encodings" 1146) (.ref 724)), #[]⟩),
  (729, ⟨.type "code", none, (.fields #[ks "glyph_text" 1321, ks "glyph_text" 1322, ks "/claim/cut.py" 1323, .int 479 0, .int 1 0, .int 0 0, .int 0 0, .int 3 0, .ref 726, .bool true, .int 181 0, .ref 727, .none, .none, .none, .ref 728, .int 1324 0, .int 479 0, ks "/claim/cut.py" 1325]), #[]⟩),
  (730, ⟨.type "function", none, (kfn "glyph_text" "glyph_text" (kstm 68) (.none) (.none) (.none) (ks "paperhold.encodings" 1146) (.ref 729)), #[]⟩),
  (736, ⟨.type "code", none, (.fields #[ks "width_in" 1329, ks "width_in" 1330, ks "/claim/cut.py" 1331, .int 482 0, .int 3 0, .int 0 0, .int 0 0, .int 3 0, .ref 731, .bool true, .int 181 0, .ref 732, .none, .ref 733, .ref 734, .ref 735, .int 1338 0, .int 482 0, ks "/claim/cut.py" 1339]), #[]⟩),
  (737, ⟨.type "function", none, (kfn "width_in" "width_in" (kstm 70) (.none) (.none) (.none) (ks "paperhold.fonts" 1327) (.ref 736)), #[]⟩),
  (764, ⟨.type "code", none, (.fields #[ks "__init__" 1375, ks "Font.__init__" 1376, ks "/claim/cut.py" 1377, .int 498 0, .int 8 0, .int 0 0, .int 0 0, .int 3 0, .ref 759, .bool true, .int 181 0, .ref 760, .none, .ref 761, .ref 762, .ref 763, .int 1386 0, .int 498 0, ks "/claim/cut.py" 1387]), #[]⟩),
  (765, ⟨.type "function", none, (kfn "__init__" "Font.__init__" (kmth 73 0) (.none) (.none) (.none) (ks "paperhold.fonts" 1327) (.ref 764)), #[]⟩),
  (769, ⟨.type "code", none, (.fields #[ks "codes" 1389, ks "Font.codes" 1390, ks "/claim/cut.py" 1391, .int 507 0, .int 2 0, .int 0 0, .int 0 0, .int 3 0, .ref 766, .bool true, .int 181 0, .ref 767, .none, .none, .none, .ref 768, .int 1392 0, .int 507 0, ks "/claim/cut.py" 1393]), #[]⟩),
  (770, ⟨.type "function", none, (kfn "codes" "Font.codes" (kmth 73 1) (.none) (.none) (.none) (ks "paperhold.fonts" 1327) (.ref 769)), #[]⟩),
  (776, ⟨.type "code", none, (.fields #[ks "width" 1395, ks "Font.width" 1396, ks "/claim/cut.py" 1397, .int 512 0, .int 2 0, .int 0 0, .int 0 0, .int 3 0, .ref 771, .bool true, .int 181 0, .ref 772, .none, .ref 773, .ref 774, .ref 775, .int 1401 0, .int 512 0, ks "/claim/cut.py" 1402]), #[]⟩),
  (777, ⟨.type "function", none, (kfn "width" "Font.width" (kmth 73 2) (.none) (.none) (.none) (ks "paperhold.fonts" 1327) (.ref 776)), #[]⟩),
  (783, ⟨.type "code", none, (.fields #[ks "text" 1404, ks "Font.text" 1405, ks "/claim/cut.py" 1406, .int 519 0, .int 2 0, .int 0 0, .int 0 0, .int 3 0, .ref 778, .bool true, .int 181 0, .ref 779, .none, .ref 780, .ref 781, .ref 782, .int 1409 0, .int 519 0, ks "/claim/cut.py" 1410]), #[]⟩),
  (784, ⟨.type "function", none, (kfn "text" "Font.text" (kmth 73 3) (.none) (.none) (.none) (ks "paperhold.fonts" 1327) (.ref 783)), #[]⟩),
  (786, ⟨.type "dict", none, (.dict #[ke P "__module__" 1370 (ks "paperhold.fonts" 1327), ke P "__firstlineno__" 1374 (.int 496 1373), ke P "__init__" 1388 (.ref 765), ke P "codes" 1394 (.ref 770), ke P "width" 1403 (.ref 777), ke P "text" 1411 (.ref 784), ke P "__static_attributes__" 1419 (.ref 785), ke P "__dict__" 1421 (.ref 788), ke P "__weakref__" 1423 (.ref 789), ke P "__doc__" 1424 (.none)] 4), #[]⟩),
  (787, ⟨.type "type", none, (.cls { name := "Font", bases := [.type "object"], mro := [.ref 787, .type "object"], ns := 786, qualname := "Font", hasDict := true, slotNames := [], abstract := false, hasDel := false }), #[none, none, some (ks "Font" 1363), some (ks "Font" 1371), some (.builtin "object.__new__"), some (.bool true)]⟩),
  (797, ⟨.type "code", none, (.fields #[ks "_law_draw" 1429, ks "_law_draw" 1430, ks "/claim/cut.py" 1431, .int 524 0, .int 2 0, .int 0 0, .int 0 0, .int 3 0, .ref 792, .bool true, .int 181 0, .ref 793, .none, .ref 794, .ref 795, .ref 796, .int 1436 0, .int 524 0, ks "/claim/cut.py" 1437]), #[]⟩),
  (798, ⟨.type "function", none, (kfn "_law_draw" "_law_draw" (kstm 75) (.none) (.none) (.none) (ks "law_og0196_01" 1427) (.ref 797)), #[]⟩),
  (804, ⟨.type "code", none, (.fields #[ks "_law_number" 1439, ks "_law_number" 1440, ks "/claim/cut.py" 1441, .int 529 0, .int 1 0, .int 0 0, .int 0 0, .int 3 0, .ref 799, .bool true, .int 181 0, .ref 800, .none, .ref 801, .ref 802, .ref 803, .int 1444 0, .int 529 0, ks "/claim/cut.py" 1445]), #[]⟩),
  (805, ⟨.type "function", none, (kfn "_law_number" "_law_number" (kstm 76) (.none) (.none) (.none) (ks "law_og0196_01" 1427) (.ref 804)), #[]⟩),
  (809, ⟨.type "code", none, (.fields #[ks "_law_six" 1447, ks "_law_six" 1448, ks "/claim/cut.py" 1449, .int 532 0, .int 1 0, .int 0 0, .int 0 0, .int 3 0, .ref 806, .bool true, .int 181 0, .ref 807, .none, .none, .none, .ref 808, .int 1450 0, .int 532 0, ks "/claim/cut.py" 1451]), #[]⟩),
  (810, ⟨.type "function", none, (kfn "_law_six" "_law_six" (kstm 77) (.none) (.none) (.none) (ks "law_og0196_01" 1427) (.ref 809)), #[]⟩),
  (816, ⟨.type "code", none, (.fields #[ks "_law_matrix" 1453, ks "_law_matrix" 1454, ks "/claim/cut.py" 1455, .int 534 0, .int 1 0, .int 0 0, .int 0 0, .int 3 0, .ref 811, .bool true, .int 181 0, .ref 812, .none, .ref 813, .ref 814, .ref 815, .int 1457 0, .int 534 0, ks "/claim/cut.py" 1458]), #[]⟩),
  (817, ⟨.type "function", none, (kfn "_law_matrix" "_law_matrix" (kstm 78) (.none) (.none) (.none) (ks "law_og0196_01" 1427) (.ref 816)), #[]⟩),
  (823, ⟨.type "code", none, (.fields #[ks "_law_block" 1460, ks "_law_block" 1461, ks "/claim/cut.py" 1462, .int 536 0, .int 1 0, .int 0 0, .int 0 0, .int 3 0, .ref 818, .bool true, .int 181 0, .ref 819, .none, .ref 820, .ref 821, .ref 822, .int 1467 0, .int 536 0, ks "/claim/cut.py" 1468]), #[]⟩),
  (824, ⟨.type "function", none, (kfn "_law_block" "_law_block" (kstm 79) (.none) (.none) (.none) (ks "law_og0196_01" 1427) (.ref 823)), #[]⟩),
  (830, ⟨.type "code", none, (.fields #[ks "_law_form" 1470, ks "_law_form" 1471, ks "/claim/cut.py" 1472, .int 541 0, .int 5 0, .int 0 0, .int 0 0, .int 3 0, .ref 825, .bool true, .int 181 0, .ref 826, .none, .ref 827, .ref 828, .ref 829, .int 1483 0, .int 541 0, ks "/claim/cut.py" 1484]), #[]⟩),
  (831, ⟨.type "function", none, (kfn "_law_form" "_law_form" (kstm 80) (.none) (.none) (.none) (ks "law_og0196_01" 1427) (.ref 830)), #[]⟩),
  (837, ⟨.type "code", none, (.fields #[ks "_law_item" 1486, ks "_law_item" 1487, ks "/claim/cut.py" 1488, .int 549 0, .int 5 0, .int 0 0, .int 0 0, .int 3 0, .ref 832, .bool true, .int 181 0, .ref 833, .none, .ref 834, .ref 835, .ref 836, .int 1499 0, .int 549 0, ks "/claim/cut.py" 1500]), #[]⟩),
  (838, ⟨.type "function", none, (kfn "_law_item" "_law_item" (kstm 81) (.none) (.none) (.none) (ks "law_og0196_01" 1427) (.ref 837)), #[]⟩),
  (844, ⟨.type "code", none, (.fields #[ks "_law_items" 1502, ks "_law_items" 1503, ks "/claim/cut.py" 1504, .int 569 0, .int 5 0, .int 0 0, .int 0 0, .int 3 0, .ref 839, .bool true, .int 181 0, .ref 840, .none, .ref 841, .ref 842, .ref 843, .int 1515 0, .int 569 0, ks "/claim/cut.py" 1516]), #[]⟩),
  (845, ⟨.type "function", none, (kfn "_law_items" "_law_items" (kstm 82) (.none) (.none) (.none) (ks "law_og0196_01" 1427) (.ref 844)), #[]⟩),
  (849, ⟨.type "code", none, (.fields #[ks "_law_told" 1518, ks "_law_told" 1519, ks "/claim/cut.py" 1520, .int 579 0, .int 1 0, .int 0 0, .int 0 0, .int 3 0, .ref 846, .bool true, .int 181 0, .ref 847, .none, .none, .none, .ref 848, .int 1521 0, .int 579 0, ks "/claim/cut.py" 1522]), #[]⟩),
  (850, ⟨.type "function", none, (kfn "_law_told" "_law_told" (kstm 83) (.none) (.none) (.none) (ks "law_og0196_01" 1427) (.ref 849)), #[]⟩),
  (856, ⟨.type "code", none, (.fields #[ks "law" 1524, ks "law" 1525, ks "/claim/cut.py" 1526, .int 581 0, .int 1 0, .int 0 0, .int 0 0, .int 3 0, .ref 851, .bool true, .int 181 0, .ref 852, .none, .ref 853, .ref 854, .ref 855, .int 1540 0, .int 581 0, ks "/claim/cut.py" 1541]), #[]⟩),
  (857, ⟨.type "function", none, (kfn "law" "law" (kstm 84) (.none) (.none) (.none) (ks "law_og0196_01" 1427) (.ref 856)), #[]⟩)
]
noncomputable def Kas : List Nat := [3, 86, 87, 93, 94, 107, 108, 149, 150, 166, 167, 184, 185, 191, 192, 205, 206, 208, 209, 221, 227, 228, 230, 231, 251, 252, 290, 291, 297, 298, 323, 324, 330, 331, 337, 338, 344, 345, 359, 360, 370, 371, 377, 378, 384, 385, 398, 399, 406, 407, 417, 418, 422, 423, 424, 425, 438, 439, 445, 446, 448, 449, 466, 467, 469, 470, 487, 488, 494, 495, 501, 502, 504, 505, 515, 516, 522, 523, 529, 530, 536, 537, 550, 551, 557, 558, 571, 572, 585, 586, 588, 589, 599, 600, 606, 607, 613, 614, 620, 621, 627, 628, 641, 642, 649, 650, 686, 693, 694, 698, 699, 719, 720, 724, 725, 729, 730, 736, 737, 764, 765, 769, 770, 776, 777, 783, 784, 786, 787, 797, 798, 804, 805, 809, 810, 816, 817, 823, 824, 830, 831, 837, 838, 844, 845, 849, 850, 856, 857]
theorem K_as (P : Params) : Kas = (K P).map (·.1) := by kernel_rfl
noncomputable def globTab : List (PySem.Str × Value) := [
  (PySem.Str.ofString "_wall", .ref 21),
  (PySem.Str.ofString "PaperError", .ref 46),
  (PySem.Str.ofString "PaintFault", .ref 59),
  (PySem.Str.ofString "FontFault", .ref 71),
  (PySem.Str.ofString "Decimal", .ref 167),
  (PySem.Str.ofString "sign_text", .ref 178),
  (PySem.Str.ofString "decimal_of", .ref 185),
  (PySem.Str.ofString "at_one_scale", .ref 192),
  (PySem.Str.ofString "Name", .ref 209),
  (PySem.Str.ofString "String", .ref 231),
  (PySem.Str.ofString "Stream", .ref 252),
  (PySem.Str.ofString "Reference", .ref 280),
  (PySem.Str.ofString "kind_of", .ref 291),
  (PySem.Str.ofString "is_number", .ref 298),
  (PySem.Str.ofString "told_plain", .ref 305),
  (PySem.Str.ofString "told", .ref 310),
  (PySem.Str.ofString "told_objects", .ref 310),
  (PySem.Str.ofString "Matrix", .ref 360),
  (PySem.Str.ofString "identity", .ref 371),
  (PySem.Str.ofString "translation", .ref 378),
  (PySem.Str.ofString "from_array", .ref 385),
  (PySem.Str.ofString "Operation", .ref 407),
  (PySem.Str.ofString "text_kinds", .ref 418),
  (PySem.Str.ofString "fits_kind", .ref 423),
  (PySem.Str.ofString "PLACED_WORDS", .ref 424),
  (PySem.Str.ofString "SPACING_WORDS", .ref 425),
  (PySem.Str.ofString "Glyph", .ref 449),
  (PySem.Str.ofString "TextSheet", .ref 470),
  (PySem.Str.ofString "TextState", .ref 505),
  (PySem.Str.ofString "advance", .ref 516),
  (PySem.Str.ofString "along", .ref 523),
  (PySem.Str.ofString "shown_glyphs", .ref 530),
  (PySem.Str.ofString "check_operands", .ref 537),
  (PySem.Str.ofString "TextWalk", .ref 589),
  (PySem.Str.ofString "follow_placed", .ref 600),
  (PySem.Str.ofString "choose_font", .ref 607),
  (PySem.Str.ofString "follow_state", .ref 614),
  (PySem.Str.ofString "sheet_glyphs", .ref 621),
  (PySem.Str.ofString "lay_glyphs", .ref 628),
  (PySem.Str.ofString "CMap", .ref 650),
  (PySem.Str.ofString "code_of", .ref 661),
  (PySem.Str.ofString "code_octets", .ref 666),
  (PySem.Str.ofString "fitting", .ref 673),
  (PySem.Str.ofString "next_length", .ref 678),
  (PySem.Str.ofString "split_codes", .ref 685),
  (PySem.Str.ofString "OTHER_CODES", .ref 686),
  (PySem.Str.ofString "SURROGATES", .ref 689),
  (PySem.Str.ofString "ascii_names", .ref 694),
  (PySem.Str.ofString "latin_names", .ref 699),
  (PySem.Str.ofString "hex_number", .ref 706),
  (PySem.Str.ofString "is_sign_code", .ref 713),
  (PySem.Str.ofString "known_code", .ref 720),
  (PySem.Str.ofString "part_text", .ref 725),
  (PySem.Str.ofString "glyph_text", .ref 730),
  (PySem.Str.ofString "width_in", .ref 737),
  (PySem.Str.ofString "standard_width", .ref 744),
  (PySem.Str.ofString "cid_of", .ref 751),
  (PySem.Str.ofString "Font", .ref 787),
  (PySem.Str.ofString "_law_draw", .ref 798),
  (PySem.Str.ofString "_law_number", .ref 805),
  (PySem.Str.ofString "_law_six", .ref 810),
  (PySem.Str.ofString "_law_matrix", .ref 817),
  (PySem.Str.ofString "_law_block", .ref 824),
  (PySem.Str.ofString "_law_form", .ref 831),
  (PySem.Str.ofString "_law_item", .ref 838),
  (PySem.Str.ofString "_law_items", .ref 845),
  (PySem.Str.ofString "_law_told", .ref 850),
  (PySem.Str.ofString "law", .ref 857)]
noncomputable def isQ (name : PySem.Str) : Value → Bool
  | .str x _ => PySem.W.Fast.sEq x name
  | _ => false
theorem isQ_eq (name : PySem.Str) : (fun e : DictEntry => e.key.isStr name) = fun e => isQ name e.key := by
  funext e
  cases h : e.key <;> try rfl
  rename_i x t
  show (x == name) = PySem.W.Fast.sEq x name
  rw [Bool.eq_iff_iff, beq_iff_eq, PySem.W.Fast.sEq_iff]
noncomputable def nsQ (K : Frag) (ns : Addr) (name : PySem.Str) : Option (Option Value) := match K.lookup ns with
  | some ⟨_, _, .dict es _, _⟩ => (match es.toList.find? (fun e => isQ name e.key) with
      | some e => some (some e.val)
      | none => if es.toList.any (·.refKey) then none else some none)
  | _ => none
theorem nsQ_eq (K : Frag) (ns : Addr) (name : PySem.Str) : nsIn K ns name = nsQ K ns name := by
  unfold nsIn nsQ
  rw [isQ_eq]
  rfl
theorem glob_K (P : Params) : (globTab.all fun x => nsIn (K P) mainGlobals x.1 == some (some x.2)) = true := by
  simp only [nsQ_eq]
  kernel_rfl
theorem gs_LOW_NAMES (P : Params) : nsIn (K P) mainGlobals (PySem.Str.ofString "LOW_NAMES") = some (some (ks "space exclam quotedbl numbersign dollar percent ampersand quotesingle parenleft parenright asterisk plus comma hyphen period slash zero one two three four five six seven eight nine colon semicolon less equal greater question at" 1148)) := by
  rw [nsQ_eq]
  kernel_rfl
theorem gs_MIDDLE_NAMES (P : Params) : nsIn (K P) mainGlobals (PySem.Str.ofString "MIDDLE_NAMES") = some (some (ks "bracketleft backslash bracketright asciicircum underscore grave" 1150)) := by
  rw [nsQ_eq]
  kernel_rfl
theorem gs_HIGH_NAMES (P : Params) : nsIn (K P) mainGlobals (PySem.Str.ofString "HIGH_NAMES") = some (some (ks "braceleft bar braceright asciitilde" 1152)) := by
  rw [nsQ_eq]
  kernel_rfl
theorem gs_LATIN_NAMES (P : Params) : nsIn (K P) mainGlobals (PySem.Str.ofString "LATIN_NAMES") = some (some (ks "exclamdown cent sterling currency yen brokenbar section dieresis copyright ordfeminine guillemotleft logicalnot hyphen registered macron degree plusminus twosuperior threesuperior acute mu paragraph periodcentered cedilla onesuperior ordmasculine guillemotright onequarter onehalf threequarters questiondown Agrave Aacute Acircumflex Atilde Adieresis Aring AE Ccedilla Egrave Eacute Ecircumflex Edieresis Igrave Iacute Icircumflex Idieresis Eth Ntilde Ograve Oacute Ocircumflex Otilde Odieresis multiply Oslash Ugrave Uacute Ucircumflex Udieresis Yacute Thorn germandbls" 1154)) := by
  rw [nsQ_eq]
  kernel_rfl
noncomputable def biTab : List (PySem.Str × Value) := [(PySem.Str.ofString "isinstance", (bootBuiltins (PySem.Str.ofString "isinstance")).getD .none), (PySem.Str.ofString "len", (bootBuiltins (PySem.Str.ofString "len")).getD .none), (PySem.Str.ofString "list", (bootBuiltins (PySem.Str.ofString "list")).getD .none), (PySem.Str.ofString "range", (bootBuiltins (PySem.Str.ofString "range")).getD .none), (PySem.Str.ofString "max", (bootBuiltins (PySem.Str.ofString "max")).getD .none), (PySem.Str.ofString "str", (bootBuiltins (PySem.Str.ofString "str")).getD .none), (PySem.Str.ofString "dict", (bootBuiltins (PySem.Str.ofString "dict")).getD .none), (PySem.Str.ofString "tuple", (bootBuiltins (PySem.Str.ofString "tuple")).getD .none), (PySem.Str.ofString "chr", (bootBuiltins (PySem.Str.ofString "chr")).getD .none), (PySem.Str.ofString "bool", (bootBuiltins (PySem.Str.ofString "bool")).getD .none), (PySem.Str.ofString "int", (bootBuiltins (PySem.Str.ofString "int")).getD .none), (PySem.Str.ofString "abs", (bootBuiltins (PySem.Str.ofString "abs")).getD .none), (PySem.Str.ofString "bytes", (bootBuiltins (PySem.Str.ofString "bytes")).getD .none), (PySem.Str.ofString "all", (bootBuiltins (PySem.Str.ofString "all")).getD .none)]
theorem bi_K (P : Params) : (biTab.all fun x => nsIn (K P) mainGlobals x.1 == some none && (bootBuiltins x.1 == some x.2)) = true := by
  simp only [nsQ_eq]
  kernel_rfl
abbrev lawRow : RowW := PySem.Challenge.rw_og0196_01.row.toRowW
end Mine
namespace Mine
theorem hd_said.tw7330849604454639629 : True := trivial
theorem hd_said.tw12150285567837507387 : True := trivial
set_option maxHeartbeats 80000000 in
set_option Elab.async true in
theorem hd_said (h : PySem.Challenge.rw_og0196_01.row.wellSaid = true → PySem.Challenge.rw_og0196_01.row.Holds) : PySem.Challenge.rw_og0196_01.Holds := by
  w_on
  o_law
  exact h (by assumption)
end Mine
set_option compiler.extract_closed false
set_option hygiene false
namespace Mine

abbrev Base := Addr → Option Obj
noncomputable def Le (b b' : Base) : Prop := ∀ a o, b a = some o → b' a = some o
theorem Le.rfl {b : Base} : Le b b := fun _ _ h => h
theorem Le.trans {b b' b'' : Base} (h : Le b b') (k : Le b' b'') : Le b b'' := fun a o e => k a o (h a o e)
abbrev Led := List (Addr × Obj)
abbrev Vs := List (Option Value)
structure Fm where
  L : Addr
  ns : List PySem.Str
  vs : Vs
noncomputable def lkF : List PySem.Str → Vs → PySem.Str → Option Value
  | n :: ns, v :: vs, x => if x = n then v else lkF ns vs x
  | _, _, _ => none
structure Am where
  w : World
  h₀ : Heap
  mg : PySem.Str → Option Value
  mb : PySem.Str → Option Value
  os : OsState
structure Am.Ok (a : Am) : Prop where
  K : (K a.w.params).In a.h₀
  g : a.h₀.Ns mainGlobals a.mg
  b : a.h₀.Ns builtinsNs a.mb
  bl : ∀ x v, (x, v) ∈ biTab → a.mb x = some v
  lim : a.h₀.NoLimit
  last : ∃ x o, a.h₀.get? x = some o ∧ x + 1 = a.h₀.objs.size

structure Holds (a : Am) (b : Base) (led : Led) (fs : List Fm) (s : Shared) : Prop where
  base : ∀ x o, b x = some o → s.heap.get? x = some o
  old : ∀ x o, a.h₀.get? x = some o → b x = some o
  ld : ∀ p ∈ led, s.heap.get? p.1 = some p.2 ∧ b p.1 = none
  frs : ∀ f ∈ fs, s.heap.Ns f.L (lkF f.ns f.vs) ∧ b f.L = none ∧ a.h₀.objs.size ≤ f.L
  nd : (led.map (·.1) ++ fs.map (·.L)).Nodup
  gens : s.gens = #[]
  os : s.os = a.os

section
variable {a : Am} {b b' : Base} {led led' : Led} {fs : List Fm} {s : Shared} {f : Fm} {up : List Fm}

theorem Holds.tk (H : Holds a b led fs s) (t : Nat) : Holds a b led fs { s with toks := t } := ⟨H.base, H.old, H.ld, H.frs, H.nd, H.gens, H.os⟩
theorem Ns_lt {h : Heap} {x : Addr} {m : PySem.Str → Option Value} (N : h.Ns x m) : ∃ o, h.get? x = some o := let ⟨o, _, _, e, _⟩ := N; ⟨o, e⟩
/-- the heap has grown: all that stood stands -/
theorem Holds.grow (H : Holds a b led fs s) {h' : Heap} (k : ∀ x o, s.heap.get? x = some o → h'.get? x = some o) (t : Nat) : Holds a b led fs { s with heap := h', toks := t } :=
  ⟨fun x o e => k _ _ (H.base x o e), H.old, fun p hp => ⟨k _ _ (H.ld p hp).1, (H.ld p hp).2⟩, fun f hf => ⟨(H.frs f hf).1.keeps k, (H.frs f hf).2⟩, H.nd, H.gens, H.os⟩
theorem Holds.alloc (H : Holds a b led fs s) {o : Obj} (hf : o.isFreed = false) (t : Nat) : Holds a b ((s.heap.objs.size, o) :: led) fs { s with heap := s.heap.push o, toks := t } := by
  have G := H.grow (h' := s.heap.push o) (fun x o' e => Heap.get?_push_of_some o e) t
  refine ⟨G.base, G.old, fun p hp => ?_, G.frs, ?_, G.gens, G.os⟩
  · rcases List.mem_cons.mp hp with rfl | hp
    · refine ⟨Heap.get?_push_size _ hf, ?_⟩
      cases q : b s.heap.objs.size with
      | none => rfl
      | some o' => exact absurd (Heap.lt_size (H.base _ _ q)) (Nat.lt_irrefl _)
    · exact G.ld p hp
  · refine List.nodup_cons.mpr ⟨fun hm => ?_, H.nd⟩
    rcases List.mem_append.mp hm with hm | hm
    · obtain ⟨p, hp, e⟩ := List.mem_map.mp hm
      have := Heap.lt_size (H.ld p hp).1
      rw [e] at this; exact Nat.lt_irrefl _ this
    · obtain ⟨f, hf', e⟩ := List.mem_map.mp hm
      obtain ⟨o', e'⟩ := Ns_lt (H.frs f hf').1
      have := Heap.lt_size e'
      rw [e] at this; exact Nat.lt_irrefl _ this
theorem Holds.led_ne (H : Holds a b led fs s) {p : Addr × Obj} (hp : p ∈ led) {f : Fm} (hf : f ∈ fs) : p.1 ≠ f.L := by
  intro e
  exact (List.nodup_append.mp H.nd).2.2 _ (List.mem_map_of_mem hp) _ (List.mem_map_of_mem hf) e
/-- one object of the ledger is changed -/
theorem Holds.upd {pre post : Led} {d : Addr} {o o' : Obj} (H : Holds a b (pre ++ (d, o) :: post) fs s) {h' : Heap} (k : Heap.ExtBut d s.heap h') (hd : h'.get? d = some o') (t : Nat) :
    Holds a b (pre ++ (d, o') :: post) fs { s with heap := h', toks := t } := by
  have D := H.ld (d, o) (by simp)
  refine ⟨fun x o₁ e => k _ _ (fun q => ?_) (H.base x o₁ e), H.old, fun p hp => ?_, fun f hf => ⟨?_, (H.frs f hf).2⟩, ?_, H.gens, H.os⟩
  · rw [q] at e; rw [D.2] at e; cases e
  · by_cases q : p.1 = d
    · have nd := (List.nodup_append.mp H.nd).1
      rw [List.map_append, List.map_cons, List.nodup_append] at nd
      rcases List.mem_append.mp hp with hp | hp
      · exact absurd q (nd.2.2 _ (List.mem_map_of_mem hp) _ (.head _))
      · rcases List.mem_cons.mp hp with rfl | hp
        · exact ⟨hd, D.2⟩
        · have hm := List.mem_map_of_mem (f := Prod.fst) hp
          rw [q] at hm
          exact absurd hm (List.nodup_cons.mp nd.2.1).1
    · have hp' : p ∈ pre ++ (d, o) :: post := by
        rcases List.mem_append.mp hp with hp | hp
        · exact List.mem_append_left _ hp
        · rcases List.mem_cons.mp hp with rfl | hp
          · exact absurd rfl q
          · exact List.mem_append_right _ (.tail _ hp)
      exact ⟨k _ _ q (H.ld p hp').1, (H.ld p hp').2⟩
  · exact (H.frs f hf).1.extBut k fun q => H.led_ne (p := (d, o)) (by simp) hf q.symm
  · have := H.nd; simp only [List.map_append, List.map_cons] at this ⊢; exact this
/-- the frame on top stores -/
theorem Holds.store {vs' : Vs} (H : Holds a b led (f :: up) s) {h' : Heap} (k : Heap.ExtBut f.L s.heap h') (hn : h'.Ns f.L (lkF f.ns vs')) (t : Nat) :
    Holds a b led (⟨f.L, f.ns, vs'⟩ :: up) { s with heap := h', toks := t } := by
  have D := H.frs f (.head _)
  refine ⟨fun x o₁ e => k _ _ (fun q => ?_) (H.base x o₁ e), H.old, fun p hp => ⟨k _ _ (H.led_ne hp (.head _)) (H.ld p hp).1, (H.ld p hp).2⟩, fun g hg => ?_, H.nd, H.gens, H.os⟩
  · rw [q] at e; rw [D.2.1] at e; cases e
  · rcases List.mem_cons.mp hg with rfl | hg
    · exact ⟨hn, D.2⟩
    · refine ⟨(H.frs g (.tail _ hg)).1.extBut k fun q => ?_, (H.frs g (.tail _ hg)).2⟩
      have := (List.nodup_append.mp H.nd).2.1
      rw [List.map_cons, List.nodup_cons] at this
      exact this.1 (q ▸ List.mem_map_of_mem hg)
theorem Holds.drop {p : Addr × Obj} (H : Holds a b (p :: led) fs s) : Holds a b led fs s :=
  ⟨H.base, H.old, fun q hq => H.ld q (.tail _ hq), H.frs, by have := H.nd; rw [List.map_cons, List.cons_append, List.nodup_cons] at this; exact this.2, H.gens, H.os⟩
theorem Holds.perm (H : Holds a b led fs s) (p : led.Perm led') : Holds a b led' fs s :=
  ⟨H.base, H.old, fun q hq => H.ld q (p.mem_iff.mpr hq), H.frs, (((p.map (·.1)).append_right _).nodup_iff).mp H.nd, H.gens, H.os⟩
/-- an object of the ledger is laid with the frozen ones -/
noncomputable def put (b : Base) (x : Addr) (o : Obj) : Base := fun y => if y = x then some o else b y
theorem le_put {x : Addr} {o : Obj} (h : b x = none) : Le b (put b x o) := fun y o' e => by
  unfold put
  rw [if_neg (fun q => by rw [q, h] at e; cases e)]
  exact e
theorem put_self {x : Addr} {o : Obj} : put b x o x = some o := if_pos rfl
theorem Holds.freeze {x : Addr} {o : Obj} (H : Holds a b ((x, o) :: led) fs s) : Le b (put b x o) ∧ Holds a (put b x o) led fs s := by
  have D := H.ld (x, o) (.head _)
  have nd := H.nd
  rw [List.map_cons, List.cons_append, List.nodup_cons, List.mem_append] at nd
  have k : ∀ y, y ≠ x → put b x o y = b y := fun y h => if_neg h
  refine ⟨le_put D.2, fun y o' e => ?_, fun y o' e => le_put D.2 _ _ (H.old y o' e), fun p hp => ?_, fun f hf => ?_, nd.2, H.gens, H.os⟩
  · by_cases q : y = x
    · subst q; rw [put_self] at e; cases e; exact D.1
    · rw [k y q] at e; exact H.base y o' e
  · refine ⟨(H.ld p (.tail _ hp)).1, ?_⟩
    have hm := List.mem_map_of_mem (f := Prod.fst) hp
    rw [k _ (fun q => nd.1 (.inl (by rw [q] at hm; exact hm)))]; exact (H.ld p (.tail _ hp)).2
  · refine ⟨(H.frs f hf).1, ?_⟩
    rw [k _ (fun q => nd.1 (.inr (q ▸ List.mem_map_of_mem (f := Fm.L) hf)))]; exact (H.frs f hf).2
theorem Holds.stays (H : Holds a b led fs s) : ∀ x o, a.h₀.get? x = some o → s.heap.get? x = some o := fun x o e => H.base _ _ (H.old x o e)
theorem Am.Ok.big {a : Am} (A : a.Ok) {h : Heap} (k : ∀ x o, a.h₀.get? x = some o → h.get? x = some o) : a.h₀.objs.size ≤ h.objs.size := by
  obtain ⟨x, o, e, q⟩ := A.last
  rw [← q]; exact Heap.lt_size (k _ _ e)
theorem Holds.has (H : Holds a b led fs s) {p : Addr × Obj} (hp : p ∈ led) : s.heap.get? p.1 = some p.2 := (H.ld p hp).1
end

/-- the names of a block: its own, and those that it takes from the top -/
structure Sc where
  ns : List PySem.Str
  gs : List (PySem.Str × Value)
/-- a def of the text -/
structure FnR where
  f : Addr
  cd : Addr
  name : String
  qual : String
  st : Stmt
  dV : Value
  pm : Value
  sc : Sc
abbrev FnR.scope (F : FnR) : PySem.Scope := scopeOf F.st
abbrev FnR.env (F : FnR) (L : Addr) : Env := envOf (PySem.Str.ofString F.qual) F.scope L F.f (.ref F.cd)
abbrev FnR.fd (F : FnR) : FuncData := fnOf (PySem.Str.ofString F.name) (PySem.Str.ofString F.qual) (paramsOf F.st) (bodyOf F.st) (scopeOf F.st) F.dV .none .none F.pm none (.ref F.cd) .none
abbrev FnR.obj (F : FnR) : Obj := ⟨.type "function", none, .func F.fd, #[]⟩
noncomputable def kindQ (names : List (PySem.Str × NameKind)) (x : PySem.Str) : Option NameKind := (names.find? fun y => PySem.W.Fast.sEq y.1 x).map (·.2)
theorem sEq_beq (x y : PySem.Str) : PySem.W.Fast.sEq x y = (x == y) := by
  rw [Bool.eq_iff_iff, beq_iff_eq, PySem.W.Fast.sEq_iff]
theorem kindQ_eq (names : List (PySem.Str × NameKind)) (x : PySem.Str) : kindQ names x = names.lookup x := by
  unfold kindQ
  induction names with
  | nil => rfl
  | cons y r ih =>
    obtain ⟨n, k⟩ := y
    rw [List.find?_cons, List.lookup_cons, sEq_beq]
    show Option.map _ (match n == x with | true => some (n, k) | false => r.find? _) = match x == n with | true => some k | false => r.lookup x
    have e : (x == n) = (n == x) := by rw [Bool.eq_iff_iff, beq_iff_eq, beq_iff_eq]; exact ⟨Eq.symm, Eq.symm⟩
    rw [e]
    cases n == x
    · exact ih
    · rfl
noncomputable def nodupQ : List PySem.Str → Bool
  | [] => true
  | x :: r => r.all (fun y => !PySem.W.Fast.sEq x y) && nodupQ r
theorem nodupQ_of : ∀ {l : List PySem.Str}, nodupQ l = true → l.Nodup
  | [], _ => .nil
  | x :: r, h => by
    obtain ⟨h1, h2⟩ := Bool.and_eq_true_iff.mp h
    refine List.nodup_cons.mpr ⟨fun hm => ?_, nodupQ_of h2⟩
    have := List.all_eq_true.mp h1 x hm
    rw [(PySem.W.Fast.sEq_iff).mpr rfl] at this
    cases this
noncomputable def kindIs (k : Option NameKind) (l : Nat) : Bool := match k, l with
  | some .local, 0 => true
  | some .globalImplicit, 1 => true
  | _, _ => false
noncomputable def tabQ (t : List (PySem.Str × Value)) (x : PySem.Str) (v : Value) : Bool := t.any fun y => PySem.W.Fast.sEq y.1 x && decide (y.2 = v)
theorem tabQ_of {t : List (PySem.Str × Value)} {x : PySem.Str} {v : Value} (h : tabQ t x v = true) : (x, v) ∈ t := by
  obtain ⟨y, hy, e⟩ := List.any_eq_true.mp h
  obtain ⟨e1, e2⟩ := Bool.and_eq_true_iff.mp e
  have e1 := PySem.W.Fast.sEq_iff.mp e1
  have e2 := of_decide_eq_true e2
  obtain ⟨n, u⟩ := y
  dsimp only at e1 e2
  subst e1 e2
  exact hy
noncomputable def FnR.chk (F : FnR) : Bool :=
  (match F.scope.kind with | .function => true | _ => false) && !F.scope.isCoroutine && !F.scope.isGenerator && F.scope.names.all (fun x => match x.2 with | .cell => false | _ => true) &&
  nodupQ F.sc.ns && F.sc.ns.all (fun x => kindIs (kindQ F.scope.names x) 0) && F.sc.ns.all (fun x => !PySem.W.Fast.sEq x "__debug__") && F.sc.gs.all (fun y => kindIs (kindQ F.scope.names y.1) 1 && !PySem.W.Fast.sEq y.1 "__debug__" && !PySem.W.Fast.sEq y.1 "__name__")
structure FnR.Ok (F : FnR) (a : Am) : Prop where
  obj : a.h₀.get? F.f = some F.obj
  code : a.h₀.CodeRec (.ref F.cd) (PySem.Str.ofString F.qual)
  kind : F.scope.kind = .function
  co : F.scope.isCoroutine = false
  gen : F.scope.isGenerator = false
  cell : ∀ x ∈ F.scope.names, x.2 ≠ .cell
  nd : F.sc.ns.Nodup
  loc : ∀ x ∈ F.sc.ns, F.scope.names.lookup x = some .local
  ndb : ∀ x ∈ F.sc.ns, x ≠ "__debug__"
  glo : ∀ y ∈ F.sc.gs, F.scope.names.lookup y.1 = some .globalImplicit ∧ y.1 ≠ "__debug__"
  val : ∀ y ∈ F.sc.gs, a.mg y.1 = some y.2 ∨ (a.mg y.1 = none ∧ a.mb y.1 = some y.2)
theorem FnR.Ok.of {F : FnR} {a : Am} (A : a.Ok) (h1 : (Mine.K a.w.params).lookup F.f = some F.obj) (h2 : codeIn (Mine.K a.w.params) (.ref F.cd) (PySem.Str.ofString F.qual) = true) (h3 : F.chk = true)
    (h4 : ∀ y ∈ F.sc.gs, y ∈ globTab ∨ nsIn (Mine.K a.w.params) mainGlobals y.1 = some (some y.2) ∨ y ∈ biTab) : F.Ok a := by
  unfold FnR.chk at h3
  simp only [Bool.and_eq_true] at h3
  obtain ⟨⟨⟨⟨⟨⟨⟨k1, k2⟩, k3⟩, k4⟩, k5⟩, k6⟩, k8⟩, k7⟩ := h3
  refine ⟨A.K _ _ h1, codeRec_of A.K h2, ?_, by simpa using k2, by simpa using k3, fun x hx => ?_, nodupQ_of k5, fun x hx => ?_, fun x hx e => ?_, fun y hy => ?_, fun y hy => ?_⟩
  · revert k1; cases F.scope.kind <;> simp
  · have := List.all_eq_true.mp k4 x hx
    revert this; cases x.2 <;> simp
  · have := List.all_eq_true.mp k6 x hx
    rw [kindQ_eq] at this
    revert this
    cases F.scope.names.lookup x with
    | none => intro h; cases h
    | some k => cases k <;> first | (intro _; rfl) | (intro h; cases h)
  · have := List.all_eq_true.mp k8 x hx
    rw [e, (PySem.W.Fast.sEq_iff).mpr rfl] at this; cases this
  · have := List.all_eq_true.mp k7 y hy
    simp only [Bool.and_eq_true, kindQ_eq] at this
    obtain ⟨⟨t1, t2⟩, _⟩ := this
    refine ⟨?_, fun e => ?_⟩
    · revert t1
      cases F.scope.names.lookup y.1 with
      | none => intro h; cases h
      | some k => cases k <;> first | (intro _; rfl) | (intro h; cases h)
    · rw [e, (PySem.W.Fast.sEq_iff).mpr rfl] at t2; cases t2
  · rcases h4 y hy with q | q | q
    · refine .inl ?_
      have := List.all_eq_true.mp (glob_K a.w.params) y q
      exact mg_of A.K A.g (beq_iff_eq.mp this)
    · exact .inl (mg_of A.K A.g q)
    · refine .inr ⟨?_, A.bl _ _ q⟩
      have := List.all_eq_true.mp (bi_K a.w.params) y q
      exact mg_none_of A.K A.g (beq_iff_eq.mp (Bool.and_eq_true_iff.mp this).1)

/-- where the walk stands -/
structure Cx (S : Sc) where
  am : Am
  A : Around
  env : Env
  up : List Fm
  ok : am.Ok
  hh : A.handled = none
  kind : env.scope.kind = .function
  gl : env.globals = mainGlobals
  bi : env.builtins = builtinsNs
  nd : S.ns.Nodup
  loc : ∀ x ∈ S.ns, env.kindOf x = some .local ∧ x ≠ "__debug__"
  glo : ∀ y ∈ S.gs, env.kindOf y.1 = some .globalImplicit ∧ y.1 ≠ "__debug__" ∧ (am.mg y.1 = some y.2 ∨ (am.mg y.1 = none ∧ am.mb y.1 = some y.2))
abbrev Cx.L {S : Sc} (X : Cx S) : Addr := X.env.locals
theorem Cx.int {S : Sc} (X : Cx S) : interactive X.env = false := by unfold interactive; rw [X.kind]; rfl
noncomputable def Cx.fs {S : Sc} (X : Cx S) (vs : Vs) : List Fm := ⟨X.L, S.ns, vs⟩ :: X.up
abbrev Post (α : Type) := α → Base → Led → Vs → Prop

structure Wp {S : Sc} {α : Type} (X : Cx S) (t : Sem α) (b : Base) (led : Led) (vs : Vs) (Q : Post α) : Prop where
  go : ∀ s, Holds X.am b led (X.fs vs) s → wpAny (model pw X.am.w) X.A t (fun v s' => ∃ b' led' vs', Le b b' ∧ Holds X.am b' led' (X.fs vs') s' ∧ Q v b' led' vs') (fun _ _ => False) s

section
variable {S : Sc} {α β : Type} {X : Cx S} {b : Base} {led : Led} {vs : Vs}

theorem wMono {t : Sem α} {Q Q' : Post α} (h : Wp X t b led vs Q) (k : ∀ v b' led' vs', Le b b' → Q v b' led' vs' → Q' v b' led' vs') : Wp X t b led vs Q' :=
  ⟨fun s H => wpAny_mono (h.go s H) (fun v s' ⟨b', led', vs', l, H', q⟩ => ⟨b', led', vs', l, H', k _ _ _ _ l q⟩) fun _ _ e => e⟩
theorem wPure {a : α} {Q : Post α} (h : Q a b led vs) : Wp X (pure a) b led vs Q := ⟨fun s H => wpAny_pure ⟨b, led, vs, .rfl, H, h⟩⟩
/-- the library's post for the rest -/
abbrev Rest (X : Cx S) (b : Base) (Q : Post α) : α → Shared → Prop := fun v s' => ∃ b' led' vs', Le b b' ∧ Holds X.am b' led' (X.fs vs') s' ∧ Q v b' led' vs'
theorem Rest.of {Q : Post α} {v : α} {s : Shared} (H : Holds X.am b led (X.fs vs) s) (q : Q v b led vs) : Rest X b Q v s := ⟨b, led, vs, .rfl, H, q⟩
theorem wpRest {t : Sem α} {Q : Post α} {s : Shared} {b₀ : Base} (l : Le b₀ b) (h : Wp X t b led vs Q) (H : Holds X.am b led (X.fs vs) s) : wpAny (model pw X.am.w) X.A t (Rest X b₀ Q) (fun _ _ => False) s :=
  wpAny_mono (h.go s H) (fun v s' ⟨b', led', vs', l', H', q⟩ => ⟨b', led', vs', l.trans l', H', q⟩) fun _ _ e => e
/-- from one tree into the next, under the library's structural rules -/
theorem wThen {t : Sem α} {u : α → Sem β} {Q : Post β} {s : Shared} (H : Holds X.am b led (X.fs vs) s) (h : Wp X t b led vs fun a b' led' vs' => Wp X (u a) b' led' vs' Q) :
    wpAny (model pw X.am.w) X.A t (fun a s' => wpAny (model pw X.am.w) X.A (u a) (Rest X b Q) (fun _ _ => False) s') (fun _ _ => False) s :=
  wpAny_mono (h.go s H) (fun a s' ⟨b', led', vs', l, H', q⟩ => wpRest l q H') fun _ _ e => e
/-- the same, with a post of one's own -/
theorem wGo {t : Sem α} {R : α → Shared → Prop} {s : Shared} {Q : Post α} (H : Holds X.am b led (X.fs vs) s) (h : Wp X t b led vs Q) (k : ∀ a s' b' led' vs', Le b b' → Holds X.am b' led' (X.fs vs') s' → Q a b' led' vs' → R a s') :
    wpAny (model pw X.am.w) X.A t R (fun _ _ => False) s := wpAny_mono (h.go s H) (fun a s' ⟨b', led', vs', l, H', q⟩ => k _ _ _ _ _ l H' q) fun _ _ e => e
theorem wBind {t : Sem α} {u : α → Sem β} {Q : Post β} (h : Wp X t b led vs fun a b' led' vs' => Wp X (u a) b' led' vs' Q) : Wp X (t >>= u) b led vs Q :=
  ⟨fun s H => wpAny_bind (wThen H h)⟩
theorem wHolding {l : List Value} {t : Sem α} {Q : Post α} (h : Wp X t b led vs Q) : Wp X (holding l t) b led vs Q := ⟨fun s H => wpAny_holding (h.go s H)⟩
/-- the ledger's order -/
theorem wPerm {led' : Led} {t : Sem α} {Q : Post α} (p : led.Perm led') (h : Wp X t b led' vs Q) : Wp X t b led vs Q := ⟨fun s H => h.go s (H.perm p)⟩
theorem wDrop {p : Addr × Obj} {t : Sem α} {Q : Post α} (h : Wp X t b led vs Q) : Wp X t b (p :: led) vs Q := ⟨fun s H => h.go s H.drop⟩
theorem wFreeze {x : Addr} {o : Obj} {t : Sem α} {Q : Post α} (h : ∀ b', Le b b' → b' x = some o → Wp X t b' led vs Q) : Wp X t b ((x, o) :: led) vs Q := ⟨fun s H =>
  have ⟨l, H'⟩ := H.freeze
  wpRest l (h _ l put_self) H'⟩
end
end Mine
namespace Mine

inductive LocAt : List PySem.Str → Vs → PySem.Str → Value → Prop
  | here {n ns v vs} : LocAt (n :: ns) (some v :: vs) n v
  | there {n ns o vs x v} : LocAt ns vs x v → LocAt (n :: ns) (o :: vs) x v
theorem LocAt.mem {ns vs x v} (h : LocAt ns vs x v) : x ∈ ns := by induction h with | here => exact .head _ | there _ ih => exact .tail _ ih
theorem LocAt.lk {ns vs x v} (h : LocAt ns vs x v) (nd : ns.Nodup) : lkF ns vs x = some v := by
  induction h with
  | here => exact if_pos rfl
  | @there n ns o vs x v h ih =>
    have nd := List.nodup_cons.mp nd
    exact (if_neg fun (e : x = n) => nd.1 (e ▸ h.mem)).trans (ih nd.2)
inductive LocSet : List PySem.Str → Vs → PySem.Str → Value → Vs → Prop
  | here {n ns o v vs} : LocSet (n :: ns) (o :: vs) n v (some v :: vs)
  | there {n ns o vs x v vs'} : LocSet ns vs x v vs' → LocSet (n :: ns) (o :: vs) x v (o :: vs')
theorem LocSet.mem {ns vs x v vs'} (h : LocSet ns vs x v vs') : x ∈ ns := by induction h with | here => exact .head _ | there _ ih => exact .tail _ ih
theorem LocSet.lk {ns vs x v vs'} (h : LocSet ns vs x v vs') (nd : ns.Nodup) : (fun y => if y = x then some v else lkF ns vs y) = lkF ns vs' := by
  induction h with
  | here => funext y; simp only [lkF]; split <;> rfl
  | @there n ns o vs x v vs' h ih =>
    have nd := List.nodup_cons.mp nd
    funext y
    have e := congrFun (ih nd.2) y
    simp only [lkF]
    by_cases hy : y = n
    · subst hy
      rw [if_neg (fun (e : y = x) => nd.1 (e ▸ h.mem)), if_pos rfl, if_pos rfl]
    · rw [if_neg hy, if_neg hy]; exact e

section
variable {S : Sc} {X : Cx S} {b : Base} {led : Led} {vs : Vs}

theorem Cx.nsH {s : Shared} (H : Holds X.am b led (X.fs vs) s) : s.heap.Ns X.L (lkF S.ns vs) := (H.frs _ (.head _)).1
theorem Cx.kof (X : Cx S) {x : PySem.Str} (h : x ∈ S.ns) : X.env.kindOf x = some .local := (X.loc x h).1
theorem Cx.kofG (X : Cx S) {x : PySem.Str} {v : Value} (h : (x, v) ∈ S.gs) : X.env.kindOf x = some .globalImplicit := (X.glo _ h).1

theorem wName {x : PySem.Str} {pos : Pos} {v : Value} {Q : Post Value} (h : LocAt S.ns vs x v) (q : Q v b led vs) : Wp X (eval (.Name x pos) X.env) b led vs Q := .mk fun s H =>
  wpAny_Name (wpAny_loadName_local X.kind (X.kof h.mem) (Cx.nsH H) (h.lk X.nd) (Rest.of H q)) (beq_eq_false_iff_ne.mpr (X.loc _ h.mem).2)
theorem wLoad {x : PySem.Str} {v : Value} {Q : Post Value} (h : LocAt S.ns vs x v) (q : Q v b led vs) : Wp X (loadName X.env x) b led vs Q := .mk fun s H =>
  wpAny_loadName_local X.kind (X.kof h.mem) (Cx.nsH H) (h.lk X.nd) (Rest.of H q)
theorem wGlob {x : PySem.Str} {pos : Pos} {v : Value} {Q : Post Value} (h : (x, v) ∈ S.gs) (q : Q v b led vs) : Wp X (eval (.Name x pos) X.env) b led vs Q := .mk fun s H => by
  have hd := beq_eq_false_iff_ne.mpr (X.glo _ h).2.1
  have g : s.heap.Ns X.env.globals X.am.mg := X.gl ▸ X.ok.g.keeps H.stays
  have bb : s.heap.Ns X.env.builtins X.am.mb := X.bi ▸ X.ok.b.keeps H.stays
  rcases (X.glo _ h).2.2 with e | ⟨e1, e2⟩
  · exact Name_function_global X.kind (X.kofG h) (loadGlobal_global (env := X.env) g e (Rest.of H q)) hd
  · exact Name_function_global X.kind (X.kofG h) (loadGlobal_builtin (env := X.env) g e1 bb e2 (Rest.of H q)) hd
theorem wStore {x : PySem.Str} {v : Value} {vs' : Vs} {Q : Post Unit} (h : LocSet S.ns vs x v vs') (q : Q () b led vs') : Wp X (storeName X.env x v) b led vs Q := .mk fun s H =>
  wpAny_storeName_local (X.kof h.mem) (Cx.nsH H) (fun h' hn hs => Rest.of ((H.store (f := ⟨X.L, S.ns, vs⟩) hs.extBut ((h.lk X.nd) ▸ hn) _)) q)
    (by rw [X.kind]; rfl)
theorem wBindName {x : PySem.Str} {v : Value} {vs' : Vs} {Q : Post Unit} (h : LocSet S.ns vs x v vs') (q : Q () b led vs') : Wp X (bindName X.env x v) b led vs Q := .mk fun s H =>
  wpAny_bindName ((wStore h q).go s H)
theorem wAsName {x : PySem.Str} {pos : Pos} {v : Value} {vs' : Vs} {Q : Post Unit} (h : LocSet S.ns vs x v vs') (q : Q () b led vs') : Wp X (assign (.Name x pos) X.env v) b led vs Q := .mk fun s H =>
  wpAny_assign_Name ((wStore h q).go s H)

theorem wInt {env : Env} {i : Int} {k pos} {Q : Post Value} (q : ∀ t, Q (.int i t) b led vs) : Wp X (eval (.Constant (.int i) k pos) env) b led vs Q := .mk fun s H => wpAny_Constant_int (Rest.of (H.tk _) (q _))
theorem wStr {env : Env} {x : PySem.Str} {k pos} {Q : Post Value} (q : ∀ t, Q (.str x t) b led vs) : Wp X (eval (.Constant (.str x) k pos) env) b led vs Q := .mk fun s H => wpAny_Constant_str (Rest.of (H.tk _) (q _))
theorem wBytes {env : Env} {x : List UInt8} {k pos} {Q : Post Value} (q : ∀ t, Q (.bytes x.toArray t) b led vs) : Wp X (eval (.Constant (.bytes x) k pos) env) b led vs Q := .mk fun s H => Constant_bytes (Rest.of (H.tk _) (q _))
theorem wBool {env : Env} {c : Bool} {k pos} {Q : Post Value} (q : Q (.bool c) b led vs) : Wp X (eval (.Constant (.bool c) k pos) env) b led vs Q := .mk fun s H => wpAny_Constant_bool (Rest.of H q)
theorem wNone {env : Env} {k pos} {Q : Post Value} (q : Q .none b led vs) : Wp X (eval (.Constant .none k pos) env) b led vs Q := .mk fun s H => wpAny_Constant_none (Rest.of H q)

theorem wBinOp {env : Env} {l op r pos} {Q : Post Value} (h : Wp X (eval l env) b led vs fun v b₁ l₁ v₁ => Wp X (eval r env) b₁ l₁ v₁ fun w b₂ l₂ v₂ => Wp X (binaryOp op v w) b₂ l₂ v₂ Q) : Wp X (eval (.BinOp l op r pos) env) b led vs Q := .mk fun s H =>
  wpAny_BinOp (wGo H h fun _ _ _ _ _ k₁ H₁ q₁ => wGo H₁ q₁ fun _ _ _ _ _ k₂ H₂ q₂ => wpRest (k₁.trans k₂) q₂ H₂)
theorem wCompare1 {env : Env} {l op r pos} {Q : Post Value} (hm : behindInMarks op r = false) (h : Wp X (eval l env) b led vs fun v b₁ l₁ v₁ => Wp X (eval r env) b₁ l₁ v₁ fun w b₂ l₂ v₂ => Wp X (compareOp op v w) b₂ l₂ v₂ Q) : Wp X (eval (.Compare l [op] [r] pos) env) b led vs Q := .mk fun s H =>
  wpAny_Compare1 (wGo H h fun _ _ _ _ _ k₁ H₁ q₁ => wGo H₁ q₁ fun _ _ _ _ _ k₂ H₂ q₂ => wpRest (k₁.trans k₂) q₂ H₂) hm
theorem wTestCmp {env : Env} {l op r pos whole} {Q : Post Bool} (hm : behindInMarks op r = false) (h : Wp X (eval l env) b led vs fun v b₁ l₁ v₁ => Wp X (eval r env) b₁ l₁ v₁ fun w b₂ l₂ v₂ => Wp X (compareOp op v w) b₂ l₂ v₂ fun c b₃ l₃ v₃ => Wp X (truthy c) b₃ l₃ v₃ Q) :
    Wp X (isTrue (.Compare l [op] [r] pos) env whole) b led vs Q := .mk fun s H =>
  wpAny_isTrue_Compare1 (wGo H h fun _ _ _ _ _ k₁ H₁ q₁ => wGo H₁ q₁ fun _ _ _ _ _ k₂ H₂ q₂ => wGo H₂ q₂ fun _ _ _ _ _ k₃ H₃ q₃ => wpRest ((k₁.trans k₂).trans k₃) q₃ H₃) hm
theorem wTest {env : Env} {e : Expr} {whole : Sem Value} {Q : Post Bool} (he : isTrue e env whole = (do let v ← whole; standAt e.pos; holding [v] (truthy v))) (h : Wp X whole b led vs fun v b₁ l₁ v₁ => Wp X (truthy v) b₁ l₁ v₁ Q) : Wp X (isTrue e env whole) b led vs Q := .mk fun s H =>
  isTrue_plain (wThen H h) he
theorem wTestNot {env : Env} {x pos whole} {Q : Post Bool} (h : Wp X (isTrue x env (eval x env)) b led vs fun c b₁ l₁ v₁ => Q (!c) b₁ l₁ v₁) : Wp X (isTrue (.UnaryOp .Not x pos) env whole) b led vs Q := .mk fun s H =>
  isTrue_not (wGo H h fun _ _ _ _ _ k H' q => ⟨_, _, _, k, H', q⟩)
theorem wTestAndNil {env : Env} {pos whole} {Q : Post Bool} (q : Q true b led vs) : Wp X (isTrue (.BoolOp .And [] pos) env whole) b led vs Q := .mk fun s H => isTrue_and_nil (Rest.of H q)
theorem wTestOrNil {env : Env} {pos whole} {Q : Post Bool} (q : Q false b led vs) : Wp X (isTrue (.BoolOp .Or [] pos) env whole) b led vs Q := .mk fun s H => isTrue_or_nil (Rest.of H q)
theorem wTestAnd {env : Env} {x rest pos whole} {Q : Post Bool} (h : Wp X (isTrue x env (eval x env)) b led vs fun c b₁ l₁ v₁ => if c then Wp X (isTrue (.BoolOp .And rest pos) env whole) b₁ l₁ v₁ Q else Q false b₁ l₁ v₁) : Wp X (isTrue (.BoolOp .And (x :: rest) pos) env whole) b led vs Q := .mk fun s H =>
  isTrue_and (wGo H h fun c _ _ _ _ k H' q => by cases c; exact ⟨_, _, _, k, H', q⟩; exact wpRest k q H')
theorem wTestOr {env : Env} {x rest pos whole} {Q : Post Bool} (h : Wp X (isTrue x env (eval x env)) b led vs fun c b₁ l₁ v₁ => if c then Q true b₁ l₁ v₁ else Wp X (isTrue (.BoolOp .Or rest pos) env whole) b₁ l₁ v₁ Q) : Wp X (isTrue (.BoolOp .Or (x :: rest) pos) env whole) b led vs Q := .mk fun s H =>
  isTrue_or (wGo H h fun c _ _ _ _ k H' q => by cases c; exact wpRest k q H'; exact ⟨_, _, _, k, H', q⟩)
theorem wIfExp {env : Env} {test body orelse pos} {Q : Post Value} (h : Wp X (isTrue test env (eval test env)) b led vs fun c b₁ l₁ v₁ => if c then Wp X (eval body env) b₁ l₁ v₁ Q else Wp X (eval orelse env) b₁ l₁ v₁ Q) : Wp X (eval (.IfExp test body orelse pos) env) b led vs Q := .mk fun s H =>
  IfExp_ (wGo H h fun c _ _ _ _ k H' q => by cases c <;> exact wpRest k q H')
theorem wOr1 {env : Env} {e pos} {Q : Post Value} (h : Wp X (eval e env) b led vs Q) : Wp X (eval (.BoolOp .Or [e] pos) env) b led vs Q := .mk fun s H => BoolOp_one (h.go s H)
theorem wOr {env : Env} {e₁ e₂ rest pos} {Q : Post Value} (h : Wp X (eval e₁ env) b led vs fun v b₁ l₁ v₁ => Wp X (truthy v) b₁ l₁ v₁ fun c b₂ l₂ v₂ => if c then Q v b₂ l₂ v₂ else Wp X (eval (.BoolOp .Or (e₂ :: rest) pos) env) b₂ l₂ v₂ Q) : Wp X (eval (.BoolOp .Or (e₁ :: e₂ :: rest) pos) env) b led vs Q := .mk fun s H =>
  BoolOp_or (wGo H h fun _ _ _ _ _ k₁ H₁ q₁ => wGo H₁ q₁ fun c _ _ _ _ k₂ H₂ q₂ => by cases c; exact wpRest (k₁.trans k₂) q₂ H₂; exact ⟨_, _, _, k₁.trans k₂, H₂, q₂⟩)
theorem wUnary {env : Env} {op x pos} {Q : Post Value} (h : Wp X (eval x env) b led vs fun v b₁ l₁ v₁ => Wp X (unaryOp op v) b₁ l₁ v₁ Q) : Wp X (eval (.UnaryOp op x pos) env) b led vs Q := .mk fun s H => UnaryOp_ (wThen H h)
theorem wTruthyBool {c : Bool} {Q : Post Bool} (q : Q c b led vs) : Wp X (truthy (.bool c)) b led vs Q := .mk fun s H => wpAny_truthy_bool (Rest.of H q)
theorem wTruthyNone {Q : Post Bool} (q : Q false b led vs) : Wp X (truthy .none) b led vs Q := .mk fun s H => truthy_none (Rest.of H q)
theorem wNot {v : Value} {Q : Post Value} (h : Wp X (truthy v) b led vs fun c b₁ l₁ v₁ => Q (.bool (!c)) b₁ l₁ v₁) : Wp X (unaryOp .Not v) b led vs Q := .mk fun s H => not_of (wGo H h fun _ _ _ _ _ k H' q => ⟨_, _, _, k, H', q⟩)
theorem wChain {env : Env} {l op₁ op₂ ops r₁ r₂ rs pos whole} {Q : Post Bool} (hm : lastMarks (op₁ :: op₂ :: ops) (r₁ :: r₂ :: rs) = false) (h : Wp X (eval l env) b led vs fun v b₁ l₁ v₁ => Wp X (testChain pos v (op₁ :: op₂ :: ops) (eval r₁ env :: eval r₂ env :: evalEach rs env)) b₁ l₁ v₁ Q) :
    Wp X (isTrue (.Compare l (op₁ :: op₂ :: ops) (r₁ :: r₂ :: rs) pos) env whole) b led vs Q := .mk fun s H => isTrue_chain (wThen H h) hm
theorem wLink {pos : Pos} {v : Value} {op op' : CmpOp} {ops : List CmpOp} {r r' : Sem Value} {rs : List (Sem Value)} {Q : Post Bool}
    (h : Wp X r b led vs fun w b₁ l₁ v₁ => Wp X (compareOp op v w) b₁ l₁ v₁ fun c b₂ l₂ v₂ => Wp X (truthy c) b₂ l₂ v₂ fun t b₃ l₃ v₃ => if t then Wp X (testChain pos w (op' :: ops) (r' :: rs)) b₃ l₃ v₃ Q else Q false b₃ l₃ v₃) : Wp X (testChain pos v (op :: op' :: ops) (r :: r' :: rs)) b led vs Q := .mk fun s H =>
  test_link (wGo H h fun _ _ _ _ _ k₁ H₁ q₁ => wGo H₁ q₁ fun _ _ _ _ _ k₂ H₂ q₂ => wGo H₂ q₂ fun t _ _ _ _ k₃ H₃ q₃ => by
    cases t
    · exact ⟨_, _, _, (k₁.trans k₂).trans k₃, H₃, q₃⟩
    · exact wpRest ((k₁.trans k₂).trans k₃) q₃ H₃)
theorem wLast {pos : Pos} {v : Value} {op : CmpOp} {r : Sem Value} {Q : Post Bool} (h : Wp X r b led vs fun w b₁ l₁ v₁ => Wp X (compareOp op v w) b₁ l₁ v₁ fun c b₂ l₂ v₂ => Wp X (truthy c) b₂ l₂ v₂ Q) : Wp X (testChain pos v [op] [r]) b led vs Q := .mk fun s H =>
  test_last (wGo H h fun _ _ _ _ _ k₁ H₁ q₁ => wGo H₁ q₁ fun _ _ _ _ _ k₂ H₂ q₂ => wpRest (k₁.trans k₂) q₂ H₂)

theorem wArgs0 {env : Env} {pos : Pos} {Q : Post (List Value)} (q : Q [] b led vs) : Wp X (spliced (backTo pos (starEach [] env))) b led vs Q := .mk fun s H => spliced_none (Rest.of H q)
theorem wArgs {env : Env} {e : Expr} {rest : List Expr} {pos : Pos} {Q : Post (List Value)} (he : starEach (e :: rest) env = (false, eval e env) :: starEach rest env)
    (h : Wp X (eval e env) b led vs fun v b₁ l₁ v₁ => Wp X (spliced (backTo pos (starEach rest env))) b₁ l₁ v₁ fun us b₂ l₂ v₂ => Q (v :: us) b₂ l₂ v₂) : Wp X (spliced (backTo pos (starEach (e :: rest) env))) b led vs Q := .mk fun s H =>
  spliced_more (wGo H h fun _ _ _ _ _ k₁ H₁ q₁ => wGo H₁ q₁ fun _ _ _ _ _ k₂ H₂ q₂ => ⟨_, _, _, k₁.trans k₂, H₂, q₂⟩) he
theorem wTuple {env : Env} {elts : List Expr} {k : Nat} {pos : Pos} {Q : Post Value} (h : Wp X (spliced (backTo pos (starEach elts env))) b led vs fun us b₁ l₁ v₁ => Wp X (newTuple us) b₁ l₁ v₁ Q) : Wp X (eval (.Tuple elts k pos) env) b led vs Q := .mk fun s H => Tuple_ (wThen H h)
theorem wList {env : Env} {elts : List Expr} {pos : Pos} {Q : Post Value} (h : Wp X (spliced (backTo pos (starEach elts env))) b led vs fun us b₁ l₁ v₁ => Wp X (newList us) b₁ l₁ v₁ Q) : Wp X (eval (.List elts pos) env) b led vs Q := .mk fun s H => List_ (wThen H h)
theorem wNewTuple {us : List Value} {Q : Post Value} (hsz : us.length ≤ sizeLine) (q : ∀ x, Q (.ref x) b ((x, { cls := .type "tuple", data := .seq us.toArray }) :: led) vs) : Wp X (newTuple us) b led vs Q := .mk fun s H =>
  wpAny_newObj_type (Rest.of (H.alloc (o := { cls := .type "tuple", data := .seq us.toArray }) rfl s.toks) (q _)) (by show us.toArray.size ≤ sizeLine; rw [List.size_toArray]; exact hsz)
theorem wNewList {us : List Value} {Q : Post Value} (hsz : us.length ≤ sizeLine) (q : ∀ x, Q (.ref x) b ((x, { cls := .type "list", data := .seq us.toArray }) :: led) vs) : Wp X (newList us) b led vs Q := .mk fun s H =>
  wpAny_newObj_type (Rest.of (H.alloc (o := { cls := .type "list", data := .seq us.toArray }) rfl s.toks) (q _)) (by show us.toArray.size ≤ sizeLine; rw [List.size_toArray]; exact hsz)

theorem wAttr {env : Env} {value : Expr} {attr : PySem.Str} {pos : Pos} {Q : Post Value}
    (he : eval (.Attribute value attr pos) env = (do
      let o ← eval value env
      standAt pos.atName
      let r ← holding [o] (getAttr o attr true)
      letTemporaryGo value o r
      pure r)) (h : Wp X (eval value env) b led vs fun o b₁ l₁ v₁ => Wp X (getAttr o attr true) b₁ l₁ v₁ Q) : Wp X (eval (.Attribute value attr pos) env) b led vs Q := .mk fun s H => Attribute_any_ (wThen H h) he

theorem wRet {env : Env} {e pos} {Q : Post Flow} (h : Wp X (eval e env) b led vs fun v b₁ l₁ v₁ => Q (.ret v) b₁ l₁ v₁) : Wp X (exec (.Return (some e) pos) env) b led vs Q := .mk fun s H =>
  wpAny_Return_some (wGo H h fun _ _ _ _ _ k H' q => ⟨_, _, _, k, H', q⟩)
theorem wSkip {env : Env} {Q : Post Flow} (q : Q .next b led vs) : Wp X (execs [] env) b led vs Q := .mk fun s H => wpAny_execs_nil (Rest.of H q)
theorem wSeq {env : Env} {st rest} {Q : Post Flow} (h : Wp X (exec st env) b led vs fun f b₁ l₁ v₁ => match f with | .next => Wp X (execs rest env) b₁ l₁ v₁ Q | f => Q f b₁ l₁ v₁) : Wp X (execs (st :: rest) env) b led vs Q := .mk fun s H =>
  wpAny_execs_cons (wGo H h fun f _ _ _ _ k H' q => by cases f <;> first | exact wpRest k q H' | exact ⟨_, _, _, k, H', q⟩)
theorem wIf {env : Env} {test body orelse pos} {Q : Post Flow} (h : Wp X (isTrue test env (eval test env)) b led vs fun c b₁ l₁ v₁ => if c then Wp X (execs body env) b₁ l₁ v₁ Q else Wp X (execs orelse env) b₁ l₁ v₁ Q) : Wp X (exec (.If test body orelse pos) env) b led vs Q := .mk fun s H =>
  wpAny_If (wGo H h fun c _ _ _ _ k H' q => by cases c <;> exact wpRest k q H')
theorem wAssign {x pos' value pos} {Q : Post Flow} (hs : swapsWith value (some (.Name x pos')) pos.line X.env = pure false) (h : Wp X (eval value X.env) b led vs fun v b₁ l₁ v₁ => ∃ v₂, LocSet S.ns v₁ x v v₂ ∧ Q .next b₁ l₁ v₂) : Wp X (exec (.Assign [.Name x pos'] value pos) X.env) b led vs Q := .mk fun s H =>
  wpAny_Assign_Name (wGo H h fun v _ _ _ _ k H' ⟨_, hl, q⟩ => wpAny_mono ((wStore (Q := fun _ => Q .next) hl q).go _ H') (fun _ _ ⟨b', led', vs', l', H'', q'⟩ => ⟨b', led', vs', k.trans l', H'', q'⟩) fun _ _ e => e) hs
theorem wExpr {e pos} {Q : Post Flow} (hs : swapsWith e none pos.line X.env = pure false) (h : Wp X (eval e X.env) b led vs fun v b₁ l₁ v₁ => (∀ a, v ≠ .ref a) ∧ Q .next b₁ l₁ v₁) : Wp X (exec (.Expr e pos) X.env) b led vs Q := .mk fun s H =>
  wpAny_Expr (wGo H h fun v _ _ _ _ k H' ⟨hv, q⟩ => by
    cases v <;> first | exact absurd rfl (hv _) | exact ⟨_, _, _, k, H', q⟩) X.int hs
end
end Mine
namespace Mine

noncomputable def retOf : Flow → Value | .ret v => v | _ => .none
theorem Holds.pop {a : Am} {b : Base} {led : Led} {f : Fm} {fs : List Fm} {s : Shared} (H : Holds a b led (f :: fs) s) : Holds a b led fs s :=
  ⟨H.base, H.old, H.ld, fun g hg => H.frs g (.tail _ hg), by
    have := H.nd
    rw [List.map_cons, List.nodup_append] at this
    rw [List.nodup_append]
    exact ⟨this.1, (List.nodup_cons.mp this.2.1).2, fun x hx y hy => this.2.2 x hx y (.tail _ hy)⟩, H.gens, H.os⟩
theorem Holds.enter {a : Am} {b : Base} {led : Led} {fs : List Fm} {s : Shared} (H : Holds a b led fs s) {h' : Heap} {ns : List PySem.Str} {vs : Vs} (hn : h'.Ns s.heap.objs.size (lkF ns vs))
    (k : ∀ x o, s.heap.get? x = some o → h'.get? x = some o) (hz : a.h₀.objs.size ≤ s.heap.objs.size) (t : Nat) : Holds a b led (⟨s.heap.objs.size, ns, vs⟩ :: fs) { s with heap := h', toks := t } := by
  have lt : ∀ x o, s.heap.get? x = some o → x ≠ s.heap.objs.size := fun x o e => Nat.ne_of_lt (Heap.lt_size e)
  have G := H.grow (h' := h') k t
  refine ⟨G.base, G.old, G.ld, fun f hf => ?_, ?_, G.gens, G.os⟩
  · rcases List.mem_cons.mp hf with rfl | hf
    · refine ⟨hn, ?_, hz⟩
      show b s.heap.objs.size = none
      cases q : b s.heap.objs.size with
      | none => rfl
      | some o' => exact absurd rfl (lt _ _ (H.base _ _ q))
    · exact G.frs f hf
  · have nd := H.nd
    rw [List.nodup_append] at nd
    rw [List.map_cons, List.nodup_append]
    refine ⟨nd.1, List.nodup_cons.mpr ⟨fun hm => ?_, nd.2.1⟩, fun x hx y hy => ?_⟩
    · obtain ⟨f, hf, e⟩ := List.mem_map.mp hm
      obtain ⟨o', e'⟩ := Ns_lt (H.frs f hf).1
      exact absurd e (lt _ _ e')
    · rcases List.mem_cons.mp hy with rfl | hy
      · obtain ⟨p, hp, e⟩ := List.mem_map.mp hx
        exact fun q => absurd (e.trans q) (lt _ _ (H.ld p hp).1)
      · exact nd.2.2 x hx y hy

/-- room for calls -/
noncomputable def Room {S : Sc} (X : Cx S) (n : Nat) : Prop := X.A.depth + 3 * n < recursionLimit ∧ X.A.units + 8 * n < cLine
@[reducible] noncomputable def Cx.sub {S : Sc} (X : Cx S) (G : FnR) (hG : G.Ok X.am) (A : Around) (hh : A.handled = none) (L : Addr) (vs : Vs) : Cx G.sc := ⟨X.am, A.deeper (G.env L), G.env L, X.fs vs, X.ok, hh, hG.kind, rfl, rfl, hG.nd, fun x hx => ⟨hG.loc x hx, hG.ndb x hx⟩, fun y hy => ⟨(hG.glo y hy).1, (hG.glo y hy).2, hG.val y hy⟩⟩
theorem lk_zip : ∀ (ns : List PySem.Str) (as : List Value), ns.Nodup → ∀ x, ((ns.zip as).reverse.lookup x) = lkF ns (as.map some ++ List.replicate (ns.length - as.length) none) x := by
  have none' : ∀ (ns : List PySem.Str) (k : Nat) x, lkF ns (List.replicate k none) x = none := by
    intro ns
    induction ns with
    | nil => intro k x; cases k <;> rfl
    | cons n ns ih =>
      intro k x
      cases k with
      | zero => rfl
      | succ k => simp only [List.replicate_succ, lkF]; split; rfl; exact ih k x
  have app : ∀ (l r : List (PySem.Str × Value)) x, (l ++ r).lookup x = (l.lookup x).or (r.lookup x) := by
    intro l r x
    induction l with
    | nil => rfl
    | cons p l ih =>
      rw [List.cons_append, List.lookup_cons, List.lookup_cons]
      cases x == p.1
      · exact ih
      · rfl
  intro ns
  induction ns with
  | nil => intro as _ x; cases as <;> rfl
  | cons n ns ih =>
    intro as nd x
    have nd := List.nodup_cons.mp nd
    cases as with
    | nil => exact (none' (n :: ns) _ x).symm
    | cons v as =>
      rw [List.zip_cons_cons, List.reverse_cons, app, ih as nd.2 x]
      simp only [List.map_cons, List.cons_append, List.length_cons, Nat.add_sub_add_right, lkF]
      by_cases hx : x = n
      · subst hx
        rw [if_pos rfl]
        have : lkF ns (as.map some ++ List.replicate (ns.length - as.length) none) x = none := by
          rw [← ih as nd.2 x]
          cases q : List.lookup x (ns.zip as).reverse with
          | none => rfl
          | some v' =>
            exfalso
            have hm : ∀ (l : List (PySem.Str × Value)), l.lookup x = some v' → ∃ p ∈ l, p.1 = x := by
              intro l
              induction l with
              | nil => intro h; cases h
              | cons p l ih' =>
                intro h
                rw [List.lookup_cons] at h
                by_cases e : (x == p.1) = true
                · exact ⟨p, .head _, (beq_iff_eq.mp e).symm⟩
                · have e : (x == p.1) = false := by simpa using e
                  rw [e] at h
                  obtain ⟨q, hq, e⟩ := ih' h
                  exact ⟨q, .tail _ hq, e⟩
            obtain ⟨p, hp, e⟩ := hm _ q
            have := (List.of_mem_zip (List.mem_reverse.mp hp : (p.1, p.2) ∈ ns.zip as)).1
            exact nd.1 (e ▸ this)
        rw [this]
        simp [List.lookup]
      · rw [if_neg hx]
        have : List.lookup x [(n, v)] = none := by
          rw [List.lookup_cons]
          have : (x == n) = false := by simpa using hx
          rw [this]; rfl
        rw [this, Option.or_none]

section
variable {S : Sc} {G : FnR} {X : Cx S} {b : Base} {led : Led} {vs : Vs}

/-- a def of the text's is called: its body -/
theorem codeDef {A : Around} (hA : A.handled = none) (hG : G.Ok X.am) {as : List Value} {R : Result → Shared → Prop} {s : Shared} {Q : Post Value} (hroom : A.depth < recursionLimit)
    (hb : bindArgs G.fd ⟨as, []⟩ = pure (G.sc.ns.zip as)) (H : Holds X.am b led (X.fs vs) s)
    (h : ∀ L, Wp (X.sub G hG A hA L vs) (execs (bodyOf G.st) (G.env L)) b led (as.map some ++ List.replicate (G.sc.ns.length - as.length) none) fun fl b' led' _ => Q (retOf fl) b' led' vs)
    (k : ∀ v s' b' led', Le b b' → Holds X.am b' led' (X.fs vs) s' → Q v b' led' vs → R (.ok (.ret v)) s') :
    codeAny (model pw X.am.w) A (.call (.ref G.f) ⟨as, []⟩) R s := by
  refine codeAny_call_def (fd := G.fd) (body := bodyOf G.st) (binds := G.sc.ns.zip as) hroom (H.stays _ _ hG.obj) rfl (X.ok.lim.keeps H.stays) (hG.code.keeps H.stays) rfl (BindsTo.of_eq hb) hG.cell
    (fun x hx => hG.loc _ (List.of_mem_zip (hx : (x.1, x.2) ∈ _)).1) (fun h₁ hn hk => ?_) hG.co hG.gen hG.kind
  rw [funext (lk_zip G.sc.ns as hG.nd)] at hn
  refine wpAny_mono ((h s.heap.objs.size).go _ (H.enter hn hk (X.ok.big H.stays) (s.toks + (G.sc.ns.zip as).length))) (fun fl s' ⟨b', led', vs', l, H', q⟩ => ?_) fun _ _ e => e.elim
  exact k _ _ _ _ l H'.pop q
theorem wDef (hA : X.A.handled = none) (hG : G.Ok X.am) {as : List Value} {Q : Post Value} (hroom : X.A.depth < recursionLimit)
    (hb : bindArgs G.fd ⟨as, []⟩ = pure (G.sc.ns.zip as))
    (h : ∀ L, Wp (X.sub G hG X.A hA L vs) (execs (bodyOf G.st) (G.env L)) b led (as.map some ++ List.replicate (G.sc.ns.length - as.length) none) fun fl b' led' _ => Q (retOf fl) b' led' vs) :
    Wp X (call (.ref G.f) as) b led vs Q := .mk fun s H => wpAny_call (codeDef hA hG hroom hb H h fun v s' b' led' l H' q => ⟨b', led', vs, l, H', q⟩)

/-- what may be called so -/
noncomputable def Kept (X : Cx F) (f : Value) : Prop := ∀ h, (K X.am.w.params).In h → ∃ k, (k = Keeper.frame ∨ k = Keeper.machine ∨ k = Keeper.boundFrame) ∧ Looks (model pw X.am.w) h (keeperOf f) k
theorem kept_b (id : String) : Kept X (.builtin id) := fun h _ => ⟨.machine, .inr (.inl rfl), Looks.of_pure rfl⟩
theorem kept_t (id : String) : Kept X (.type id) := fun h _ => ⟨.machine, .inr (.inl rfl), Looks.of_pure rfl⟩
theorem kept_K {f : Value} (h : keepIn (K X.am.w.params) f = true) : Kept X f := keeps_K h
theorem wCallWith {env : Env} {pos : Pos} {f : Value} {first : List Value} {args : List Expr} {Q : Post Value} (hk : Kept X f) (hp : (backTo pos (starEach args env)).any (·.1) = false)
    (hs : ∀ e rest, args = e :: rest → starEach (e :: rest) env = (false, eval e env) :: starEach rest env)
    (h : Wp X (spliced (backTo pos (starEach args env))) b led vs fun us b₁ l₁ v₁ => Wp X (call f (first ++ us)) b₁ l₁ v₁ Q) : Wp X (callWith pos f first (backTo pos (starEach args env)) []) b led vs Q := .mk fun s H => by
  refine callWith_of (P := fun h => (K X.am.w.params).In h) (by rw [hp]; rfl) hk ?_
  have key := wGo (R := fun us s' => (K X.am.w.params).In s'.heap ∧ wpAny (model pw X.am.w) X.A (call f (first ++ us)) (Rest X b Q) (fun _ _ => False) s') H h fun us s' b' led' vs' l H' q => ⟨X.ok.K.keeps H'.stays, wpRest l q H'⟩
  cases args with
  | nil =>
    unfold evalArgs
    show wpAny _ _ (spliced [] >>= _) _ _ _
    exact wpAny_bind (wpAny_mono key (fun us s' h' => wpAny_bind (wpAny_pure (wpAny_holding (wpAny_bind (wpAny_pure (wpAny_bind (wpAny_pure (wpAny_pure h')))))))) fun _ _ e => e)
  | cons e rest =>
    rw [hs e rest rfl] at key ⊢
    exact evalArgs_plain key
end
end Mine
namespace Mine

theorem ofString_inj {s t : String} (h : PySem.Str.ofString s = PySem.Str.ofString t) : s = t := by
  rw [Str.ofString_eq_toList, Str.ofString_eq_toList] at h
  have h := congrArg (fun x : PySem.Str => x.cps.toList) h
  simp only at h
  apply String.toList_inj.mp
  refine List.map_inj_right (fun c d e => ?_) |>.mp h
  exact Char.toNat_inj.mp e
theorem nm {s t : String} (h : s ≠ t) : PySem.Str.ofString s ≠ PySem.Str.ofString t := fun e => h (ofString_inj e)

/-- the ledger as the library's -/
noncomputable def oth (h₀ h : Heap) (L d : Addr) : List (Addr × Obj) := (List.range h.objs.size).filterMap fun i => if i = L ∨ i = d ∨ (h₀.get? i).isSome = true then none else (h.get? i).map (i, ·)
theorem mem_oth {h₀ h : Heap} {L d : Addr} {p : Addr × Obj} : p ∈ oth h₀ h L d ↔ (p.1 ≠ L ∧ p.1 ≠ d ∧ h₀.get? p.1 = none) ∧ h.get? p.1 = some p.2 := by
  unfold oth
  rw [List.mem_filterMap]
  constructor
  · rintro ⟨i, hi, e⟩
    split at e
    · cases e
    · rename_i q
      obtain ⟨o, ho, rfl⟩ := Option.map_eq_some_iff.mp e
      simp only [not_or, Bool.not_eq_true, Option.isSome_eq_false_iff, Option.isNone_iff_eq_none] at q
      exact ⟨q, ho⟩
  · rintro ⟨q, e⟩
    refine ⟨p.1, List.mem_range.mpr (Heap.lt_size e), ?_⟩
    rw [if_neg (by simp only [not_or, Bool.not_eq_true, Option.isSome_eq_false_iff, Option.isNone_iff_eq_none]; exact q), e]
    rfl
section
variable {a : Am} {b : Base} {led : Led} {f : Fm} {up : List Fm} {s : Shared}
theorem Holds.fr (H : Holds a b led (f :: up) s) : Fr a.h₀ f.L s.heap (lkF f.ns f.vs) := ⟨(H.frs f (.head _)).1, H.stays, (H.frs f (.head _)).2.2⟩
theorem Holds.news {d : Addr} {o : Obj} (H : Holds a b led (f :: up) s) (hd : (d, o) ∈ led) : News a.h₀ f.L s.heap ((d, o) :: oth a.h₀ s.heap f.L d) := by
  have D := H.ld _ hd
  intro p hp
  rcases List.mem_cons.mp hp with rfl | hp
  · refine ⟨D.1, H.led_ne hd (.head _), ?_⟩
    cases q : a.h₀.get? d with
    | none => rfl
    | some o' => have := H.old _ _ q; rw [D.2] at this; cases this
  · obtain ⟨⟨h1, _, h3⟩, h4⟩ := mem_oth.mp hp
    exact ⟨h4, h1, h3⟩
/-- back from the library's ledger: one object changed, the frame as it was -/
theorem Holds.back {pre post : Led} {d : Addr} {o o' : Obj} (H : Holds a b (pre ++ (d, o) :: post) (f :: up) s) {h' : Heap} (F : Fr a.h₀ f.L h' (lkF f.ns f.vs)) (N : News a.h₀ f.L h' ((d, o') :: oth a.h₀ s.heap f.L d)) (t : Nat) :
    Holds a b (pre ++ (d, o') :: post) (f :: up) { s with heap := h', toks := t } := by
  have k : ∀ x o₁, x ≠ f.L → x ≠ d → s.heap.get? x = some o₁ → h'.get? x = some o₁ := fun x o₁ hL hx e => by
    cases q : a.h₀.get? x with
    | some o₂ => have := H.stays _ _ q; rw [e] at this; cases this; exact F.keep _ _ q
    | none => exact (N (x, o₁) (.tail _ (mem_oth.mpr ⟨⟨hL, hx, q⟩, e⟩))).1
  have D := H.ld (d, o) (by simp)
  have DL := H.frs f (.head _)
  refine ⟨fun x o₁ e => k _ _ (fun q => ?_) (fun q => ?_) (H.base x o₁ e), H.old, fun p hp => ?_, fun g hg => ?_, ?_, H.gens, H.os⟩
  · rw [q, DL.2.1] at e; cases e
  · rw [q, D.2] at e; cases e
  · by_cases q : p.1 = d
    · have nd := (List.nodup_append.mp H.nd).1
      rw [List.map_append, List.map_cons, List.nodup_append] at nd
      rcases List.mem_append.mp hp with hp | hp
      · exact absurd q (nd.2.2 _ (List.mem_map_of_mem hp) _ (.head _))
      · rcases List.mem_cons.mp hp with rfl | hp
        · exact ⟨(N _ (.head _)).1, D.2⟩
        · have hm := List.mem_map_of_mem (f := Prod.fst) hp
          rw [q] at hm
          exact absurd hm (List.nodup_cons.mp nd.2.1).1
    · have hp' : p ∈ pre ++ (d, o) :: post := by
        rcases List.mem_append.mp hp with hp | hp
        · exact List.mem_append_left _ hp
        · rcases List.mem_cons.mp hp with rfl | hp
          · exact absurd rfl q
          · exact List.mem_append_right _ (.tail _ hp)
      exact ⟨k _ _ (H.led_ne hp' (.head _)) q (H.ld p hp').1, (H.ld p hp').2⟩
  · rcases List.mem_cons.mp hg with rfl | hg
    · exact ⟨F.ns, DL.2⟩
    · have G := H.frs g (.tail _ hg)
      refine ⟨?_, G.2⟩
      obtain ⟨oL, es, ep, e, r⟩ := G.1
      refine ⟨oL, es, ep, k _ _ (fun q => ?_) (fun q => H.led_ne (p := (d, o)) (by simp) (.tail _ hg) q.symm) e, r⟩
      have := (List.nodup_append.mp H.nd).2.1
      rw [List.map_cons, List.nodup_cons] at this
      exact this.1 (q ▸ List.mem_map_of_mem hg)
  · have := H.nd; simp only [List.map_append, List.map_cons] at this ⊢; exact this
end

/-- the fields of an object: name, token of the name, value -/
abbrev Fs := List (String × Nat × Value)
noncomputable def mkEs (P : Params) (l : Fs) : List DictEntry := l.map fun x => ⟨PyData.keyHash P (PySem.Str.ofString x.1), .str (PySem.Str.ofString x.1) x.2.1, x.2.2⟩
inductive FGet : Fs → String → Value → Prop
  | here {n t v l} : FGet ((n, t, v) :: l) n v
  | there {n' t u l n v} : n' ≠ n → FGet l n v → FGet ((n', t, u) :: l) n v
inductive FSet : Fs → String → Nat → Value → Fs → Prop
  | new {n t v} : FSet [] n t v [(n, t, v)]
  | here {n t u l t' v} : FSet ((n, t, u) :: l) n t' v ((n, t, v) :: l)
  | there {n' t u l n tk v l'} : n' ≠ n → FSet l n tk v l' → FSet ((n', t, u) :: l) n tk v ((n', t, u) :: l')
theorem isStr_self (x : PySem.Str) (t : Nat) : (Value.str x t).isStr x = true := by show (x == x) = true; exact beq_self_eq_true x
theorem isStr_ne {x y : String} (h : x ≠ y) (t : Nat) : (Value.str (PySem.Str.ofString x) t).isStr (PySem.Str.ofString y) = false := by
  show (PySem.Str.ofString x == PySem.Str.ofString y) = false
  exact beq_eq_false_iff_ne.mpr (nm h)
theorem any_refKey {P : Params} : ∀ l : Fs, (mkEs P l).any (·.refKey) = false
  | [] => rfl
  | _ :: l => by show (false || _) = false; exact any_refKey l
theorem FGet.getL {P : Params} {l : Fs} {n : String} {v : Value} (h : FGet l n v) : getL (PySem.Str.ofString n) (mkEs P l) = some (some v) := by
  unfold W.getL
  have : ∃ e, (mkEs P l).find? (·.key.isStr (PySem.Str.ofString n)) = some e ∧ e.val = v := by
    induction h with
    | here => exact ⟨_, by unfold mkEs; rw [List.map_cons, List.find?_cons, isStr_self], rfl⟩
    | there hn _ ih =>
      obtain ⟨e, h1, h2⟩ := ih
      exact ⟨e, by unfold mkEs at h1 ⊢; rw [List.map_cons, List.find?_cons, isStr_ne hn]; exact h1, h2⟩
  obtain ⟨e, h1, h2⟩ := this
  rw [h1]
  exact congrArg (fun x => some (some x)) h2
theorem getL_some {P : Params} (l : Fs) (n : PySem.Str) : (getL n (mkEs P l)).isSome = true := by
  unfold W.getL
  split
  · rfl
  · rw [any_refKey, if_neg (by decide)]; rfl
theorem FSet.putL {P : Params} {l l' : Fs} {n : String} {t : Nat} {v : Value} (h : FSet l n t v l') : putL (PySem.Str.ofString n) (PyData.keyHash P (PySem.Str.ofString n)) (.str (PySem.Str.ofString n) t) v (mkEs P l) = mkEs P l' := by
  induction h with
  | new => rfl
  | here => unfold mkEs; rw [List.map_cons, List.map_cons, W.putL, isStr_self]; rfl
  | there hn _ ih =>
    unfold mkEs at ih ⊢
    rw [List.map_cons, List.map_cons, W.putL, isStr_ne hn, if_neg (by decide), ih]
theorem FSet.len {l l' : Fs} {n : String} {t : Nat} {v : Value} (h : FSet l n t v l') : l'.length ≤ l.length + 1 := by
  induction h with
  | new => exact Nat.le_refl _
  | here => exact Nat.le_succ _
  | there _ _ ih => exact Nat.succ_le_succ ih

noncomputable def Has (b : Base) (led : Led) (x : Addr) (o : Obj) : Prop := b x = some o ∨ (x, o) ∈ led
theorem Has.get {a : Am} {b : Base} {led : Led} {fs : List Fm} {s : Shared} (H : Holds a b led fs s) {x : Addr} {o : Obj} (h : Has b led x o) : s.heap.get? x = some o := h.elim (H.base _ _) fun h => (H.ld _ h).1
/-- what an object of C is asked and told by name -/
noncomputable def fieldOk (P : Params) (C : Addr) (n : PySem.Str) : Bool := plainGet (K P) C n && hasDictIn (K P) C && (match findIn (K P) (.ref C) n with | some attr => noGet (K P) attr | none => false) &&
  findIn (K P) (.ref C) "__setattr__" == some (some (.builtin "object.__setattr__")) && plainOver (K P) C && takerIn (K P) C n == some none
section
variable {S : Sc} {X : Cx S} {b : Base} {led : Led} {vs : Vs}
theorem instAt {s : Shared} {C x dx : Addr} {o : Obj} (H : Holds X.am b led (X.fs vs) s) (hx : Has b led x (instObj C dx)) (hd : Has b led dx o) : InstAt s.heap x (instObj C dx) C (some o) := ⟨hx.get H, rfl, rfl, hd.get H⟩
theorem wGet {x C dx : Addr} {l : Fs} {k : Nat} {n : String} {v : Value} {e : Bool} {Q : Post Value} (hx : Has b led x (instObj C dx)) (hd : Has b led dx (dictOf (mkEs X.am.w.params l) k)) (hf : fieldOk X.am.w.params C (PySem.Str.ofString n) = true)
    (hl : FGet l n v) (hv : handedIn v = true) (q : Q v b led vs) : Wp X (getAttr (.ref x) (PySem.Str.ofString n) e) b led vs Q := .mk fun s H => by
  unfold fieldOk at hf
  simp only [Bool.and_eq_true, beq_iff_eq] at hf
  obtain ⟨⟨⟨⟨⟨f1, f2⟩, f3⟩, f4⟩, f5⟩, f6⟩ := hf
  cases ha : findIn (K X.am.w.params) (.ref C) (PySem.Str.ofString n) with
  | none => rw [ha] at f3; cases f3
  | some attr =>
    rw [ha] at f3
    exact get_value (X.ok.K.keeps H.stays) (instAt H hx hd) (plainGet_of f1).1 (findObj_own f2 ha f3 hl.getL) hv (Rest.of (H.tk _) q)
theorem wSet {x C dx : Addr} {pre post : Led} {l : Fs} {k : Nat} {n : String} {v : Value} {Q : Post Unit} (hx : Has b (pre ++ (dx, dictOf (mkEs X.am.w.params l) k) :: post) x (instObj C dx)) (hf : fieldOk X.am.w.params C (PySem.Str.ofString n) = true) (hz : l.length < 1000)
    (q : ∀ t l' k', FSet l n t v l' → Q () b (pre ++ (dx, dictOf (mkEs X.am.w.params l') k') :: post) vs) (hs : ∀ t, ∃ l', FSet l n t v l') : Wp X (setAttr (.ref x) (PySem.Str.ofString n) v) b (pre ++ (dx, dictOf (mkEs X.am.w.params l) k) :: post) vs Q := .mk fun s H => by
  unfold fieldOk at hf
  simp only [Bool.and_eq_true, beq_iff_eq] at hf
  obtain ⟨⟨⟨⟨⟨f1, f2⟩, f3⟩, f4⟩, f5⟩, f6⟩ := hf
  have hd : (dx, dictOf (mkEs X.am.w.params l) k) ∈ pre ++ (dx, dictOf (mkEs X.am.w.params l) k) :: post := by simp
  obtain ⟨l', hl'⟩ := hs (s.toks + 1)
  refine set_dict H.fr X.ok.K (H.news hd) (instAt H hx (.inr hd)) rfl f4 f5 f6 f2 (getL_some _ _) (es' := mkEs X.am.w.params l') (n' := _) (Prod.ext hl'.putL rfl) (.head fun p hp => (mem_oth.mp hp).1.2.1) ?_ fun h' F' N' => ?_
  · unfold mkEs; rw [List.length_map]; have := hl'.len; omega
  · exact Rest.of (H.back F' N' _) (q _ _ _ hl')
end
end Mine
namespace Mine
section
variable {S : Sc} {G : FnR} {X : Cx S} {b : Base} {led : Led} {vs : Vs}

noncomputable def Cx.mk' (X : Cx S) (C : Addr) (as : List Value) : Around := X.A.under (.builtin "type.__call__" ⟨.ref C :: as, []⟩)
theorem mk'_h (X : Cx S) (C : Addr) (as : List Value) : (X.mk' C as).handled = none := X.hh
theorem mk'_d (X : Cx S) (C : Addr) (as : List Value) : (X.mk' C as).depth = X.A.depth + 1 := rfl
theorem mk'_u (X : Cx S) (C : Addr) (as : List Value) : (X.mk' C as).units = X.A.units + 1 := rfl
/-- what a class is asked when it is called -/
noncomputable def makeOk (P : Params) (C f : Addr) : Bool := makesIn (K P) C && findIn (K P) (.ref C) "__init__" == some (some (.ref f)) && typeIn (K P) (.ref f) == some (.type "function")
theorem wMake {C : Addr} {as : List Value} {Q : Post Value} (hm : makeOk X.am.w.params C G.f = true) (hG : G.Ok X.am) (hroom : X.A.depth + 1 < recursionLimit) (hb : ∀ x, bindArgs G.fd ⟨.ref x :: as, []⟩ = pure (G.sc.ns.zip (.ref x :: as)))
    (h : ∀ x dx L, Wp (X.sub G hG (X.mk' C as) (mk'_h X C as) L vs) (execs (bodyOf G.st) (G.env L)) b ((dx, dictOf (mkEs X.am.w.params []) 0) :: (x, instObj C dx) :: led) (some (.ref x) :: (as.map some ++ List.replicate (G.sc.ns.length - (as.length + 1)) none))
      fun fl b' led' _ => retOf fl = .none ∧ Q (.ref x) b' led' vs) : Wp X (call (.ref C) as) b led vs Q := .mk fun s H => by
  unfold makeOk at hm
  simp only [Bool.and_eq_true, beq_iff_eq] at hm
  obtain ⟨⟨m1, m2⟩, m3⟩ := hm
  have KK := X.ok.K.keeps H.stays
  obtain ⟨hh, g, d, t, os⟩ := s
  have H1 := H.alloc (o := emptyDict) rfl t
  have H2 := H1.alloc (o := instObj C hh.objs.size) rfl t
  refine wpAny_call (make_core (makes_of KK m1) (looks_findIn KK m2) (fun self => bind_fn KK self m3) (.inl rfl) ?_)
  have e : (hh.push emptyDict).objs.size = hh.objs.size + 1 := Heap.size_push ..
  dsimp only at H2
  rw [e] at H2
  have H3 := H2.perm (led' := (hh.objs.size, dictOf (mkEs X.am.w.params []) 0) :: (hh.objs.size + 1, instObj C hh.objs.size) :: led) (.swap _ _ _)
  refine codeDef (mk'_h X C as) hG hroom (hb _) H3 (Q := fun v b' led' vs' => v = .none ∧ Q (.ref (hh.objs.size + 1)) b' led' vs') (fun L => ?_) fun v s' b' led' l H' q => ?_
  · exact h (hh.objs.size + 1) hh.objs.size L
  · exact ⟨q.1, b', led', vs, l, H', q.2⟩

noncomputable def methOk (P : Params) (C f : Addr) (n : PySem.Str) : Bool := plainGet (K P) C n && findIn (K P) (.ref C) n == some (some (.ref f)) && typeIn (K P) (.ref f) == some (.type "function")
theorem wGetMeth {x C dx f : Addr} {l : Fs} {k : Nat} {n : String} {pl : Sem Bool} {Q : Post (Value × List Value)} (hx : Has b led x (instObj C dx)) (hd : Has b led dx (dictOf (mkEs X.am.w.params l) k)) (hf : methOk X.am.w.params C f (PySem.Str.ofString n) = true)
    (hl : ∀ y ∈ l, y.1 ≠ n) (q : Q (.ref f, [.ref x]) b led vs) : Wp X (getMethod (.ref x) (PySem.Str.ofString n) pl) b led vs Q := .mk fun s H => by
  unfold methOk at hf
  simp only [Bool.and_eq_true, beq_iff_eq] at hf
  obtain ⟨⟨f1, f2⟩, f3⟩ := hf
  have hg := plainGet_of f1
  refine method_fn (X.ok.K.keeps H.stays) (instAt H hx hd) hg.1 hg.2 f2 f3 ?_ (Rest.of H q)
  show (lookIn _ (dictOf _ _)).map _ = _
  rw [lookIn_dict]
  have : getL (PySem.Str.ofString n) (mkEs X.am.w.params l) = some none := by
    unfold getL
    have : (mkEs X.am.w.params l).find? (·.key.isStr (PySem.Str.ofString n)) = none := by
      rw [List.find?_eq_none]
      intro e he
      obtain ⟨y, hy, rfl⟩ := List.mem_map.mp he
      rw [isStr_ne (hl y hy)]; decide
    rw [this]
    dsimp only
    rw [any_refKey, if_neg (by decide)]
  rw [this]; rfl

theorem wCallM {o : Expr} {name : PySem.Str} {apos pos : Pos} {args : List Expr} {pl : Sem Bool} {Q : Post Value}
    (he : eval (.Call (.Attribute o name apos) args [] pos) X.env = (do
      let ov ← eval o X.env
      standAt apos.atName
      let (f, first) ← holding [ov] (getMethod ov name pl)
      callWith pos f first (backTo pos (starEach args X.env)) []))
    (h : Wp X (eval o X.env) b led vs fun ov b₁ l₁ v₁ => Wp X (getMethod ov name pl) b₁ l₁ v₁ fun fx b₂ l₂ v₂ => Wp X (callWith pos fx.1 fx.2 (backTo pos (starEach args X.env)) []) b₂ l₂ v₂ Q) :
    Wp X (eval (.Call (.Attribute o name apos) args [] pos) X.env) b led vs Q := .mk fun s H =>
  MethodCall_ (wGo H h fun _ _ _ _ _ k₁ H₁ q₁ => wGo H₁ q₁ fun _ _ _ _ _ k₂ H₂ q₂ => wpRest (k₁.trans k₂) q₂ H₂) he
theorem wCallN {id : PySem.Str} {p pos : Pos} {args : List Expr} {Q : Post Value}
    (h : Wp X (eval (.Name id p) X.env) b led vs fun f b₁ l₁ v₁ => Wp X (callWith pos f [] (backTo pos (starEach args X.env)) []) b₁ l₁ v₁ Q) :
    Wp X (eval (.Call (.Name id p) args [] pos) X.env) b led vs Q := .mk fun s H =>
  wpAny_Call_Name_kw (wThen H h)
end
end Mine
namespace Mine
@[reducible] noncomputable def f_Decimal_init : FnR := ⟨87, 86, "__init__", "Decimal.__init__", kmth 6 0, .none, Mine.ks "paperhold.decimals" 268, ⟨[PySem.Str.ofString "self", PySem.Str.ofString "top", PySem.Str.ofString "places"], []⟩⟩
@[reducible] noncomputable def f_Decimal_plus : FnR := ⟨94, 93, "plus", "Decimal.plus", kmth 6 1, .none, Mine.ks "paperhold.decimals" 268, ⟨[PySem.Str.ofString "self", PySem.Str.ofString "other", PySem.Str.ofString "one", PySem.Str.ofString "two", PySem.Str.ofString "places"], [(PySem.Str.ofString "at_one_scale", .ref 192), (PySem.Str.ofString "Decimal", .ref 167)]⟩⟩
@[reducible] noncomputable def f_Decimal_times : FnR := ⟨108, 107, "times", "Decimal.times", kmth 6 3, .none, Mine.ks "paperhold.decimals" 268, ⟨[PySem.Str.ofString "self", PySem.Str.ofString "other", PySem.Str.ofString "factor"], [(PySem.Str.ofString "decimal_of", .ref 185), (PySem.Str.ofString "Decimal", .ref 167)]⟩⟩
@[reducible] noncomputable def f_Decimal_told : FnR := ⟨150, 149, "told", "Decimal.told", kmth 6 9, .none, Mine.ks "paperhold.decimals" 268, ⟨[PySem.Str.ofString "self"], []⟩⟩
@[reducible] noncomputable def f_decimal_of : FnR := ⟨185, 184, "decimal_of", "decimal_of", kstm 8, .none, Mine.ks "paperhold.decimals" 268, ⟨[PySem.Str.ofString "value"], [(PySem.Str.ofString "isinstance", .builtin "isinstance"), (PySem.Str.ofString "Decimal", .ref 167), (PySem.Str.ofString "bool", .type "bool"), (PySem.Str.ofString "int", .type "int"), (PySem.Str.ofString "PaperError", .ref 46)]⟩⟩
@[reducible] noncomputable def f_at_one_scale : FnR := ⟨192, 191, "at_one_scale", "at_one_scale", kstm 9, .none, Mine.ks "paperhold.decimals" 268, ⟨[PySem.Str.ofString "one", PySem.Str.ofString "other", PySem.Str.ofString "first", PySem.Str.ofString "second", PySem.Str.ofString "places"], [(PySem.Str.ofString "decimal_of", .ref 185), (PySem.Str.ofString "max", .builtin "max")]⟩⟩
@[reducible] noncomputable def f_Name_init : FnR := ⟨206, 205, "__init__", "Name.__init__", kmth 11 0, .none, Mine.ks "paperhold.objects" 413, ⟨[PySem.Str.ofString "self", PySem.Str.ofString "text"], []⟩⟩
@[reducible] noncomputable def f_String_init : FnR := ⟨228, 227, "__init__", "String.__init__", kmth 12 0, .ref 221, Mine.ks "paperhold.objects" 413, ⟨[PySem.Str.ofString "self", PySem.Str.ofString "octets", PySem.Str.ofString "is_hex"], []⟩⟩
@[reducible] noncomputable def f_kind_of : FnR := ⟨291, 290, "kind_of", "kind_of", kstm 15, .none, Mine.ks "paperhold.objects" 413, ⟨[PySem.Str.ofString "value"], [(PySem.Str.ofString "isinstance", .builtin "isinstance"), (PySem.Str.ofString "bool", .type "bool"), (PySem.Str.ofString "int", .type "int"), (PySem.Str.ofString "Decimal", .ref 167), (PySem.Str.ofString "Name", .ref 209), (PySem.Str.ofString "String", .ref 231), (PySem.Str.ofString "list", .type "list"), (PySem.Str.ofString "dict", .type "dict"), (PySem.Str.ofString "Stream", .ref 252), (PySem.Str.ofString "Reference", .ref 280), (PySem.Str.ofString "PaperError", .ref 46)]⟩⟩
@[reducible] noncomputable def f_is_number : FnR := ⟨298, 297, "is_number", "is_number", kstm 16, .none, Mine.ks "paperhold.objects" 413, ⟨[PySem.Str.ofString "value"], [(PySem.Str.ofString "kind_of", .ref 291)]⟩⟩
@[reducible] noncomputable def f_Matrix_init : FnR := ⟨324, 323, "__init__", "Matrix.__init__", kmth 21 0, .none, Mine.ks "paperhold.matrix" 573, ⟨[PySem.Str.ofString "self", PySem.Str.ofString "a", PySem.Str.ofString "b", PySem.Str.ofString "c", PySem.Str.ofString "d", PySem.Str.ofString "e", PySem.Str.ofString "f"], [(PySem.Str.ofString "decimal_of", .ref 185)]⟩⟩
@[reducible] noncomputable def f_Matrix_times : FnR := ⟨331, 330, "times", "Matrix.times", kmth 21 1, .none, Mine.ks "paperhold.matrix" 573, ⟨[PySem.Str.ofString "self", PySem.Str.ofString "other", PySem.Str.ofString "a", PySem.Str.ofString "b", PySem.Str.ofString "c", PySem.Str.ofString "d", PySem.Str.ofString "e", PySem.Str.ofString "f"], [(PySem.Str.ofString "Matrix", .ref 360)]⟩⟩
@[reducible] noncomputable def f_Matrix_applied : FnR := ⟨338, 337, "applied", "Matrix.applied", kmth 21 2, .none, Mine.ks "paperhold.matrix" 573, ⟨[PySem.Str.ofString "self", PySem.Str.ofString "x", PySem.Str.ofString "y", PySem.Str.ofString "right", PySem.Str.ofString "up"], []⟩⟩
@[reducible] noncomputable def f_Matrix_shifted : FnR := ⟨345, 344, "shifted", "Matrix.shifted", kmth 21 3, .none, Mine.ks "paperhold.matrix" 573, ⟨[PySem.Str.ofString "self", PySem.Str.ofString "x", PySem.Str.ofString "y", PySem.Str.ofString "right", PySem.Str.ofString "up"], []⟩⟩
@[reducible] noncomputable def f_identity : FnR := ⟨371, 370, "identity", "identity", kstm 22, .none, Mine.ks "paperhold.matrix" 573, ⟨[], [(PySem.Str.ofString "Matrix", .ref 360)]⟩⟩
@[reducible] noncomputable def f_translation : FnR := ⟨378, 377, "translation", "translation", kstm 23, .none, Mine.ks "paperhold.matrix" 573, ⟨[PySem.Str.ofString "x", PySem.Str.ofString "y"], [(PySem.Str.ofString "Matrix", .ref 360)]⟩⟩
@[reducible] noncomputable def f_from_array : FnR := ⟨385, 384, "from_array", "from_array", kstm 24, .none, Mine.ks "paperhold.matrix" 573, ⟨[PySem.Str.ofString "values"], [(PySem.Str.ofString "isinstance", .builtin "isinstance"), (PySem.Str.ofString "list", .type "list"), (PySem.Str.ofString "len", .builtin "len"), (PySem.Str.ofString "PaperError", .ref 46), (PySem.Str.ofString "Matrix", .ref 360)]⟩⟩
@[reducible] noncomputable def f_Operation_init : FnR := ⟨399, 398, "__init__", "Operation.__init__", kmth 26 0, .none, Mine.ks "paperhold.content" 684, ⟨[PySem.Str.ofString "self", PySem.Str.ofString "word", PySem.Str.ofString "operands"], []⟩⟩
@[reducible] noncomputable def f_text_kinds : FnR := ⟨418, 417, "text_kinds", "text_kinds", kstm 27, .none, Mine.ks "paperhold.content" 684, ⟨[PySem.Str.ofString "found", PySem.Str.ofString "word"], []⟩⟩
@[reducible] noncomputable def f_fits_kind : FnR := ⟨423, 422, "fits_kind", "fits_kind", kstm 28, .none, Mine.ks "paperhold.content" 684, ⟨[PySem.Str.ofString "value", PySem.Str.ofString "kind"], [(PySem.Str.ofString "is_number", .ref 298), (PySem.Str.ofString "kind_of", .ref 291), (PySem.Str.ofString "isinstance", .builtin "isinstance"), (PySem.Str.ofString "list", .type "list")]⟩⟩
@[reducible] noncomputable def f_Glyph_init : FnR := ⟨439, 438, "__init__", "Glyph.__init__", kmth 32 0, .none, Mine.ks "paperhold.textout" 737, ⟨[PySem.Str.ofString "self", PySem.Str.ofString "text", PySem.Str.ofString "x", PySem.Str.ofString "y", PySem.Str.ofString "width", PySem.Str.ofString "size"], []⟩⟩
@[reducible] noncomputable def f_Glyph_told : FnR := ⟨446, 445, "told", "Glyph.told", kmth 32 1, .none, Mine.ks "paperhold.textout" 737, ⟨[PySem.Str.ofString "self"], []⟩⟩
@[reducible] noncomputable def f_TextSheet_init : FnR := ⟨467, 466, "__init__", "TextSheet.__init__", kmth 33 0, .none, Mine.ks "paperhold.textout" 737, ⟨[PySem.Str.ofString "self", PySem.Str.ofString "operations", PySem.Str.ofString "fonts", PySem.Str.ofString "forms", PySem.Str.ofString "own"], []⟩⟩
@[reducible] noncomputable def f_TextState_init : FnR := ⟨488, 487, "__init__", "TextState.__init__", kmth 34 0, .none, Mine.ks "paperhold.textout" 737, ⟨[PySem.Str.ofString "self", PySem.Str.ofString "ctm"], [(PySem.Str.ofString "Decimal", .ref 167)]⟩⟩
@[reducible] noncomputable def f_TextState_copied : FnR := ⟨495, 494, "copied", "TextState.copied", kmth 34 1, .none, Mine.ks "paperhold.textout" 737, ⟨[PySem.Str.ofString "self", PySem.Str.ofString "other"], [(PySem.Str.ofString "TextState", .ref 505), (PySem.Str.ofString "dict", .type "dict")]⟩⟩
@[reducible] noncomputable def f_TextState_stretched : FnR := ⟨502, 501, "stretched", "TextState.stretched", kmth 34 2, .none, Mine.ks "paperhold.textout" 737, ⟨[PySem.Str.ofString "self", PySem.Str.ofString "way"], [(PySem.Str.ofString "Decimal", .ref 167)]⟩⟩
@[reducible] noncomputable def f_advance : FnR := ⟨516, 515, "advance", "advance", kstm 35, .none, Mine.ks "paperhold.textout" 737, ⟨[PySem.Str.ofString "state", PySem.Str.ofString "code", PySem.Str.ofString "bare", PySem.Str.ofString "whole"], []⟩⟩
@[reducible] noncomputable def f_along : FnR := ⟨523, 522, "along", "along", kstm 36, .none, Mine.ks "paperhold.textout" 737, ⟨[PySem.Str.ofString "place", PySem.Str.ofString "way", PySem.Str.ofString "right", PySem.Str.ofString "up"], [(PySem.Str.ofString "Matrix", .ref 360)]⟩⟩
@[reducible] noncomputable def f_shown_glyphs : FnR := ⟨530, 529, "shown_glyphs", "shown_glyphs", kstm 37, .none, Mine.ks "paperhold.textout" 737, ⟨[PySem.Str.ofString "state", PySem.Str.ofString "place", PySem.Str.ofString "octets", PySem.Str.ofString "onto", PySem.Str.ofString "up", PySem.Str.ofString "gone", PySem.Str.ofString "found", PySem.Str.ofString "code", PySem.Str.ofString "whole", PySem.Str.ofString "bare", PySem.Str.ofString "x", PySem.Str.ofString "y"], [(PySem.Str.ofString "FontFault", .ref 71), (PySem.Str.ofString "Decimal", .ref 167), (PySem.Str.ofString "advance", .ref 516), (PySem.Str.ofString "Glyph", .ref 449)]⟩⟩
@[reducible] noncomputable def f_check_operands : FnR := ⟨537, 536, "check_operands", "check_operands", kstm 38, .none, Mine.ks "paperhold.textout" 737, ⟨[PySem.Str.ofString "kinds", PySem.Str.ofString "operation", PySem.Str.ofString "wanted", PySem.Str.ofString "at"], [(PySem.Str.ofString "len", .builtin "len"), (PySem.Str.ofString "PaintFault", .ref 59), (PySem.Str.ofString "range", .type "range"), (PySem.Str.ofString "fits_kind", .ref 423)]⟩⟩
@[reducible] noncomputable def f_TextWalk_init : FnR := ⟨551, 550, "__init__", "TextWalk.__init__", kmth 39 0, .none, Mine.ks "paperhold.textout" 737, ⟨[PySem.Str.ofString "self", PySem.Str.ofString "sheet", PySem.Str.ofString "state"], []⟩⟩
@[reducible] noncomputable def f_TextWalk_show : FnR := ⟨558, 557, "show", "TextWalk.show", kmth 39 1, .none, Mine.ks "paperhold.textout" 737, ⟨[PySem.Str.ofString "self", PySem.Str.ofString "octets", PySem.Str.ofString "fresh", PySem.Str.ofString "gone"], [(PySem.Str.ofString "shown_glyphs", .ref 530), (PySem.Str.ofString "along", .ref 523)]⟩⟩
@[reducible] noncomputable def f_TextWalk_next_row : FnR := ⟨572, 571, "next_row", "TextWalk.next_row", kmth 39 3, .none, Mine.ks "paperhold.textout" 737, ⟨[PySem.Str.ofString "self", PySem.Str.ofString "right", PySem.Str.ofString "up"], [(PySem.Str.ofString "translation", .ref 378)]⟩⟩
@[reducible] noncomputable def f_TextWalk_set_matrix : FnR := ⟨586, 585, "set_matrix", "TextWalk.set_matrix", kmth 39 5, .none, Mine.ks "paperhold.textout" 737, ⟨[PySem.Str.ofString "self", PySem.Str.ofString "one"], []⟩⟩
@[reducible] noncomputable def f_follow_placed : FnR := ⟨600, 599, "follow_placed", "follow_placed", kstm 40, .none, Mine.ks "paperhold.textout" 737, ⟨[PySem.Str.ofString "tour", PySem.Str.ofString "word", PySem.Str.ofString "operands"], [(PySem.Str.ofString "PaintFault", .ref 59), (PySem.Str.ofString "decimal_of", .ref 185), (PySem.Str.ofString "from_array", .ref 385)]⟩⟩
@[reducible] noncomputable def f_choose_font : FnR := ⟨607, 606, "choose_font", "choose_font", kstm 41, .none, Mine.ks "paperhold.textout" 737, ⟨[PySem.Str.ofString "tour", PySem.Str.ofString "operands"], [(PySem.Str.ofString "FontFault", .ref 71), (PySem.Str.ofString "decimal_of", .ref 185)]⟩⟩
@[reducible] noncomputable def f_follow_state : FnR := ⟨614, 613, "follow_state", "follow_state", kstm 42, .none, Mine.ks "paperhold.textout" 737, ⟨[PySem.Str.ofString "tour", PySem.Str.ofString "word", PySem.Str.ofString "operands"], [(PySem.Str.ofString "len", .builtin "len"), (PySem.Str.ofString "PaintFault", .ref 59), (PySem.Str.ofString "from_array", .ref 385), (PySem.Str.ofString "identity", .ref 371)]⟩⟩
@[reducible] noncomputable def f_sheet_glyphs : FnR := ⟨621, 620, "sheet_glyphs", "sheet_glyphs", kstm 43, .none, Mine.ks "paperhold.textout" 737, ⟨[PySem.Str.ofString "sheet", PySem.Str.ofString "state", PySem.Str.ofString "kinds", PySem.Str.ofString "tour", PySem.Str.ofString "operation", PySem.Str.ofString "word", PySem.Str.ofString "form", PySem.Str.ofString "inner"], [(PySem.Str.ofString "text_kinds", .ref 418), (PySem.Str.ofString "TextWalk", .ref 589), (PySem.Str.ofString "check_operands", .ref 537), (PySem.Str.ofString "PLACED_WORDS", .ref 424), (PySem.Str.ofString "follow_placed", .ref 600), (PySem.Str.ofString "SPACING_WORDS", .ref 425), (PySem.Str.ofString "decimal_of", .ref 185), (PySem.Str.ofString "choose_font", .ref 607), (PySem.Str.ofString "sheet_glyphs", .ref 621), (PySem.Str.ofString "follow_state", .ref 614)]⟩⟩
@[reducible] noncomputable def f_lay_glyphs : FnR := ⟨628, 627, "lay_glyphs", "lay_glyphs", kstm 44, .none, Mine.ks "paperhold.textout" 737, ⟨[PySem.Str.ofString "sheet"], [(PySem.Str.ofString "sheet_glyphs", .ref 621), (PySem.Str.ofString "TextState", .ref 505)]⟩⟩
@[reducible] noncomputable def f_CMap_init : FnR := ⟨642, 641, "__init__", "CMap.__init__", kmth 48 0, .none, Mine.ks "paperhold.cmaps" 1056, ⟨[PySem.Str.ofString "self", PySem.Str.ofString "spaces", PySem.Str.ofString "chars"], []⟩⟩
@[reducible] noncomputable def f_ascii_names : FnR := ⟨694, 693, "ascii_names", "ascii_names", kstm 62, .none, Mine.ks "paperhold.encodings" 1146, ⟨[PySem.Str.ofString "capitals", PySem.Str.ofString "smalls"], [(PySem.Str.ofString "range", .type "range"), (PySem.Str.ofString "LOW_NAMES", Mine.ks "space exclam quotedbl numbersign dollar percent ampersand quotesingle parenleft parenright asterisk plus comma hyphen period slash zero one two three four five six seven eight nine colon semicolon less equal greater question at" 1148), (PySem.Str.ofString "MIDDLE_NAMES", Mine.ks "bracketleft backslash bracketright asciicircum underscore grave" 1150), (PySem.Str.ofString "HIGH_NAMES", Mine.ks "braceleft bar braceright asciitilde" 1152)]⟩⟩
@[reducible] noncomputable def f_latin_names : FnR := ⟨699, 698, "latin_names", "latin_names", kstm 63, .none, Mine.ks "paperhold.encodings" 1146, ⟨[PySem.Str.ofString "names", PySem.Str.ofString "smalls"], [(PySem.Str.ofString "LATIN_NAMES", Mine.ks "exclamdown cent sterling currency yen brokenbar section dieresis copyright ordfeminine guillemotleft logicalnot hyphen registered macron degree plusminus twosuperior threesuperior acute mu paragraph periodcentered cedilla onesuperior ordmasculine guillemotright onequarter onehalf threequarters questiondown Agrave Aacute Acircumflex Atilde Adieresis Aring AE Ccedilla Egrave Eacute Ecircumflex Edieresis Igrave Iacute Icircumflex Idieresis Eth Ntilde Ograve Oacute Ocircumflex Otilde Odieresis multiply Oslash Ugrave Uacute Ucircumflex Udieresis Yacute Thorn germandbls" 1154)]⟩⟩
@[reducible] noncomputable def f_known_code : FnR := ⟨720, 719, "known_code", "known_code", kstm 66, .none, Mine.ks "paperhold.encodings" 1146, ⟨[PySem.Str.ofString "name", PySem.Str.ofString "names"], [(PySem.Str.ofString "OTHER_CODES", .ref 686), (PySem.Str.ofString "ascii_names", .ref 694), (PySem.Str.ofString "latin_names", .ref 699)]⟩⟩
@[reducible] noncomputable def f_part_text : FnR := ⟨725, 724, "part_text", "part_text", kstm 67, .none, Mine.ks "paperhold.encodings" 1146, ⟨[PySem.Str.ofString "part", PySem.Str.ofString "code", PySem.Str.ofString "codes"], [(PySem.Str.ofString "known_code", .ref 720), (PySem.Str.ofString "chr", .builtin "chr"), (PySem.Str.ofString "len", .builtin "len"), (PySem.Str.ofString "range", .type "range"), (PySem.Str.ofString "all", .builtin "all"), (PySem.Str.ofString "hex_number", .ref 706), (PySem.Str.ofString "is_sign_code", .ref 713)]⟩⟩
@[reducible] noncomputable def f_glyph_text : FnR := ⟨730, 729, "glyph_text", "glyph_text", kstm 68, .none, Mine.ks "paperhold.encodings" 1146, ⟨[PySem.Str.ofString "name"], []⟩⟩
@[reducible] noncomputable def f_width_in : FnR := ⟨737, 736, "width_in", "width_in", kstm 70, .none, Mine.ks "paperhold.fonts" 1327, ⟨[PySem.Str.ofString "rows", PySem.Str.ofString "code", PySem.Str.ofString "default", PySem.Str.ofString "first", PySem.Str.ofString "last", PySem.Str.ofString "widths"], [(PySem.Str.ofString "len", .builtin "len")]⟩⟩
@[reducible] noncomputable def f_Font_init : FnR := ⟨765, 764, "__init__", "Font.__init__", kmth 73 0, .none, Mine.ks "paperhold.fonts" 1327, ⟨[PySem.Str.ofString "self", PySem.Str.ofString "names", PySem.Str.ofString "cutting", PySem.Str.ofString "unicode", PySem.Str.ofString "rows", PySem.Str.ofString "default", PySem.Str.ofString "unit", PySem.Str.ofString "standard"], []⟩⟩
@[reducible] noncomputable def f_Font_codes : FnR := ⟨770, 769, "codes", "Font.codes", kmth 73 1, .none, Mine.ks "paperhold.fonts" 1327, ⟨[PySem.Str.ofString "self", PySem.Str.ofString "octets"], [(PySem.Str.ofString "split_codes", .ref 685)]⟩⟩
@[reducible] noncomputable def f_Font_width : FnR := ⟨777, 776, "width", "Font.width", kmth 73 2, .none, Mine.ks "paperhold.fonts" 1327, ⟨[PySem.Str.ofString "self", PySem.Str.ofString "pair", PySem.Str.ofString "found"], [(PySem.Str.ofString "standard_width", .ref 744), (PySem.Str.ofString "width_in", .ref 737), (PySem.Str.ofString "cid_of", .ref 751), (PySem.Str.ofString "decimal_of", .ref 185)]⟩⟩
@[reducible] noncomputable def f_Font_text : FnR := ⟨784, 783, "text", "Font.text", kmth 73 3, .none, Mine.ks "paperhold.fonts" 1327, ⟨[PySem.Str.ofString "self", PySem.Str.ofString "pair"], [(PySem.Str.ofString "glyph_text", .ref 730)]⟩⟩
@[reducible] noncomputable def f_law_draw : FnR := ⟨798, 797, "_law_draw", "_law_draw", kstm 75, .none, Mine.ks "law_og0196_01" 1427, ⟨[PySem.Str.ofString "tape", PySem.Str.ofString "limit", PySem.Str.ofString "cells", PySem.Str.ofString "at"], [(PySem.Str.ofString "len", .builtin "len")]⟩⟩
@[reducible] noncomputable def f_law_number : FnR := ⟨805, 804, "_law_number", "_law_number", kstm 76, .none, Mine.ks "law_og0196_01" 1427, ⟨[PySem.Str.ofString "tape", PySem.Str.ofString "drawn"], [(PySem.Str.ofString "_law_draw", .ref 798), (PySem.Str.ofString "Decimal", .ref 167)]⟩⟩
@[reducible] noncomputable def f_law_six : FnR := ⟨810, 809, "_law_six", "_law_six", kstm 77, .none, Mine.ks "law_og0196_01" 1427, ⟨[PySem.Str.ofString "tape"], [(PySem.Str.ofString "range", .type "range")]⟩⟩
@[reducible] noncomputable def f_law_matrix : FnR := ⟨817, 816, "_law_matrix", "_law_matrix", kstm 78, .none, Mine.ks "law_og0196_01" 1427, ⟨[PySem.Str.ofString "p"], [(PySem.Str.ofString "Matrix", .ref 360)]⟩⟩
@[reducible] noncomputable def f_law_block : FnR := ⟨824, 823, "_law_block", "_law_block", kstm 79, .none, Mine.ks "law_og0196_01" 1427, ⟨[PySem.Str.ofString "tape", PySem.Str.ofString "drawn", PySem.Str.ofString "octets", PySem.Str.ofString "place"], [(PySem.Str.ofString "_law_draw", .ref 798), (PySem.Str.ofString "_law_number", .ref 805), (PySem.Str.ofString "Operation", .ref 407), (PySem.Str.ofString "String", .ref 231)]⟩⟩
@[reducible] noncomputable def f_law_form : FnR := ⟨831, 830, "_law_form", "_law_form", kstm 80, .none, Mine.ks "law_og0196_01" 1427, ⟨[PySem.Str.ofString "tape", PySem.Str.ofString "level", PySem.Str.ofString "fonts", PySem.Str.ofString "forms", PySem.Str.ofString "flats", PySem.Str.ofString "six", PySem.Str.ofString "word", PySem.Str.ofString "inner", PySem.Str.ofString "deeds", PySem.Str.ofString "flat"], [(PySem.Str.ofString "_law_six", .ref 810), (PySem.Str.ofString "str", .type "str"), (PySem.Str.ofString "len", .builtin "len"), (PySem.Str.ofString "_law_items", .ref 845), (PySem.Str.ofString "TextSheet", .ref 470), (PySem.Str.ofString "_law_matrix", .ref 817), (PySem.Str.ofString "Operation", .ref 407)]⟩⟩
@[reducible] noncomputable def f_law_item : FnR := ⟨838, 837, "_law_item", "_law_item", kstm 81, .none, Mine.ks "law_og0196_01" 1427, ⟨[PySem.Str.ofString "tape", PySem.Str.ofString "level", PySem.Str.ofString "fonts", PySem.Str.ofString "forms", PySem.Str.ofString "flats", PySem.Str.ofString "kind", PySem.Str.ofString "found", PySem.Str.ofString "deeds", PySem.Str.ofString "flat", PySem.Str.ofString "word"], [(PySem.Str.ofString "_law_draw", .ref 798), (PySem.Str.ofString "Operation", .ref 407), (PySem.Str.ofString "_law_six", .ref 810), (PySem.Str.ofString "_law_items", .ref 845), (PySem.Str.ofString "_law_form", .ref 831), (PySem.Str.ofString "Name", .ref 209), (PySem.Str.ofString "_law_number", .ref 805), (PySem.Str.ofString "str", .type "str"), (PySem.Str.ofString "_law_block", .ref 824)]⟩⟩
@[reducible] noncomputable def f_law_items : FnR := ⟨845, 844, "_law_items", "_law_items", kstm 82, .none, Mine.ks "law_og0196_01" 1427, ⟨[PySem.Str.ofString "tape", PySem.Str.ofString "level", PySem.Str.ofString "fonts", PySem.Str.ofString "forms", PySem.Str.ofString "flats", PySem.Str.ofString "deeds", PySem.Str.ofString "flat", PySem.Str.ofString "k", PySem.Str.ofString "one", PySem.Str.ofString "two"], [(PySem.Str.ofString "range", .type "range"), (PySem.Str.ofString "_law_draw", .ref 798), (PySem.Str.ofString "_law_item", .ref 838)]⟩⟩
@[reducible] noncomputable def f_law_told : FnR := ⟨850, 849, "_law_told", "_law_told", kstm 83, .none, Mine.ks "law_og0196_01" 1427, ⟨[PySem.Str.ofString "found"], []⟩⟩
@[reducible] noncomputable def f_law : FnR := ⟨857, 856, "law", "law", kstm 84, .none, Mine.ks "law_og0196_01" 1427, ⟨[PySem.Str.ofString "script", PySem.Str.ofString "tape", PySem.Str.ofString "six", PySem.Str.ofString "chars", PySem.Str.ofString "font", PySem.Str.ofString "forms", PySem.Str.ofString "deeds", PySem.Str.ofString "flat", PySem.Str.ofString "begun", PySem.Str.ofString "ended", PySem.Str.ofString "fonts", PySem.Str.ofString "found", PySem.Str.ofString "page"], [(PySem.Str.ofString "list", .type "list"), (PySem.Str.ofString "_law_six", .ref 810), (PySem.Str.ofString "Font", .ref 787), (PySem.Str.ofString "CMap", .ref 650), (PySem.Str.ofString "Decimal", .ref 167), (PySem.Str.ofString "_law_items", .ref 845), (PySem.Str.ofString "Operation", .ref 407), (PySem.Str.ofString "Name", .ref 209), (PySem.Str.ofString "_law_block", .ref 824), (PySem.Str.ofString "_law_told", .ref 850), (PySem.Str.ofString "lay_glyphs", .ref 628), (PySem.Str.ofString "TextSheet", .ref 470), (PySem.Str.ofString "_law_matrix", .ref 817), (PySem.Str.ofString "identity", .ref 371)]⟩⟩
noncomputable def gsQ (gs : List (PySem.Str × Value)) : Bool := gs.all fun y => tabQ globTab y.1 y.2 || tabQ biTab y.1 y.2
theorem gsQ_of {gs : List (PySem.Str × Value)} {P : Params} (h : gsQ gs = true) : ∀ y ∈ gs, y ∈ globTab ∨ nsIn (Mine.K P) mainGlobals y.1 = some (some y.2) ∨ y ∈ biTab := fun y hy => by
  have := List.all_eq_true.mp h y hy
  rcases Bool.or_eq_true_iff.mp this with q | q
  · exact .inl (tabQ_of q)
  · exact .inr (.inr (tabQ_of q))
theorem f_Decimal_init_ok {a : Am} (A : a.Ok) : f_Decimal_init.Ok a := .of A (by kernel_rfl) (by kernel_rfl) (by kernel_rfl) (gsQ_of (by kernel_rfl))
theorem f_Decimal_plus_ok {a : Am} (A : a.Ok) : f_Decimal_plus.Ok a := .of A (by kernel_rfl) (by kernel_rfl) (by kernel_rfl) (gsQ_of (by kernel_rfl))
theorem f_Decimal_times_ok {a : Am} (A : a.Ok) : f_Decimal_times.Ok a := .of A (by kernel_rfl) (by kernel_rfl) (by kernel_rfl) (gsQ_of (by kernel_rfl))
theorem f_Decimal_told_ok {a : Am} (A : a.Ok) : f_Decimal_told.Ok a := .of A (by kernel_rfl) (by kernel_rfl) (by kernel_rfl) (gsQ_of (by kernel_rfl))
theorem f_decimal_of_ok {a : Am} (A : a.Ok) : f_decimal_of.Ok a := .of A (by kernel_rfl) (by kernel_rfl) (by kernel_rfl) (gsQ_of (by kernel_rfl))
theorem f_at_one_scale_ok {a : Am} (A : a.Ok) : f_at_one_scale.Ok a := .of A (by kernel_rfl) (by kernel_rfl) (by kernel_rfl) (gsQ_of (by kernel_rfl))
theorem f_Name_init_ok {a : Am} (A : a.Ok) : f_Name_init.Ok a := .of A (by kernel_rfl) (by kernel_rfl) (by kernel_rfl) (gsQ_of (by kernel_rfl))
theorem f_String_init_ok {a : Am} (A : a.Ok) : f_String_init.Ok a := .of A (by kernel_rfl) (by kernel_rfl) (by kernel_rfl) (gsQ_of (by kernel_rfl))
theorem f_kind_of_ok {a : Am} (A : a.Ok) : f_kind_of.Ok a := .of A (by kernel_rfl) (by kernel_rfl) (by kernel_rfl) (gsQ_of (by kernel_rfl))
theorem f_is_number_ok {a : Am} (A : a.Ok) : f_is_number.Ok a := .of A (by kernel_rfl) (by kernel_rfl) (by kernel_rfl) (gsQ_of (by kernel_rfl))
theorem f_Matrix_init_ok {a : Am} (A : a.Ok) : f_Matrix_init.Ok a := .of A (by kernel_rfl) (by kernel_rfl) (by kernel_rfl) (gsQ_of (by kernel_rfl))
theorem f_Matrix_times_ok {a : Am} (A : a.Ok) : f_Matrix_times.Ok a := .of A (by kernel_rfl) (by kernel_rfl) (by kernel_rfl) (gsQ_of (by kernel_rfl))
theorem f_Matrix_applied_ok {a : Am} (A : a.Ok) : f_Matrix_applied.Ok a := .of A (by kernel_rfl) (by kernel_rfl) (by kernel_rfl) (gsQ_of (by kernel_rfl))
theorem f_Matrix_shifted_ok {a : Am} (A : a.Ok) : f_Matrix_shifted.Ok a := .of A (by kernel_rfl) (by kernel_rfl) (by kernel_rfl) (gsQ_of (by kernel_rfl))
theorem f_identity_ok {a : Am} (A : a.Ok) : f_identity.Ok a := .of A (by kernel_rfl) (by kernel_rfl) (by kernel_rfl) (gsQ_of (by kernel_rfl))
theorem f_translation_ok {a : Am} (A : a.Ok) : f_translation.Ok a := .of A (by kernel_rfl) (by kernel_rfl) (by kernel_rfl) (gsQ_of (by kernel_rfl))
theorem f_from_array_ok {a : Am} (A : a.Ok) : f_from_array.Ok a := .of A (by kernel_rfl) (by kernel_rfl) (by kernel_rfl) (gsQ_of (by kernel_rfl))
theorem f_Operation_init_ok {a : Am} (A : a.Ok) : f_Operation_init.Ok a := .of A (by kernel_rfl) (by kernel_rfl) (by kernel_rfl) (gsQ_of (by kernel_rfl))
theorem f_text_kinds_ok {a : Am} (A : a.Ok) : f_text_kinds.Ok a := .of A (by kernel_rfl) (by kernel_rfl) (by kernel_rfl) (gsQ_of (by kernel_rfl))
theorem f_fits_kind_ok {a : Am} (A : a.Ok) : f_fits_kind.Ok a := .of A (by kernel_rfl) (by kernel_rfl) (by kernel_rfl) (gsQ_of (by kernel_rfl))
theorem f_Glyph_init_ok {a : Am} (A : a.Ok) : f_Glyph_init.Ok a := .of A (by kernel_rfl) (by kernel_rfl) (by kernel_rfl) (gsQ_of (by kernel_rfl))
theorem f_Glyph_told_ok {a : Am} (A : a.Ok) : f_Glyph_told.Ok a := .of A (by kernel_rfl) (by kernel_rfl) (by kernel_rfl) (gsQ_of (by kernel_rfl))
theorem f_TextSheet_init_ok {a : Am} (A : a.Ok) : f_TextSheet_init.Ok a := .of A (by kernel_rfl) (by kernel_rfl) (by kernel_rfl) (gsQ_of (by kernel_rfl))
theorem f_TextState_init_ok {a : Am} (A : a.Ok) : f_TextState_init.Ok a := .of A (by kernel_rfl) (by kernel_rfl) (by kernel_rfl) (gsQ_of (by kernel_rfl))
theorem f_TextState_copied_ok {a : Am} (A : a.Ok) : f_TextState_copied.Ok a := .of A (by kernel_rfl) (by kernel_rfl) (by kernel_rfl) (gsQ_of (by kernel_rfl))
theorem f_TextState_stretched_ok {a : Am} (A : a.Ok) : f_TextState_stretched.Ok a := .of A (by kernel_rfl) (by kernel_rfl) (by kernel_rfl) (gsQ_of (by kernel_rfl))
theorem f_advance_ok {a : Am} (A : a.Ok) : f_advance.Ok a := .of A (by kernel_rfl) (by kernel_rfl) (by kernel_rfl) (gsQ_of (by kernel_rfl))
theorem f_along_ok {a : Am} (A : a.Ok) : f_along.Ok a := .of A (by kernel_rfl) (by kernel_rfl) (by kernel_rfl) (gsQ_of (by kernel_rfl))
theorem f_shown_glyphs_ok {a : Am} (A : a.Ok) : f_shown_glyphs.Ok a := .of A (by kernel_rfl) (by kernel_rfl) (by kernel_rfl) (gsQ_of (by kernel_rfl))
theorem f_check_operands_ok {a : Am} (A : a.Ok) : f_check_operands.Ok a := .of A (by kernel_rfl) (by kernel_rfl) (by kernel_rfl) (gsQ_of (by kernel_rfl))
theorem f_TextWalk_init_ok {a : Am} (A : a.Ok) : f_TextWalk_init.Ok a := .of A (by kernel_rfl) (by kernel_rfl) (by kernel_rfl) (gsQ_of (by kernel_rfl))
theorem f_TextWalk_show_ok {a : Am} (A : a.Ok) : f_TextWalk_show.Ok a := .of A (by kernel_rfl) (by kernel_rfl) (by kernel_rfl) (gsQ_of (by kernel_rfl))
theorem f_TextWalk_next_row_ok {a : Am} (A : a.Ok) : f_TextWalk_next_row.Ok a := .of A (by kernel_rfl) (by kernel_rfl) (by kernel_rfl) (gsQ_of (by kernel_rfl))
theorem f_TextWalk_set_matrix_ok {a : Am} (A : a.Ok) : f_TextWalk_set_matrix.Ok a := .of A (by kernel_rfl) (by kernel_rfl) (by kernel_rfl) (gsQ_of (by kernel_rfl))
theorem f_follow_placed_ok {a : Am} (A : a.Ok) : f_follow_placed.Ok a := .of A (by kernel_rfl) (by kernel_rfl) (by kernel_rfl) (gsQ_of (by kernel_rfl))
theorem f_choose_font_ok {a : Am} (A : a.Ok) : f_choose_font.Ok a := .of A (by kernel_rfl) (by kernel_rfl) (by kernel_rfl) (gsQ_of (by kernel_rfl))
theorem f_follow_state_ok {a : Am} (A : a.Ok) : f_follow_state.Ok a := .of A (by kernel_rfl) (by kernel_rfl) (by kernel_rfl) (gsQ_of (by kernel_rfl))
theorem f_sheet_glyphs_ok {a : Am} (A : a.Ok) : f_sheet_glyphs.Ok a := .of A (by kernel_rfl) (by kernel_rfl) (by kernel_rfl) (gsQ_of (by kernel_rfl))
theorem f_lay_glyphs_ok {a : Am} (A : a.Ok) : f_lay_glyphs.Ok a := .of A (by kernel_rfl) (by kernel_rfl) (by kernel_rfl) (gsQ_of (by kernel_rfl))
theorem f_CMap_init_ok {a : Am} (A : a.Ok) : f_CMap_init.Ok a := .of A (by kernel_rfl) (by kernel_rfl) (by kernel_rfl) (gsQ_of (by kernel_rfl))
theorem f_glyph_text_ok {a : Am} (A : a.Ok) : f_glyph_text.Ok a := .of A (by kernel_rfl) (by kernel_rfl) (by kernel_rfl) (gsQ_of (by kernel_rfl))
theorem f_width_in_ok {a : Am} (A : a.Ok) : f_width_in.Ok a := .of A (by kernel_rfl) (by kernel_rfl) (by kernel_rfl) (gsQ_of (by kernel_rfl))
theorem f_Font_init_ok {a : Am} (A : a.Ok) : f_Font_init.Ok a := .of A (by kernel_rfl) (by kernel_rfl) (by kernel_rfl) (gsQ_of (by kernel_rfl))
theorem f_Font_codes_ok {a : Am} (A : a.Ok) : f_Font_codes.Ok a := .of A (by kernel_rfl) (by kernel_rfl) (by kernel_rfl) (gsQ_of (by kernel_rfl))
theorem f_Font_width_ok {a : Am} (A : a.Ok) : f_Font_width.Ok a := .of A (by kernel_rfl) (by kernel_rfl) (by kernel_rfl) (gsQ_of (by kernel_rfl))
theorem f_Font_text_ok {a : Am} (A : a.Ok) : f_Font_text.Ok a := .of A (by kernel_rfl) (by kernel_rfl) (by kernel_rfl) (gsQ_of (by kernel_rfl))
theorem f_law_draw_ok {a : Am} (A : a.Ok) : f_law_draw.Ok a := .of A (by kernel_rfl) (by kernel_rfl) (by kernel_rfl) (gsQ_of (by kernel_rfl))
theorem f_law_number_ok {a : Am} (A : a.Ok) : f_law_number.Ok a := .of A (by kernel_rfl) (by kernel_rfl) (by kernel_rfl) (gsQ_of (by kernel_rfl))
theorem f_law_matrix_ok {a : Am} (A : a.Ok) : f_law_matrix.Ok a := .of A (by kernel_rfl) (by kernel_rfl) (by kernel_rfl) (gsQ_of (by kernel_rfl))
theorem f_law_block_ok {a : Am} (A : a.Ok) : f_law_block.Ok a := .of A (by kernel_rfl) (by kernel_rfl) (by kernel_rfl) (gsQ_of (by kernel_rfl))
theorem f_law_form_ok {a : Am} (A : a.Ok) : f_law_form.Ok a := .of A (by kernel_rfl) (by kernel_rfl) (by kernel_rfl) (gsQ_of (by kernel_rfl))
theorem f_law_item_ok {a : Am} (A : a.Ok) : f_law_item.Ok a := .of A (by kernel_rfl) (by kernel_rfl) (by kernel_rfl) (gsQ_of (by kernel_rfl))
theorem f_law_items_ok {a : Am} (A : a.Ok) : f_law_items.Ok a := .of A (by kernel_rfl) (by kernel_rfl) (by kernel_rfl) (gsQ_of (by kernel_rfl))
theorem f_law_told_ok {a : Am} (A : a.Ok) : f_law_told.Ok a := .of A (by kernel_rfl) (by kernel_rfl) (by kernel_rfl) (gsQ_of (by kernel_rfl))
theorem f_law_ok {a : Am} (A : a.Ok) : f_law.Ok a := .of A (by kernel_rfl) (by kernel_rfl) (by kernel_rfl) (gsQ_of (by kernel_rfl))
end Mine
namespace Mine
/-- a decimal: its top, its places -/
structure Dc where
  top : Int
  pl : Nat
  deriving DecidableEq
noncomputable def norm (t : Int) : Nat → Dc
  | 0 => ⟨t, 0⟩
  | p + 1 => if t.fmod 10 = 0 then norm (t.fdiv 10) p else ⟨t, p + 1⟩
noncomputable def Dc.times (x y : Dc) : Dc := norm (x.top * y.top) (x.pl + y.pl)
noncomputable def Dc.plus (x y : Dc) : Dc := norm (x.top * 10 ^ (max x.pl y.pl - x.pl) + y.top * 10 ^ (max x.pl y.pl - y.pl)) (max x.pl y.pl)
noncomputable def Sz (B P : Nat) (d : Dc) : Prop := d.top.natAbs < 2 ^ B ∧ d.pl ≤ P
theorem bits_le {x : Int} {n : Nat} (h : x.natAbs < 2 ^ n) : Builtin.Int.intBits x ≤ n := by
  unfold Builtin.Int.intBits
  split
  · exact Nat.zero_le _
  · rename_i hx
    have h0 : x.natAbs ≠ 0 := by simpa using hx
    have := (Nat.log2_lt h0).mpr h
    omega
theorem mulOk {x y : Int} {m n : Nat} (hx : x.natAbs < 2 ^ m) (hy : y.natAbs < 2 ^ n) (h : m + n ≤ 2 ^ 27) : IntMulOk x y := by
  have h1 := bits_le hx
  have h2 := bits_le hy
  unfold IntMulOk
  have : Builtin.Int.intTooBig (Builtin.Int.intBits x + Builtin.Int.intBits y) = false := by
    unfold Builtin.Int.intTooBig
    exact decide_eq_false (by show ¬ ((_ : Int) > bitsLine); simp only [bitsLine]; omega)
  rw [this]; simp
theorem abs_mul {x y : Int} {m n : Nat} (hx : x.natAbs < 2 ^ m) (hy : y.natAbs < 2 ^ n) : (x * y).natAbs < 2 ^ (m + n) := by
  rw [Int.natAbs_mul, Nat.pow_add]
  exact Nat.mul_lt_mul'' hx hy
theorem abs_add {x y : Int} {n : Nat} (hx : x.natAbs < 2 ^ n) (hy : y.natAbs < 2 ^ n) : (x + y).natAbs < 2 ^ (n + 1) := by
  have := Int.natAbs_add_le x y
  rw [Nat.pow_succ]; omega
theorem abs_ten (k : Nat) : ((10 : Int) ^ k).natAbs < 2 ^ (4 * k + 1) := by
  rw [Int.natAbs_pow]
  show 10 ^ k < _
  have : (10 : Nat) ^ k ≤ 16 ^ k := Nat.pow_le_pow_left (by decide) k
  have e : (16 : Nat) ^ k = 2 ^ (4 * k) := by rw [Nat.pow_mul]
  have z : 0 < (2 : Nat) ^ (4 * k) := Nat.two_pow_pos _
  rw [Nat.pow_succ]; omega
theorem abs_le {x : Int} {m n : Nat} (h : x.natAbs < 2 ^ m) (k : m ≤ n) : x.natAbs < 2 ^ n := Nat.lt_of_lt_of_le h (Nat.pow_le_pow_right (by decide) k)
theorem norm_sz {B : Nat} : ∀ (p : Nat) {t : Int}, t.natAbs < 2 ^ B → Sz B p (norm t p)
  | 0, t, h => ⟨h, Nat.le_refl _⟩
  | p + 1, t, h => by
    unfold norm
    split
    · have h' : (t.fdiv 10).natAbs < 2 ^ B := by
        have : (t.fdiv 10).natAbs ≤ t.natAbs := by rw [Int.fdiv_eq_ediv_of_nonneg _ (by decide)]; omega
        omega
      exact ⟨(norm_sz p h').1, Nat.le_succ_of_le (norm_sz p h').2⟩
    · exact ⟨h, Nat.le_refl _⟩
theorem Sz.mono {B P B' P' : Nat} {d : Dc} (h : Sz B P d) (hb : B ≤ B') (hp : P ≤ P') : Sz B' P' d := ⟨abs_le h.1 hb, Nat.le_trans h.2 hp⟩
theorem Sz.times {B P B' P' : Nat} {x y : Dc} (hx : Sz B P x) (hy : Sz B' P' y) : Sz (B + B') (P + P') (x.times y) := (norm_sz _ (abs_mul hx.1 hy.1)).mono (Nat.le_refl _) (by have := hx.2; have := hy.2; omega)
theorem Sz.plus {B P B' P' : Nat} {x y : Dc} (hx : Sz B P x) (hy : Sz B' P' y) : Sz (max B B' + 4 * max P P' + 2) (max P P') (x.plus y) := by
  have h1 := abs_mul hx.1 (abs_ten (max x.pl y.pl - x.pl))
  have h2 := abs_mul hy.1 (abs_ten (max x.pl y.pl - y.pl))
  have a := hx.2
  have c := hy.2
  exact (norm_sz _ (abs_add (abs_le h1 (n := max B B' + 4 * max P P' + 1) (by omega)) (abs_le h2 (by omega)))).mono (Nat.le_refl _) (by omega)
end Mine
namespace Mine
section
variable {S : Sc} {X : Cx S} {b : Base} {led : Led} {vs : Vs} {m n : Int} {t u : Tok} {Q : Post Value}
theorem wAdd (q : ∀ tk, Q (.int (m + n) tk) b led vs) : Wp X (binaryOp .Add (.int m t) (.int n u)) b led vs Q := .mk fun s H => PyProof.Rows.add_int (Rest.of (H.tk _) (q _))
theorem wSub (q : ∀ tk, Q (.int (m - n) tk) b led vs) : Wp X (binaryOp .Sub (.int m t) (.int n u)) b led vs Q := .mk fun s H => PyProof.Rows.sub_int (Rest.of (H.tk _) (q _))
theorem wMul (hm : IntMulOk m n) (q : ∀ tk, Q (.int (m * n) tk) b led vs) : Wp X (binaryOp .Mult (.int m t) (.int n u)) b led vs Q := .mk fun s H => PyProof.Rows.mul_int (Rest.of (H.tk _) (q _)) hm
theorem wFdiv (hn : n ≠ 0) (hs : n.natAbs < 1073741824) (q : ∀ tk, Q (.int (m.fdiv n) tk) b led vs) : Wp X (binaryOp .FloorDiv (.int m t) (.int n u)) b led vs Q := .mk fun s H => floordiv_int hn (Rest.of (H.tk _) (q _)) (hp := .inl (PyProof.noPylong_small hs))
theorem wFmod (hn : n ≠ 0) (q : ∀ tk, Q (.int (m.fmod n) tk) b led vs) : Wp X (binaryOp .Mod (.int m t) (.int n u)) b led vs Q := .mk fun s H => mod_int' hn (Rest.of (H.tk _) (q _))
theorem wPow (hn : 0 ≤ n) (hs : (Builtin.Int.intBits m : Int) * n ≤ 2 ^ 27) (q : ∀ tk, Q (.int (m ^ n.toNat) tk) b led vs) : Wp X (binaryOp .Pow (.int m t) (.int n u)) b led vs Q := .mk fun s H => pow_int hn hs (Rest.of (H.tk _) (q _))
theorem wNeg (q : ∀ tk, Q (.int (-m) tk) b led vs) : Wp X (unaryOp .USub (.int m t)) b led vs Q := .mk fun s H => neg_int (Rest.of (H.tk _) (q _))
theorem wLt (q : Q (.bool (decide (m < n))) b led vs) : Wp X (compareOp .Lt (.int m t) (.int n u)) b led vs Q := .mk fun s H => PyProof.Rows.lt_int (Rest.of H q)
theorem wGt (q : Q (.bool (decide (n < m))) b led vs) : Wp X (compareOp .Gt (.int m t) (.int n u)) b led vs Q := .mk fun s H => PyProof.Rows.gt_int (Rest.of H q)
theorem wLe (q : Q (.bool (decide (m ≤ n))) b led vs) : Wp X (compareOp .LtE (.int m t) (.int n u)) b led vs Q := .mk fun s H => PyProof.Rows.le_int (Rest.of H q)
theorem wGe (q : Q (.bool (decide (n ≤ m))) b led vs) : Wp X (compareOp .GtE (.int m t) (.int n u)) b led vs Q := .mk fun s H => PyProof.Rows.ge_int (Rest.of H q)
theorem wEqI (q : Q (.bool (m == n)) b led vs) : Wp X (compareOp .Eq (.int m t) (.int n u)) b led vs Q := .mk fun s H => PyProof.Rows.eq_int (Rest.of H q)
theorem wNeI (q : Q (.bool (m != n)) b led vs) : Wp X (compareOp .NotEq (.int m t) (.int n u)) b led vs Q := .mk fun s H => PyProof.Rows.ne_int (Rest.of H q)
theorem wIsNone {v : Value} (q : Q (.bool (v == .none)) b led vs) : Wp X (compareOp .Is v .none) b led vs Q := .mk fun s H => is_none_gen (Rest.of H q)
theorem wIsNotNone {v : Value} (q : Q (.bool (!(v == .none))) b led vs) : Wp X (compareOp .IsNot v .none) b led vs Q := .mk fun s H => isnot_none_gen (Rest.of H q)
theorem wTruthyInt {Q : Post Bool} (q : Q (m != 0) b led vs) : Wp X (truthy (.int m t)) b led vs Q := .mk fun s H => truthy_int (Rest.of H q)
theorem wIsi {v c ty : Value} {P : Heap → Prop} {r : Bool} (Z : KitX (K X.am.w.params) v ty P) (p : ∀ s, Holds X.am b led (X.fs vs) s → P s.heap) (e : kitOne (K X.am.w.params) ty c = some r) (hx : v ≠ .builtin "__main__.__loader__#opaque") (q : Q (.bool r) b led vs) :
    Wp X (call (.builtin "isinstance") [v, c]) b led vs Q := .mk fun s H => kia_one Z (X.ok.K.keeps H.stays) (p s H) e hx fun tk => Rest.of (H.tk _) q
theorem wMax (q : ∀ tk, Q (.int (max m n) tk) b led vs) : Wp X (call (.builtin "max") [.int m t, .int n u]) b led vs Q := .mk fun s H =>
  max_two_ints X.hh fun h' tk hk => by
    by_cases c : n > m
    · rw [if_pos c]; have := q u; rw [Int.max_eq_right (Int.le_of_lt c)] at this; exact Rest.of (H.grow hk _) this
    · rw [if_neg c]; have := q t; rw [Int.max_eq_left (Int.not_lt.mp c)] at this; exact Rest.of (H.grow hk _) this

theorem wWhile {test body orelse pos} (I : Nat → Base → Led → Vs → Prop) {Q : Post Flow}
    (turn : ∀ n b led vs, I n b led vs → Wp X (isTrue test X.env (eval test X.env)) b led vs fun c b led vs => if c then Wp X (execs body X.env) b led vs fun f b led vs => match f with
        | .next | .cont => ∃ m, m < n ∧ I m b led vs
        | .brk => Q .next b led vs
        | .ret v => Q (.ret v) b led vs
      else Wp X (execs orelse X.env) b led vs Q) (n : Nat) (h : I n b led vs) : Wp X (exec (.While test body orelse pos) X.env) b led vs Q := .mk fun s H => by
  refine wpAny_While (codeAny_whileLoop (fun n s => ∃ b' led' vs', Le b b' ∧ Holds X.am b' led' (X.fs vs') s ∧ I n b' led' vs') (fun n s ⟨b', led', vs', l, H', hI⟩ => ?_) n ⟨b, led, vs, .rfl, H, h⟩)
  refine wpAny_mono ((turn n _ _ _ hI).go s H') (fun c s' ⟨b₁, led₁, vs₁, l₁, H₁, q₁⟩ => ?_) fun _ _ e => e.elim
  cases c
  · exact wpAny_mono (q₁.go s' H₁) (fun f s' ⟨b₂, led₂, vs₂, l₂, H₂, q₂⟩ => ⟨b₂, led₂, vs₂, (l.trans l₁).trans l₂, H₂, q₂⟩) fun _ _ e => e.elim
  · refine wpAny_mono (q₁.go s' H₁) (fun f s' ⟨b₂, led₂, vs₂, l₂, H₂, q₂⟩ => ?_) fun _ _ e => e.elim
    cases f with
    | next => obtain ⟨m, hm, hi⟩ := q₂; exact ⟨m, hm, b₂, led₂, vs₂, (l.trans l₁).trans l₂, H₂, hi⟩
    | cont => obtain ⟨m, hm, hi⟩ := q₂; exact ⟨m, hm, b₂, led₂, vs₂, (l.trans l₁).trans l₂, H₂, hi⟩
    | brk => exact ⟨b₂, led₂, vs₂, (l.trans l₁).trans l₂, H₂, q₂⟩
    | ret v => exact ⟨b₂, led₂, vs₂, (l.trans l₁).trans l₂, H₂, q₂⟩
end
end Mine
namespace Mine
section
variable {S : Sc} {X : Cx S} {b : Base} {led : Led} {vs : Vs}
inductive GlAt : List (PySem.Str × Value) → PySem.Str → Value → Prop
  | here {x : PySem.Str} {v : Value} {l : List (PySem.Str × Value)} : GlAt ((x, v) :: l) x v
  | there {p : PySem.Str × Value} {l : List (PySem.Str × Value)} {x : PySem.Str} {v : Value} : GlAt l x v → GlAt (p :: l) x v
theorem GlAt.mem {l : List (PySem.Str × Value)} {x : PySem.Str} {v : Value} (h : GlAt l x v) : (x, v) ∈ l := by induction h with | here => exact .head _ | there _ ih => exact .tail _ ih
theorem wGl {x : PySem.Str} {pos : Pos} {v : Value} {Q : Post Value} (h : GlAt S.gs x v) (q : Q v b led vs) : Wp X (eval (.Name x pos) X.env) b led vs Q := wGlob h.mem q
noncomputable def After (X : Cx S) (rest : List Stmt) (env : Env) (Q : Post Flow) : Post Flow := fun f b l v => match f with | .next => Wp X (execs rest env) b l v Q | f => Q f b l v
theorem aNext {rest : List Stmt} {env : Env} {Q : Post Flow} (h : Wp X (execs rest env) b led vs Q) : After X rest env Q .next b led vs := h
theorem aBack {rest : List Stmt} {env : Env} {v : Value} {Q : Post Flow} (h : Q (.ret v) b led vs) : After X rest env Q (.ret v) b led vs := h
theorem aSkip {env : Env} {Q : Post Flow} (q : Q .next b led vs) : Wp X (execs [] env) b led vs Q := wSkip q
theorem aRet {env : Env} {e pos r} {Q : Post Flow} (h : Wp X (eval e env) b led vs fun v b₁ l₁ v₁ => Q (.ret v) b₁ l₁ v₁) : Wp X (execs (.Return (some e) pos :: r) env) b led vs Q := wSeq (wRet h)
theorem aRet0 {env : Env} {pos r} {Q : Post Flow} (q : Q (.ret .none) b led vs) : Wp X (execs (.Return none pos :: r) env) b led vs Q := wSeq (.mk fun s H => wpAny_Return_none (Rest.of H q))
theorem aIf {env : Env} {test body orelse pos rest} {Q : Post Flow} (h : Wp X (isTrue test env (eval test env)) b led vs fun c b₁ l₁ v₁ => if c = true then Wp X (execs body env) b₁ l₁ v₁ (After X rest env Q) else Wp X (execs orelse env) b₁ l₁ v₁ (After X rest env Q)) :
    Wp X (execs (.If test body orelse pos :: rest) env) b led vs Q := wSeq (wIf h)
theorem aAssign {x pos' value pos rest} {Q : Post Flow} (hs : swapsWith value (some (.Name x pos')) pos.line X.env = pure false) (h : Wp X (eval value X.env) b led vs fun v b₁ l₁ v₁ => ∃ v₂, LocSet S.ns v₁ x v v₂ ∧ Wp X (execs rest X.env) b₁ l₁ v₂ Q) :
    Wp X (execs (.Assign [.Name x pos'] value pos :: rest) X.env) b led vs Q := wSeq (wAssign hs h)
theorem aExpr {e pos rest} {Q : Post Flow} (hs : swapsWith e none pos.line X.env = pure false) (h : Wp X (eval e X.env) b led vs fun v b₁ l₁ v₁ => (∀ a, v ≠ .ref a) ∧ Wp X (execs rest X.env) b₁ l₁ v₁ Q) :
    Wp X (execs (.Expr e pos :: rest) X.env) b led vs Q := wSeq (wExpr hs h)
theorem aWhile {test body orelse pos rest} (I : Nat → Base → Led → Vs → Prop) {Q : Post Flow}
    (turn : ∀ n b led vs, I n b led vs → Wp X (isTrue test X.env (eval test X.env)) b led vs fun c b led vs => if c = true then Wp X (execs body X.env) b led vs fun f b led vs => match f with
        | .next | .cont => ∃ m, m < n ∧ I m b led vs
        | .brk => After X rest X.env Q .next b led vs
        | .ret v => After X rest X.env Q (.ret v) b led vs
      else Wp X (execs orelse X.env) b led vs (After X rest X.env Q)) (n : Nat) (h : I n b led vs) : Wp X (execs (.While test body orelse pos :: rest) X.env) b led vs Q := wSeq (wWhile I turn n h)
theorem aWhileJ {test body pos rest} (I : Nat → Base → Led → Vs → Prop) (J : Base → Led → Vs → Prop) {Q : Post Flow}
    (turn : ∀ n b led vs, I n b led vs → Wp X (isTrue test X.env (eval test X.env)) b led vs fun c b led vs => if c = true then Wp X (execs body X.env) b led vs fun f b led vs => f = .next ∧ ∃ m, m < n ∧ I m b led vs else J b led vs)
    (n : Nat) (h : I n b led vs) (fin : ∀ b led vs, J b led vs → Wp X (execs rest X.env) b led vs Q) : Wp X (execs (.While test body [] pos :: rest) X.env) b led vs Q :=
  aWhile I (fun n b led vs hI => wMono (turn n b led vs hI) fun c b' led' vs' _ q => by
    cases c
    · exact wSkip (fin _ _ _ q)
    · exact wMono q fun f _ _ _ _ ⟨e, q⟩ => by subst e; exact q) n h
theorem aSetAttr {o attr pos' value pos rest} {Q : Post Flow} (hs : swapsWith value (some (.Attribute o attr pos')) pos.line X.env = pure false)
    (h : Wp X (eval value X.env) b led vs fun v b₁ l₁ v₁ => Wp X (eval o X.env) b₁ l₁ v₁ fun ov b₂ l₂ v₂ => Wp X (setAttr ov attr v) b₂ l₂ v₂ fun _ b₃ l₃ v₃ => Wp X (execs rest X.env) b₃ l₃ v₃ Q) :
    Wp X (execs (.Assign [.Attribute o attr pos'] value pos :: rest) X.env) b led vs Q := wSeq (.mk fun s H => by
  refine plainObj_wpAny_Assign_Attribute ?_ hs
  exact wGo H h fun v s₁ b₁ l₁ v₁ k₁ H₁ q₁ => wGo H₁ q₁ fun ov s₂ b₂ l₂ v₂ k₂ H₂ q₂ => wGo H₂ q₂ fun _ s₃ b₃ l₃ v₃ k₃ H₃ q₃ => ⟨b₃, l₃, v₃, (k₁.trans k₂).trans k₃, H₃, q₃⟩)
theorem ite_of {c : Bool} {p q : Prop} (h : c = true → p) (k : c = false → q) : if c = true then p else q := by cases c; exact k rfl; exact h rfl
theorem ite_t {c : Bool} {p q : Prop} (hc : c = true) (h : p) : if c = true then p else q := by rw [if_pos hc]; exact h
theorem ite_f {c : Bool} {p q : Prop} (hc : c = false) (h : q) : if c = true then p else q := by rw [hc]; exact h
inductive FSetF : Fs → String → Value → (Nat → Fs) → Prop
  | new {n v} : FSetF [] n v fun t => [(n, t, v)]
  | here {n t u l v} : FSetF ((n, t, u) :: l) n v fun _ => (n, t, v) :: l
  | there {n' t u l n v f} : n' ≠ n → FSetF l n v f → FSetF ((n', t, u) :: l) n v fun t' => (n', t, u) :: f t'
theorem FSetF.at {l n v f} (h : FSetF l n v f) (t : Nat) : FSet l n t v (f t) := by
  induction h with
  | new => exact .new
  | here => exact .here
  | there hn _ ih => exact .there hn ih
theorem FSet.uniq {l n t v l' l''} (h : FSet l n t v l') (k : FSet l n t v l'') : l' = l'' := by
  induction h generalizing l'' with
  | new => cases k; rfl
  | here => cases k with
    | here => rfl
    | there hn _ => exact absurd rfl hn
  | there hn _ ih => cases k with
    | here => exact absurd rfl hn
    | there _ k => rw [ih k]
theorem wSet0 {x C dx : Addr} {post : Led} {l : Fs} {f : Nat → Fs} {k : Nat} {n : String} {v : Value} {Q : Post Unit} (hx : Has b ((dx, dictOf (mkEs X.am.w.params l) k) :: post) x (instObj C dx)) (hf : fieldOk X.am.w.params C (PySem.Str.ofString n) = true) (hs : FSetF l n v f) (hz : l.length < 1000)
    (q : ∀ t k', Q () b ((dx, dictOf (mkEs X.am.w.params (f t)) k') :: post) vs) : Wp X (setAttr (.ref x) (PySem.Str.ofString n) v) b ((dx, dictOf (mkEs X.am.w.params l) k) :: post) vs Q :=
  wSet (pre := []) hx hf hz (fun t l' k' h => by rw [(h.uniq (hs.at t))]; exact q t k') fun t => ⟨_, hs.at t⟩
/-- at a tree's end the ledger is put in order -/
inductive Fz {α : Type} (Q : Post α) (v : α) (vs : Vs) : Base → Led → Prop
  | done {b : Base} {led : Led} : Q v b led vs → Fz Q v vs b led
  | freeze {b : Base} {x : Addr} {o : Obj} {led : Led} : (∀ b', Le b b' → b' x = some o → Fz Q v vs b' led) → Fz Q v vs b ((x, o) :: led)
  | drop {b : Base} {p : Addr × Obj} {led : Led} : Fz Q v vs b led → Fz Q v vs b (p :: led)
  | perm {b : Base} {led led' : Led} : led.Perm led' → Fz Q v vs b led' → Fz Q v vs b led
theorem Fz.use {α : Type} {Q : Post α} {v : α} {vs : Vs} {s : Shared} (h : Fz Q v vs b led) (H : Holds X.am b led (X.fs vs) s) : ∃ b' led', Le b b' ∧ Holds X.am b' led' (X.fs vs) s ∧ Q v b' led' vs := by
  induction h with
  | done q => exact ⟨_, _, .rfl, H, q⟩
  | freeze _ ih =>
    have ⟨l, H'⟩ := H.freeze
    obtain ⟨b', led', l', H'', q⟩ := ih _ l put_self H'
    exact ⟨b', led', l.trans l', H'', q⟩
  | drop _ ih => exact ih H.drop
  | perm p _ ih => exact ih (H.perm p)
theorem wFz {α : Type} {t : Sem α} {Q : Post α} (h : Wp X t b led vs fun v b l vs => Fz Q v vs b l) : Wp X t b led vs Q := .mk fun s H =>
  wpAny_mono (h.go s H) (fun v s' ⟨b', led', vs', l, H', q⟩ => by
    obtain ⟨b'', led'', l', H'', q'⟩ := q.use H'
    exact ⟨b'', led'', vs', l.trans l', H'', q'⟩) fun _ _ e => e
end
end Mine
namespace Mine
/-! the ledger, in place -/
inductive LedX : Led → Addr → Obj → (Obj → Led) → Prop
  | here {d : Addr} {o : Obj} {l : Led} : LedX ((d, o) :: l) d o fun o' => (d, o') :: l
  | there {p : Addr × Obj} {d : Addr} {o : Obj} {l : Led} {f : Obj → Led} : LedX l d o f → LedX (p :: l) d o fun o' => p :: f o'
theorem LedX.split {l d o f} (h : LedX l d o f) : ∃ pre post, l = pre ++ (d, o) :: post ∧ ∀ o', f o' = pre ++ (d, o') :: post := by
  induction h with
  | here => exact ⟨[], _, rfl, fun _ => rfl⟩
  | @there p _ _ _ _ _ ih => obtain ⟨pre, post, h1, h2⟩ := ih; exact ⟨p :: pre, post, by rw [h1]; rfl, fun o' => congrArg (p :: ·) (h2 o')⟩
theorem LedX.mem {l d o f} (h : LedX l d o f) : (d, o) ∈ l := by
  obtain ⟨pre, post, h1, _⟩ := h.split
  rw [h1]; simp
section
variable {a : Am} {b : Base} {led : Led} {fs : List Fm} {s : Shared}
theorem Holds.put {d : Addr} {o o' : Obj} {f : Obj → Led} (H : Holds a b led fs s) (x : LedX led d o f) {h' : Heap} (k : Heap.ExtBut d s.heap h') (hd : h'.get? d = some o') (t : Nat) : Holds a b (f o') fs { s with heap := h', toks := t } := by
  obtain ⟨pre, post, h1, h2⟩ := x.split
  rw [h2]; rw [h1] at H
  exact H.upd k hd t
/-- an owned object is changed and given up -/
theorem Holds.letgo {p : Addr × Obj} (H : Holds a b (p :: led) fs s) {h' : Heap} (k : Heap.ExtBut p.1 s.heap h') (t : Nat) : Holds a b led fs { s with heap := h', toks := t } := by
  have D := H.ld p (.head _)
  have nd := H.nd
  rw [List.map_cons, List.cons_append, List.nodup_cons, List.mem_append] at nd
  refine ⟨fun x o₁ e => k _ _ (fun q => ?_) (H.base x o₁ e), H.old, fun q hq => ⟨k _ _ (fun e => nd.1 (.inl (e ▸ List.mem_map_of_mem hq))) (H.ld q (.tail _ hq)).1, (H.ld q (.tail _ hq)).2⟩,
    fun f hf => ⟨(H.frs f hf).1.extBut k fun q => nd.1 (.inr (q ▸ List.mem_map_of_mem (f := Fm.L) hf)), (H.frs f hf).2⟩, nd.2, H.gens, H.os⟩
  rw [q] at e; rw [D.2] at e; cases e
/-- the frame on top is changed and given up -/
theorem Holds.lose {f : Fm} (H : Holds a b led (f :: fs) s) {h' : Heap} (k : Heap.ExtBut f.L s.heap h') (t : Nat) : Holds a b led fs { s with heap := h', toks := t } := by
  have D := H.frs f (.head _)
  have nd := H.nd
  rw [List.map_cons, List.nodup_append, List.nodup_cons] at nd
  refine ⟨fun x o₁ e => k _ _ (fun q => ?_) (H.base x o₁ e), H.old, fun p hp => ⟨k _ _ (H.led_ne hp (.head _)) (H.ld p hp).1, (H.ld p hp).2⟩,
    fun g hg => ⟨(H.frs g (.tail _ hg)).1.extBut k fun q => nd.2.1.1 (q ▸ List.mem_map_of_mem (f := Fm.L) hg), (H.frs g (.tail _ hg)).2⟩, ?_, H.gens, H.os⟩
  · rw [q] at e; rw [D.2.1] at e; cases e
  · rw [List.nodup_append]
    exact ⟨nd.1, nd.2.1.2, fun x hx y hy => nd.2.2 x hx y (.tail _ hy)⟩
end
abbrev LO (us : List Value) (n : Nat) : Obj := { cls := .type "list", data := .seq us.toArray n }
abbrev TO (us : List Value) (n : Nat) : Obj := { cls := .type "tuple", data := .seq us.toArray n }
noncomputable def IsLO (us : List Value) (o : Obj) : Prop := o.cls = .type "list" ∧ ∃ n, o.data = .seq us.toArray n
theorem IsLO.mk {us : List Value} {n : Nat} : IsLO us (LO us n) := ⟨rfl, _, rfl⟩
section
variable {S : Sc} {X : Cx S} {b : Base} {led : Led} {vs : Vs}
theorem Has.list {a : Am} {fs : List Fm} {s : Shared} {x : Addr} {us : List Value} {o : Obj} (h : Has b led x o) (ho : IsLO us o) (H : Holds a b led fs s) : s.heap.IsList x us.toArray := ⟨_, h.get H, ho⟩
theorem Has.tup {a : Am} {fs : List Fm} {s : Shared} {x : Addr} {us : List Value} {n : Nat} (h : Has b led x (TO us n)) (H : Holds a b led fs s) : IsTup s.heap x us.toArray := ⟨_, h.get H, rfl, _, rfl⟩

/-! subscripts -/
noncomputable def plainSlice : Expr → Bool
  | .Slice .. => false
  | _ => true
theorem sub_of {slice : Expr} {o i : Value} (h : plainSlice slice = true) : subscripted slice false o i = operate [o, i] (getItem o i) := by
  cases slice <;> first | rfl | cases h
theorem wSubscript {env : Env} {value slice pos} {Q : Post Value} (h : Wp X (eval value env) b led vs fun o b₁ l₁ v₁ => Wp X (eval slice env) b₁ l₁ v₁ fun i b₂ l₂ v₂ => Wp X (subscriptTail value slice o i) b₂ l₂ v₂ Q) :
    Wp X (eval (.Subscript value slice pos) env) b led vs Q := .mk fun s H => Subscript_ (wGo H h fun _ _ _ _ _ k₁ H₁ q₁ => wGo H₁ q₁ fun _ _ _ _ _ k₂ H₂ q₂ => wpRest (k₁.trans k₂) q₂ H₂)
theorem wItemL {value slice : Expr} {x : Addr} {o : Obj} {us : List Value} {k : Int} {t : Tok} {v : Value} {Q : Post Value} (hx : Has b led x o) (ho : IsLO us o) (h0 : 0 ≤ k) (hf : k < 2 ^ 63) (hv : us[k.toNat]? = some v)
    (hs : plainSlice slice = true) (q : Q v b led vs) : Wp X (subscriptTail value slice (.ref x) (.int k t)) b led vs Q := .mk fun s H =>
  subscriptTail_builtinR (x := v) (hx.list ho H).typeIs slot_list_getitem.lookup (wpAny_getItem_list (hx.list ho H) h0 hf (by simpa using hv) ⟨rfl, Rest.of H q⟩) (sub_of hs)
theorem wItemLneg {value slice : Expr} {x : Addr} {o : Obj} {us : List Value} {k : Int} {t : Tok} {v : Value} {Q : Post Value} (hx : Has b led x o) (ho : IsLO us o) (h0 : k < 0) (h1 : -(us.length : Int) ≤ k) (hf : -(2 ^ 63) ≤ k) (hv : us[(k + us.length).toNat]? = some v)
    (hs : plainSlice slice = true) (q : Q v b led vs) : Wp X (subscriptTail value slice (.ref x) (.int k t)) b led vs Q := .mk fun s H =>
  subscriptTail_builtinR (x := v) (hx.list ho H).typeIs slot_list_getitem.lookup (wpAny_getItem_list_neg (hx.list ho H) h0 (by simpa using h1) hf (by simpa using hv) ⟨rfl, Rest.of H q⟩) (sub_of hs)
theorem wItemT {value slice : Expr} {x : Addr} {us : List Value} {n : Nat} {k : Int} {t : Tok} {v : Value} {Q : Post Value} (hx : Has b led x (TO us n)) (h0 : 0 ≤ k) (hf : k < 2 ^ 63) (hv : us[k.toNat]? = some v)
    (hs : plainSlice slice = true) (q : Q v b led vs) : Wp X (subscriptTail value slice (.ref x) (.int k t)) b led vs Q := .mk fun s H => by
  have hl : k.toNat < us.length := by rcases Nat.lt_or_ge k.toNat us.length with h | h; exact h; rw [List.getElem?_eq_none h] at hv; cases hv
  refine subscriptTail_builtinR (x := v) (hx.tup H).typeIs slot_tuple_getitem.lookup (getItem_tuple (hx.tup H) (by omega) hf (j := k.toNat) ?_ (by simpa using hv) ⟨rfl, Rest.of H q⟩) (sub_of hs)
  rw [List.size_toArray]
  unfold seqIndex?
  simp only [show ¬ k < 0 by omega, if_false]
  rw [if_pos]
  simp only [Bool.and_eq_true, decide_eq_true_eq]; omega
theorem wLenL {x : Addr} {o : Obj} {us : List Value} {Q : Post Value} (hx : Has b led x o) (ho : IsLO us o) (hf : us.length < 2 ^ 62) (q : ∀ t, Q (.int us.length t) b led vs) : Wp X (call (.builtin "len") [.ref x]) b led vs Q := .mk fun s H =>
  call_len_list (hx.list ho H) (by simp; omega) (by rw [List.size_toArray]; exact Rest.of (H.tk (s.toks + 1 + 1)) (q _))
theorem wLenT {x : Addr} {us : List Value} {n : Nat} {Q : Post Value} (hx : Has b led x (TO us n)) (hf : us.length < 2 ^ 62) (q : ∀ t, Q (.int us.length t) b led vs) : Wp X (call (.builtin "len") [.ref x]) b led vs Q := .mk fun s H =>
  PyProof.Rows.len_tuple (hx.tup H) (by simp; omega) (by rw [List.size_toArray]; exact Rest.of (H.tk (s.toks + 1 + 1)) (q _))
theorem wAddL {x y : Addr} {o o' : Obj} {us ws : List Value} {Q : Post Value} (hx : Has b led x o) (ho : IsLO us o) (hy : Has b led y o') (ho' : IsLO ws o') (hz : us.length + ws.length ≤ sizeLine) (q : ∀ r, Q (.ref r) b ((r, LO (us ++ ws) 0) :: led) vs) :
    Wp X (binaryOp .Add (.ref x) (.ref y)) b led vs Q := .mk fun s H => by
  obtain ⟨c1, d1, a1, s1⟩ := o
  obtain ⟨c2, d2, a2, s2⟩ := o'
  obtain ⟨h1, n1, h2⟩ := ho
  obtain ⟨h3, n2, h4⟩ := ho'
  dsimp only at h1 h2 h3 h4
  subst h1 h2 h3 h4
  refine concat_meets ⟨_, hx.get H, rfl⟩ ⟨_, hy.get H, rfl⟩ noFill_list_add seq_list_add PySem.F.slot_list_add PySem.F.entry_list_add (PySem.F.args_list_add_2 _ _) (list_addW x y us.toArray ws.toArray n1 n2 d1 d2 s1 s2 (by simpa using hz)) ⟨hx.get H, hy.get H, ?_⟩
  rw [show us.toArray ++ ws.toArray = (us ++ ws).toArray by simp]
  exact Rest.of (H.alloc (o := LO (us ++ ws) 0) rfl s.toks) (q _)
theorem wSetItemL {x : Addr} {o : Obj} {f : Obj → Led} {us : List Value} {k : Int} {t : Tok} {v : Value} {Q : Post Unit} (hx : LedX led x o f) (ho : IsLO us o) (h0 : 0 ≤ k) (hf : k < 2 ^ 63) (hl : k < us.length) (q : ∀ o', IsLO (us.set k.toNat v) o' → Q () b (f o') vs) :
    Wp X (setItem (.ref x) (.int k t) v) b led vs Q := .mk fun s H =>
  wpAny_setItem_list (Has.list (.inr hx.mem) ho H) h0 hf (by simpa using hl) fun h' ⟨o', e, ho'⟩ hs => Rest.of (H.put hx hs.extBut e s.toks) (q o' (by simpa [IsLO] using ho'))
theorem wMulL {x : Addr} {u : Value} {n : Nat} {k : Int} {t : Tok} {Q : Post Value} (hx : Has b led x (LO [u] n)) (h0 : 0 ≤ k) (hk : k ≤ 100000) (q : ∀ r, Q (.ref r) b ((r, LO (List.replicate k.toNat u) 0) :: led) vs) : Wp X (binaryOp .Mult (.ref x) (.int k t)) b led vs Q := .mk fun s H => by
  refine wpAny_binaryOp_repeat_ref (T := "list") (U := "int") (by decide) ⟨_, hx.get H, rfl⟩ (fun s' => typeIs_int s' k t) noFill_list_mul F.fills_int_mul F.slot_int_rmul repeat_list F.slot_int_index.lookup
    (call_meets F.slot_int_rmul (typeIs_int s k t) F.entry_int_rmul (F.args_int_rmul_2 _ _) (int___rmul___int_list k t x [u].toArray n)
      ⟨hx.get H, rfl, ⟨_, hx.get H, rfl⟩, call_meets F.slot_list_mul ⟨_, hx.get H, rfl⟩ F.entry_list_mul (F.args_list_mul_2 _ _)
        (AutoListH.list___mul___list_int_3 x [u].toArray n k t (by simp [Builtin.List.listFitsIndex]; omega) (by rw [show ([u].toArray : Array Value).size = 1 from rfl]; omega) (by
          have e1 : (#[u] : Array Value).size = 1 := rfl
          simp only [Builtin.List.listTooLong, sizeLine, e1]; simp; omega))
        ⟨hx.get H, ?_⟩⟩)
  have e : List.foldl (fun x1 x2 => x1 ++ x2) #[] (List.replicate (if [u].toArray.isEmpty = true then 0 else k.toNat) [u].toArray) = (List.replicate k.toNat u).toArray := by
    rw [if_neg (by simp)]
    have : ∀ (n : Nat) (a : Array Value), List.foldl (fun x1 x2 => x1 ++ x2) a (List.replicate n [u].toArray) = a ++ (List.replicate n u).toArray := by
      intro n
      induction n with
      | zero => intro a; simp
      | succ n ih => intro a; rw [List.replicate_succ, List.foldl_cons, ih, List.replicate_succ, show (u :: List.replicate n u).toArray = [u].toArray ++ (List.replicate n u).toArray by simp, Array.append_assoc]
    rw [this]; simp
  rw [e]
  exact Rest.of (H.alloc (o := LO (List.replicate k.toNat u) 0) rfl s.toks) (q _)

/-! methods of lists -/
theorem wMethL {name : PySem.Str} {id : String} {pl : Sem Bool} {x : Addr} {us : List Value} {n : Nat} {Q : Post (Value × List Value)} (slot : Slot "list" name id) (hty : typeOf (.builtin id) = pure (.type "method_descriptor")) (hx : Has b led x (LO us n))
    (q : Q (.builtin id, [.ref x]) b led vs) : Wp X (getMethod (.ref x) name pl) b led vs Q := .mk fun s H =>
  getMethod_list_of slot hty (hx.list .mk H) ⟨_, hx.get H, rfl⟩ (Rest.of H q)
theorem wAppend {x : Addr} {us : List Value} {n : Nat} {f : Obj → Led} {v : Value} {Q : Post Value} (hx : LedX led x (LO us n) f) (hz : us.length ≤ sizeLine) (q : ∀ n', Q .none b (f (LO (us ++ [v]) n')) vs) : Wp X (call (.builtin "list.append") [.ref x, v]) b led vs Q := .mk fun s H => by
  have D := (H.ld _ hx.mem).1
  refine wpAny_call_entry slot_list_append (Has.list (.inr hx.mem) .mk H).typeIs entry_list_append ?_ (args_list_append _ _)
  show wpAny _ _ (updateSeq x (·.push v) >>= fun _ => ret .none) _ _ s
  refine wpAny_bind (wpAny_updateSeq D rfl (wpAny_pure ⟨.none, rfl, ?_⟩) (by simpa using hz) (by simp; omega))
  have e : (s.heap.update x (Obj.mapSeq (·.push v))).get? x = some (LO (us ++ [v]) (if (us.toArray.push v).size == us.toArray.size then n else n + 1)) := by
    rw [Heap.get?_update_self _ D rfl]
    show some (Obj.mapSeq (·.push v) (LO us n)) = _
    simp [LO, Obj.mapSeq]
  exact Rest.of (H.put hx (Heap.SameBut.update ..).extBut e s.toks) (q _)
theorem wExtend {x y : Addr} {us ws : List Value} {n m : Nat} {f : Obj → Led} {Q : Post Value} (hx : LedX led x (LO us n) f) (hy : Has b led y (LO ws m)) (hz : us.length + ws.length ≤ 100000) (q : ∀ n', Q .none b (f (LO (us ++ ws) n')) vs) :
    Wp X (call (.builtin "list.extend") [.ref x, .ref y]) b led vs Q := .mk fun s H => by
  have D := (H.ld _ hx.mem).1
  refine call_meets PySem.F.slot_list_extend ⟨_, D, rfl⟩ PySem.F.entry_list_extend (PySem.F.args_list_extend_2 _ _) (PySem.AutoSeq1.list_extend_list_list_0 x us.toArray n y ws.toArray m ?_ ?_ ?_) ⟨D, hy.get H, ?_⟩
  · simp [Builtin.List.listTooLong, sizeLine]; omega
  · simp [sizeLine]; omega
  · simp [sizeLine]; omega
  have e : (s.heap.update x (Obj.mapSeq (· ++ ws.toArray))).get? x = some (LO (us ++ ws) (if (us.toArray ++ ws.toArray).size == us.toArray.size then n else n + 1)) := by
    rw [Heap.get?_update_self _ D rfl]
    show some (Obj.mapSeq (· ++ ws.toArray) (LO us n)) = _
    simp [LO, Obj.mapSeq]
  exact Rest.of (H.put hx (Heap.SameBut.update ..).extBut e s.toks) (q _)
theorem wPop {x : Addr} {us : List Value} {v : Value} {n : Nat} {f : Obj → Led} {Q : Post Value} (hx : LedX led x (LO (us ++ [v]) n) f) (hz : us.length ≤ 100000) (q : ∀ n', Q v b (f (LO us n')) vs) :
    Wp X (call (.builtin "list.pop") [.ref x]) b led vs Q := .mk fun s H => by
  have D := (H.ld _ hx.mem).1
  refine call_meets PySem.F.slot_list_pop ⟨_, D, rfl⟩ PySem.F.entry_list_pop (PySem.F.args_list_pop_1 _) (MeetsSeq.list_pop_last x (us ++ [v]).toArray n v (by simp) (by simp [sizeLine]; omega)) ⟨D, ?_⟩
  have e : (s.heap.update x (Obj.mapSeq fun xs => xs.eraseIdxIfInBounds ((us ++ [v]).toArray.size - 1))).get? x = some (LO us (if us.toArray.size == (us ++ [v]).toArray.size then n else n + 1)) := by
    rw [Heap.get?_update_self _ D rfl]
    show some (Obj.mapSeq _ (LO (us ++ [v]) n)) = _
    have : (us ++ [v]).toArray.eraseIdxIfInBounds ((us ++ [v]).toArray.size - 1) = us.toArray := by
      simp [Array.eraseIdxIfInBounds]
      rw [List.eraseIdx_append_of_length_le (Nat.le_refl _)]
      simp
    simp only [LO, Obj.mapSeq, this]
  exact Rest.of (H.put hx (Heap.SameBut.update ..).extBut e s.toks) (q _)
end
end Mine
namespace Mine
/-- what is iterated: n values, of which the i-th is P i -/
structure Its {S : Sc} (X : Cx S) (b : Base) (led : Led) (v : Value) (n : Nat) (P : Nat → Value → Prop) (c : Bool) : Prop where
  ex : ∃ (o₀ : Obj) (St : Addr → Nat → Obj → Prop),
    o₀.isFreed = false ∧
    (∀ (s : Shared) (vs : Vs) (Q : Value → Shared → Prop) (E : Value → Shared → Prop), Holds X.am b led (X.fs vs) s → Q (.ref s.heap.objs.size) { s with heap := s.heap.push o₀ } → wpAny (model pw X.am.w) X.A (pyIter v) Q E s) ∧
    (∀ I, St I 0 o₀) ∧
    (∀ i s (I : Addr) (o : Obj) (Q : Option Value → Shared → Prop) (E : Value → Shared → Prop), i < n → (∀ x o, b x = some o → s.heap.get? x = some o) → s.heap.get? I = some o → b I = none → St I i o →
      (∀ w h' o' tk, P i w → St I (i + 1) o' → h'.get? I = some o' → Heap.ExtBut I s.heap h' → Q (some w) { s with heap := h', toks := tk }) → wpAny (model pw X.am.w) X.A (pyNext (.ref I)) Q E s) ∧
    (∀ s (I : Addr) (o : Obj) (Q : Option Value → Shared → Prop) (E : Value → Shared → Prop), (∀ x o, b x = some o → s.heap.get? x = some o) → s.heap.get? I = some o → b I = none → St I n o →
      (∀ h' tk, Heap.ExtBut I s.heap h' → Q none { s with heap := h', toks := tk }) → wpAny (model pw X.am.w) X.A (pyNext (.ref I)) Q E s) ∧
    (c = true → ∀ i s (I : Addr) (o : Obj) (Q : Value → Shared → Prop) (E : Value → Shared → Prop), s.heap.get? I = some o → St I i o → Q (.ref I) s → wpAny (model pw X.am.w) X.A (pyIter (.ref I)) Q E s)
abbrev RgO (lo hi : Int) (t u w : Tok) : Obj := { cls := .type "range", dict := none, data := .fields #[.int lo t, .int hi u, .int 1 w], slots := #[] }
section
variable {S : Sc} {X : Cx S} {b : Base} {led : Led} {vs : Vs} {c : Bool}
theorem its_list {x : Addr} {o : Obj} {us : List Value} (hx : b x = some o) (ho : IsLO us o) : Its X b led (.ref x) us.length (fun i w => us[i]? = some w) c := by
  refine ⟨{ cls := .type "list_iterator", data := .fields #[.ref x, .int 0 0] }, fun I i o => o.cls = .type "list_iterator" ∧ o.data = .fields #[.ref x, .int i 0], rfl, ?_, ?_, ?_, ?_, ?_⟩
  · intro s vs Q E H q
    exact wpAny_pyIter_list (Has.list (.inl hx) ho H) q
  · intro I; exact ⟨rfl, rfl⟩
  · intro i s I o' Q E hi hb e hI st q
    refine wpAny_pyNext_list_item (i := i) (x := us[i]) ⟨_, e, st.1, st.2⟩ ⟨_, hb _ _ hx, ho⟩ (by simp [hi]) fun h' ⟨o₂, e₂, st₂⟩ hs => q _ _ _ _ (by simp [hi]) ⟨st₂.1, st₂.2⟩ e₂ hs.extBut
  · intro s I o' Q E hb e hI st q
    exact wpAny_pyNext_list_end (i := us.length) X.hh ⟨_, e, st.1, st.2⟩ ⟨_, hb _ _ hx, ho⟩ (by simp) fun h' hs => q _ _ hs
  · intro _ i s I o' Q E e st q
    exact wpAny_pyIter_listiter ⟨_, e, st.1, st.2⟩ q
theorem its_tup {x : Addr} {k : Nat} {us : List Value} (hx : b x = some (TO us k)) : Its X b led (.ref x) us.length (fun i w => us[i]? = some w) false := by
  refine ⟨{ cls := .type "tuple_iterator", data := .fields #[.ref x, .int 0 0] }, fun I i o => o.cls = .type "tuple_iterator" ∧ o.data = .fields #[.ref x, .int i 0], rfl, ?_, ?_, ?_, ?_, ?_⟩
  · intro s vs Q E H q
    exact iter_tuple (Has.tup (.inl hx) H) q
  · intro I; exact ⟨rfl, rfl⟩
  · intro i s I o' Q E hi hb e hI st q
    refine next_tuple_item (i := i) (items := us.toArray) (x := us[i]) ⟨_, e, st.1, st.2⟩ ⟨_, hb _ _ hx, rfl, _, rfl⟩ (by simp [hi]) fun h' ⟨o₂, e₂, st₂⟩ hs => q _ _ _ _ (by simp [hi]) ⟨st₂.1, st₂.2⟩ e₂ hs.extBut
  · intro s I o' Q E hb e hI st q
    exact next_tuple_end (i := us.length) (items := us.toArray) X.hh ⟨_, e, st.1, st.2⟩ ⟨_, hb _ _ hx, rfl, _, rfl⟩ (by simp) fun h' hs => q _ _ hs
  · intro hc; cases hc
theorem its_bytes {y : List UInt8} {t : Tok} : Its X b led (.bytes y.toArray t) y.length (fun i w => ∃ c u, y[i]? = some c ∧ w = .int (c.toNat : Int) u) c := by
  refine ⟨{ cls := .type "bytes_iterator", data := .fields #[.bytes y.toArray t, .int 0 0] }, fun I i o => o.cls = .type "bytes_iterator" ∧ o.data = .fields #[.bytes y.toArray t, .int i 0], rfl, ?_, ?_, ?_, ?_, ?_⟩
  · intro s vs Q E H q
    exact KBw.pyIter_bytes q
  · intro I; exact ⟨rfl, rfl⟩
  · intro i s I o' Q E hi hb e hI st q
    refine KBw.next_item (i := i) (b := y.toArray) (t := t) (c := y[i]) ⟨_, e, st.1, st.2⟩ (by simp [hi]) fun h' ⟨o₂, e₂, st₂⟩ hs => q _ _ _ _ ⟨y[i], _, by simp [hi], rfl⟩ ⟨st₂.1, st₂.2⟩ e₂ hs.extBut
  · intro s I o' Q E hb e hI st q
    exact KBw.next_end (i := y.length) (b := y.toArray) (t := t) X.hh ⟨_, e, st.1, st.2⟩ (by simp) fun h' hs => q _ _ hs
  · intro _ i s I o' Q E e st q
    exact KBw.pyIter_self ⟨_, e, st.1, st.2⟩ q
theorem its_range {x : Addr} {lo hi : Int} {t u w : Tok} {n : Nat} (hx : Has b led x (RgO lo hi t u w)) (hs : Builtin.Range.small lo hi 1 = true) (hn : Builtin.Range.rangeSize lo hi 1 = (n : Int)) :
    Its X b led (.ref x) n (fun i w => ∃ k, w = .int (lo + (i : Int)) k) c := by
  refine ⟨{ cls := .type "range_iterator", data := .fields #[rawInt lo, rawInt (n : Int), rawInt 1] }, fun I i o => o = { cls := .type "range_iterator", dict := none, data := .fields #[rawInt (lo + (i : Int)), rawInt ((n : Int) - (i : Int)), rawInt 1], slots := #[] }, rfl, ?_, ?_, ?_, ?_, ?_⟩
  · intro s vs Q E H q
    exact wpAny_pyIter_range (hx.get H) hs (by rw [hn]; exact q)
  · intro I
    show _ = _
    simp
  · intro i s I o' Q E hi hb e hI st q
    subst st
    refine wpAny_pyNext_range_item (s := s) (it := I) (x := lo + (i : Int)) (left := (n : Int) - (i : Int)) (step := 1) e (by omega) fun h' e' hs => q _ _ _ _ ⟨_, rfl⟩ ?_ e' hs.extBut
    rw [show lo + (i : Int) + 1 = lo + ((i + 1 : Nat) : Int) by omega, show (n : Int) - (i : Int) - 1 = (n : Int) - ((i + 1 : Nat) : Int) by omega]
  · intro s I o' Q E hb e hI st q
    subst st
    exact wpAny_pyNext_range_end (s := s) (it := I) (x := lo + (n : Int)) (left := (n : Int) - (n : Int)) (step := 1) X.hh e (by omega) fun h' hs => q _ _ hs
  · intro _ i s I o' Q E e st q
    subst st
    exact wpAny_pyIter_rangeiter (s := s) (it := I) e q
theorem wRange1 {hi : Int} {t : Tok} {Q : Post Value} (q : ∀ x t u w, Q (.ref x) b ((x, RgO 0 hi t u w) :: led) vs) : Wp X (call (.type "range") [.int hi t]) b led vs Q := .mk fun s H =>
  call_range_1 (Rest.of (H.alloc (o := RgO 0 hi s.toks t (s.toks + 1)) rfl _) (q _ _ _ _))
theorem wRange2 {lo hi : Int} {t' t : Tok} {Q : Post Value} (q : ∀ x t u w, Q (.ref x) b ((x, RgO lo hi t u w) :: led) vs) : Wp X (call (.type "range") [.int lo t', .int hi t]) b led vs Q := .mk fun s H =>
  call_range_2 (Rest.of (H.alloc (o := RgO lo hi _ _ _) rfl _) (q _ _ _ _))

theorem wGoE {α : Type} {t : Sem α} {R : α → Shared → Prop} {E : Value → Shared → Prop} {s : Shared} {Q : Post α} (H : Holds X.am b led (X.fs vs) s) (h : Wp X t b led vs Q) (k : ∀ a s' b' led' vs', Le b b' → Holds X.am b' led' (X.fs vs') s' → Q a b' led' vs' → R a s') :
    wpAny (model pw X.am.w) X.A t R E s := wpAny_mono (h.go s H) (fun a s' ⟨b', led', vs', l, H', q⟩ => k _ _ _ _ _ l H' q) fun _ _ e => e.elim
/-! loops -/
theorem wFor {target iter body pos} (Inv : Nat → Base → Led → Vs → Prop) {Q : Post Flow}
    (h : Wp X (eval iter X.env) b led vs fun v b₁ l₁ v₁ => ∃ n P, Its X b₁ l₁ v n P false ∧ Inv 0 b₁ l₁ v₁ ∧
      (∀ i b₂ l₂ v₂ w p, i < n → Le b₁ b₂ → P i w → Inv i b₂ l₂ v₂ → Wp X (assign target X.env w) b₂ (p :: l₂) v₂ fun _ b₃ l₃ v₃ => Wp X (execs body X.env) b₃ l₃ v₃ fun f b₄ l₄ v₄ => match f with
        | .next | .cont => ∃ l₅, l₄ = p :: l₅ ∧ Inv (i + 1) b₄ l₅ v₄
        | .brk => Q .next b₄ l₄ v₄
        | .ret r => Q (.ret r) b₄ l₄ v₄) ∧
      (∀ b₂ l₂ v₂, Le b₁ b₂ → Inv n b₂ l₂ v₂ → Q .next b₂ l₂ v₂))
    (hs : ∀ x, foldedSetIterable iter X.env x = pure x) (ht : ∀ it v, letOwnedTupleGo target it v = pure ()) : Wp X (exec (.For target iter body [] pos) X.env) b led vs Q := .mk fun s H => by
  refine wpAny_For (wGo H h fun v s₁ b₁ l₁ v₁ k₁ H₁ ⟨n, P, I, h0, turn, fin⟩ => ?_) hs
  obtain ⟨o₀, St, hf, hit, st0, item, done, _⟩ := I.ex
  refine hit s₁ v₁ _ _ H₁ ?_
  have H₂ := H₁.alloc (o := o₀) hf s₁.toks
  refine codeAny_forLoop (fun m s => ∃ i o b₂ l₂ v₂, m = n + 1 - i ∧ i ≤ n ∧ Le b₁ b₂ ∧ Holds X.am b₂ ((s₁.heap.objs.size, o) :: l₂) (X.fs v₂) s ∧ St s₁.heap.objs.size i o ∧ Inv i b₂ l₂ v₂) ?_ (n + 1) ⟨0, o₀, b₁, l₁, v₁, rfl, Nat.zero_le _, .rfl, H₂, st0 _, h0⟩ (ht _)
  rintro m s ⟨i, o, b₂, l₂, v₂, rfl, hi, k₂, Hs, st, hI⟩
  have D := Hs.ld _ (.head _)
  by_cases hlt : i < n
  · refine item i s _ o _ _ hlt (fun x o e => Hs.base _ _ (k₂ _ _ e)) D.1 ?_ st fun w h' o' tk hP st' e' hk => ?_
    · cases q : b₁ s₁.heap.objs.size with
      | none => rfl
      | some o₂ => have := k₂ _ _ q; rw [D.2] at this; cases this
    have H₃ := Hs.put .here hk e' tk
    refine wGoE H₃ (turn i b₂ l₂ v₂ w _ hlt k₂ hP hI) fun _ s₃ b₃ l₃ v₃ k₃ H₃ q₃ => ?_
    refine wGoE H₃ q₃ fun f s₄ b₄ l₄ v₄ k₄ H₄ q₄ => ?_
    cases f with
    | next => obtain ⟨l₅, rfl, hI'⟩ := q₄; exact ⟨n + 1 - (i + 1), by omega, i + 1, o', b₄, l₅, v₄, rfl, hlt, (k₂.trans k₃).trans k₄, H₄, st', hI'⟩
    | cont => obtain ⟨l₅, rfl, hI'⟩ := q₄; exact ⟨n + 1 - (i + 1), by omega, i + 1, o', b₄, l₅, v₄, rfl, hlt, (k₂.trans k₃).trans k₄, H₄, st', hI'⟩
    | brk => exact ⟨b₄, l₄, v₄, ((k₁.trans k₂).trans k₃).trans k₄, H₄, q₄⟩
    | ret r => exact ⟨b₄, l₄, v₄, ((k₁.trans k₂).trans k₃).trans k₄, H₄, q₄⟩
  · obtain rfl : i = n := Nat.le_antisymm hi (Nat.not_lt.mp hlt)
    refine done s _ o _ _ (fun x o e => Hs.base _ _ (k₂ _ _ e)) D.1 ?_ st fun h' tk hk => ?_
    · cases q : b₁ s₁.heap.objs.size with
      | none => rfl
      | some o₂ => have := k₂ _ _ q; rw [D.2] at this; cases this
    have H₃ := Hs.letgo hk tk
    exact wpAny_execs_nil ⟨b₂, l₂, v₂, k₁.trans k₂, H₃, fin _ _ _ k₂ hI⟩
theorem aFor {target iter body pos rest} (Inv : Nat → Base → Led → Vs → Prop) {Q : Post Flow} (hs : ∀ x, foldedSetIterable iter X.env x = pure x) (ht : ∀ it v, letOwnedTupleGo target it v = pure ())
    (h : Wp X (eval iter X.env) b led vs fun v b₁ l₁ v₁ => ∃ n P, Its X b₁ l₁ v n P false ∧ Inv 0 b₁ l₁ v₁ ∧
      (∀ i b₂ l₂ v₂ w p, i < n → Le b₁ b₂ → P i w → Inv i b₂ l₂ v₂ → Wp X (assign target X.env w) b₂ (p :: l₂) v₂ fun _ b₃ l₃ v₃ => Wp X (execs body X.env) b₃ l₃ v₃ fun f b₄ l₄ v₄ => match f with
        | .next | .cont => ∃ l₅, l₄ = p :: l₅ ∧ Inv (i + 1) b₄ l₅ v₄
        | .brk => After X rest X.env Q .next b₄ l₄ v₄
        | .ret r => After X rest X.env Q (.ret r) b₄ l₄ v₄) ∧
      (∀ b₂ l₂ v₂, Le b₁ b₂ → Inv n b₂ l₂ v₂ → Wp X (execs rest X.env) b₂ l₂ v₂ Q)) : Wp X (execs (.For target iter body [] pos :: rest) X.env) b led vs Q := wSeq (wFor Inv h hs ht)

/-! list displays by for -/
noncomputable def scopeChk (scope : PySem.Scope) (S' : Sc) : Bool :=
  (match scope.kind with | .function => true | _ => false) && scope.names.all (fun x => match x.2 with | .cell => false | .free => false | .local => kindIs (kindQ scope.names x.1) 0 | _ => true) &&
  nodupQ S'.ns && S'.ns.all (fun x => kindIs (kindQ scope.names x) 0) && S'.ns.all (fun x => !PySem.W.Fast.sEq x "__debug__") && S'.gs.all (fun y => kindIs (kindQ scope.names y.1) 1 && !PySem.W.Fast.sEq y.1 "__debug__")
structure CompSc (am : Am) (scope : PySem.Scope) (S' : Sc) : Prop where
  kind : scope.kind = .function
  free : ∀ x ∈ scope.names, x.2 ≠ .free
  cell : ∀ x ∈ scope.names, x.2 ≠ .cell
  names : ∀ x ∈ scope.names, x.2 = .local → scope.names.lookup x.1 = some .local
  nd : S'.ns.Nodup
  loc : ∀ x ∈ S'.ns, scope.names.lookup x = some .local ∧ x ≠ "__debug__"
  glo : ∀ y ∈ S'.gs, scope.names.lookup y.1 = some .globalImplicit ∧ y.1 ≠ "__debug__" ∧ (am.mg y.1 = some y.2 ∨ (am.mg y.1 = none ∧ am.mb y.1 = some y.2))
theorem kindIs0 {k : Option NameKind} (h : kindIs k 0 = true) : k = some .local := by
  cases k with
  | none => cases h
  | some k => cases k <;> first | rfl | cases h
theorem kindIs1 {k : Option NameKind} (h : kindIs k 1 = true) : k = some .globalImplicit := by
  cases k with
  | none => cases h
  | some k => cases k <;> first | rfl | cases h
theorem CompSc.of {am : Am} {scope : PySem.Scope} {S' : Sc} (ok : am.Ok) (h3 : scopeChk scope S' = true) (h4 : ∀ y ∈ S'.gs, y ∈ globTab ∨ y ∈ biTab) : CompSc am scope S' := by
  unfold scopeChk at h3
  simp only [Bool.and_eq_true] at h3
  obtain ⟨⟨⟨⟨⟨k1, k2⟩, k3⟩, k4⟩, k5⟩, k6⟩ := h3
  refine ⟨?_, fun x hx e => ?_, fun x hx e => ?_, fun x hx e => ?_, nodupQ_of k3, fun x hx => ⟨?_, fun e => ?_⟩, fun y hy => ⟨?_, fun e => ?_, ?_⟩⟩
  · revert k1; cases scope.kind <;> simp
  · have := List.all_eq_true.mp k2 x hx; rw [e] at this; cases this
  · have := List.all_eq_true.mp k2 x hx; rw [e] at this; cases this
  · have := List.all_eq_true.mp k2 x hx
    rw [e] at this
    dsimp only at this
    rw [kindQ_eq] at this; exact kindIs0 this
  · have := List.all_eq_true.mp k4 x hx; rw [kindQ_eq] at this; exact kindIs0 this
  · have := List.all_eq_true.mp k5 x hx; rw [e, (PySem.W.Fast.sEq_iff).mpr rfl] at this; cases this
  · have := List.all_eq_true.mp k6 y hy; simp only [Bool.and_eq_true, kindQ_eq] at this; exact kindIs1 this.1
  · have := List.all_eq_true.mp k6 y hy; simp only [Bool.and_eq_true] at this; have := this.2; rw [e, (PySem.W.Fast.sEq_iff).mpr rfl] at this; cases this
  · rcases h4 y hy with q | q
    · refine .inl ?_
      have := List.all_eq_true.mp (glob_K am.w.params) y q
      exact mg_of ok.K ok.g (beq_iff_eq.mp this)
    · refine .inr ⟨?_, ok.bl _ _ q⟩
      have := List.all_eq_true.mp (bi_K am.w.params) y q
      exact mg_none_of ok.K ok.g (beq_iff_eq.mp (Bool.and_eq_true_iff.mp this).1)
end
end Mine
namespace Mine
theorem Cx.modules {S : Sc} {X : Cx S} {b : Base} {led : Led} {fs : List Fm} {s : Shared} (H : Holds X.am b led fs s) : (s.heap.objs.size == sysModules) = false := by
  have h1 := modules_low X.ok.lim
  have h2 := X.ok.big H.stays
  exact beq_eq_false_iff_ne.mpr (Nat.ne_of_gt (Nat.lt_of_lt_of_le h1 h2))
theorem emptyD_of {w : World} : ({ cls := .type "dict", data := .dict #[] } : Obj).IsDictOf (strKind pw w) [] := ⟨#[], 0, ⟨rfl, rfl, rfl⟩, rfl, fun _ h => by simp at h, .nil, .nil⟩
/-- a dict with keys of text -/
noncomputable def SD (w : World) (x : Addr) (kvs : List (PySem.Str × Value)) (o : Obj) : Prop := (x == sysModules) = false ∧ o.IsDictOf (strKind pw w) kvs
section
variable {S : Sc} {X : Cx S} {b : Base} {led : Led} {vs : Vs}
theorem SD.at {a : Am} {fs : List Fm} {s : Shared} {x : Addr} {w : World} {kvs : List (PySem.Str × Value)} {o : Obj} (h : SD w x kvs o) (hx : Has b led x o) (H : Holds a b led fs s) : s.heap.DictOf (strKind pw w) x kvs := Heap.dictOf_iff.mpr ⟨o, hx.get H, h.2⟩
/-! tuples apart -/
theorem wAsTup2 {x : Addr} {n k : Nat} {pos p1 p2 : Pos} {x1 x2 : PySem.Str} {u1 u2 : Value} {w1 w2 : Vs} {Q : Post Unit} (hx : Has b led x (TO [u1, u2] n)) (h1 : LocSet S.ns vs x1 u1 w1) (h2 : LocSet S.ns w1 x2 u2 w2) (q : Q () b led w2) :
    Wp X (assign (.Tuple [.Name x1 p1, .Name x2 p2] k pos) X.env (.ref x)) b led vs Q := .mk fun s H => by
  refine PyProof.Rows.assign_Tuple_tuple X.hh (hx.tup H) rfl rfl fun h' hk => ?_
  have H' := H.grow (h' := h') (fun y o e => hk _ _ (Nat.ne_of_lt (Heap.lt_size e)) e) s.toks
  refine PyProof.Rows.assignInOrder_cons (wGo H' (wAsName (pos := p1) h1 (Q := fun _ b' l' v' => b' = b ∧ l' = led ∧ v' = w1) ⟨rfl, rfl, rfl⟩) fun _ _ _ _ _ k₁ H₁ ⟨e1, e2, e3⟩ => ?_)
  subst e1 e2 e3
  refine PyProof.Rows.assignInOrder_cons (wGo H₁ (wAsName (pos := p2) h2 q) fun _ _ _ _ _ k₂ H₂ q₂ => ?_)
  exact PyProof.Rows.assignInOrder_nil ⟨_, _, _, k₁.trans k₂, H₂, q₂⟩
theorem wAsTup3 {x : Addr} {n k : Nat} {pos p1 p2 p3 : Pos} {x1 x2 x3 : PySem.Str} {u1 u2 u3 : Value} {w1 w2 w3 : Vs} {Q : Post Unit} (hx : Has b led x (TO [u1, u2, u3] n)) (h1 : LocSet S.ns vs x1 u1 w1) (h2 : LocSet S.ns w1 x2 u2 w2) (h3 : LocSet S.ns w2 x3 u3 w3) (q : Q () b led w3) :
    Wp X (assign (.Tuple [.Name x1 p1, .Name x2 p2, .Name x3 p3] k pos) X.env (.ref x)) b led vs Q := .mk fun s H => by
  refine PyProof.Rows.assign_Tuple_tuple X.hh (hx.tup H) rfl rfl fun h' hk => ?_
  have H' := H.grow (h' := h') (fun y o e => hk _ _ (Nat.ne_of_lt (Heap.lt_size e)) e) s.toks
  refine PyProof.Rows.assignInOrder_cons (wGo H' (wAsName (pos := p1) h1 (Q := fun _ b' l' v' => b' = b ∧ l' = led ∧ v' = w1) ⟨rfl, rfl, rfl⟩) fun _ _ _ _ _ k₁ H₁ ⟨e1, e2, e3⟩ => ?_)
  subst e1 e2 e3
  refine PyProof.Rows.assignInOrder_cons (wGo H₁ (wAsName (pos := p2) h2 (Q := fun _ b' l' v' => b' = _ ∧ l' = _ ∧ v' = w2) ⟨rfl, rfl, rfl⟩) fun _ _ _ _ _ k₂ H₂ ⟨e1, e2, e3⟩ => ?_)
  subst e1 e2 e3
  refine PyProof.Rows.assignInOrder_cons (wGo H₂ (wAsName (pos := p3) h3 q) fun _ _ _ _ _ k₃ H₃ q₃ => ?_)
  exact PyProof.Rows.assignInOrder_nil ⟨_, _, _, (k₁.trans k₂).trans k₃, H₃, q₃⟩
theorem aAssignTup {elts k tpos value pos rest} {Q : Post Flow} (hs : swapsWithSole [.Tuple elts k tpos] value pos.line X.env = pure false) (hw : swappedStores [.Tuple elts k tpos] value X.env = pure none)
    (h : Wp X (eval value X.env) b led vs fun v b₁ l₁ v₁ => Wp X (assign (.Tuple elts k tpos) X.env v) b₁ l₁ v₁ fun _ b₂ l₂ v₂ => Wp X (execs rest X.env) b₂ l₂ v₂ Q) : Wp X (execs (.Assign [.Tuple elts k tpos] value pos :: rest) X.env) b led vs Q := wSeq (.mk fun s H =>
  Assign_Tuple (wGo H h fun _ _ _ _ _ k₁ H₁ q₁ => wGo H₁ q₁ fun _ _ _ _ _ k₂ H₂ q₂ => ⟨_, _, _, k₁.trans k₂, H₂, q₂⟩) hs hw)
theorem aSetItem {o i pos' value pos rest} {Q : Post Flow} (hs : swapsWith value (some (.Subscript o i pos')) pos.line X.env = pure false)
    (h : Wp X (eval value X.env) b led vs fun v b₁ l₁ v₁ => Wp X (eval o X.env) b₁ l₁ v₁ fun ov b₂ l₂ v₂ => Wp X (eval i X.env) b₂ l₂ v₂ fun iv b₃ l₃ v₃ => Wp X (setItem ov iv v) b₃ l₃ v₃ fun _ b₄ l₄ v₄ => Wp X (execs rest X.env) b₄ l₄ v₄ Q) :
    Wp X (execs (.Assign [.Subscript o i pos'] value pos :: rest) X.env) b led vs Q := wSeq (.mk fun s H => by
  refine wpAny_Assign_Subscript ?_ hs
  exact wGo H h fun v s₁ b₁ l₁ v₁ k₁ H₁ q₁ => wGo H₁ q₁ fun ov s₂ b₂ l₂ v₂ k₂ H₂ q₂ => wGo H₂ q₂ fun _ s₃ b₃ l₃ v₃ k₃ H₃ q₃ => wGo H₃ q₃ fun _ s₄ b₄ l₄ v₄ k₄ H₄ q₄ => ⟨b₄, l₄, v₄, ((k₁.trans k₂).trans k₃).trans k₄, H₄, q₄⟩)
/-! dicts -/
theorem wItemD {value slice : Expr} {x : Addr} {o : Obj} {kvs : List (PySem.Str × Value)} {k : PySem.Str} {t : Tok} {v : Value} {Q : Post Value} (hx : Has b led x o) (ho : SD X.am.w x kvs o) (hv : valueAt kvs k = some v)
    (hs : plainSlice slice = true) (q : Q v b led vs) : Wp X (subscriptTail value slice (.ref x) (.str k t)) b led vs Q := .mk fun s H =>
  subscriptTail_builtinR (x := v) (ho.at hx H).typeIs slot_dict_getitem.lookup (wpAny_getItem_of (strKind_is _ _ _ _) (ho.at hx H).mapOf hv ⟨rfl, Rest.of (H.tk _) q⟩) (sub_of hs)
theorem wSetItemD {x : Addr} {o : Obj} {f : Obj → Led} {kvs : List (PySem.Str × Value)} {k : PySem.Str} {t : Tok} {v : Value} {Q : Post Unit} (hx : LedX led x o f) (ho : SD X.am.w x kvs o) (hz : kvs.length ≤ 100000) (q : ∀ o', SD X.am.w x (stored kvs k v) o' → Q () b (f o') vs) :
    Wp X (setItem (.ref x) (.str k t) v) b led vs Q := .mk fun s H =>
  wpAny_setItem_pairs (strKind_is _ _ _ _) (ho.at (.inr hx.mem) H) (fun h' hd hs => by
    obtain ⟨o', e, ho'⟩ := Heap.dictOf_iff.mp hd
    exact Rest.of (H.put hx hs.extBut e _) (q o' ⟨ho.1, ho'⟩)) (by simp [sizeLine]; omega)
theorem wInD {x : Addr} {o : Obj} {kvs : List (PySem.Str × Value)} {k : PySem.Str} {t : Tok} {Q : Post Value} (hx : Has b led x o) (ho : SD X.am.w x kvs o) (q : Q (.bool (valueAt kvs k).isSome) b led vs) : Wp X (compareOp .In (.str k t) (.ref x)) b led vs Q := .mk fun s H =>
  wpAny_in_of (strKind_is _ _ _ _) ho.1 (ho.at hx H).mapOf (Rest.of (H.tk _) q)
theorem wNotInD {x : Addr} {o : Obj} {kvs : List (PySem.Str × Value)} {k : PySem.Str} {t : Tok} {Q : Post Value} (hx : Has b led x o) (ho : SD X.am.w x kvs o) (q : Q (.bool (!(valueAt kvs k).isSome)) b led vs) : Wp X (compareOp .NotIn (.str k t) (.ref x)) b led vs Q := .mk fun s H =>
  wpAny_notIn_of (strKind_is _ _ _ _) ho.1 (ho.at hx H).mapOf (Rest.of (H.tk _) q)
theorem wLenD {x : Addr} {o : Obj} {kvs : List (PySem.Str × Value)} {Q : Post Value} (hx : Has b led x o) (ho : SD X.am.w x kvs o) (hf : kvs.length < 2 ^ 62) (q : ∀ t, Q (.int kvs.length t) b led vs) : Wp X (call (.builtin "len") [.ref x]) b led vs Q := .mk fun s H =>
  call_len_dict ho.1 (ho.at hx H) (by omega) (Rest.of (H.tk (s.toks + 1 + 1)) (q _))
theorem wCopyD {x : Addr} {o : Obj} {kvs : List (PySem.Str × Value)} {Q : Post Value} (hx : Has b led x o) (ho : SD X.am.w x kvs o) (hf : kvs.length ≤ 100000) (q : ∀ y o', SD X.am.w y kvs o' → Q (.ref y) b ((y, o') :: led) vs) : Wp X (call (.type "dict") [.ref x]) b led vs Q := .mk fun s H =>
  kt_call_dict ho.1 (ho.at hx H) (by simp [sizeLine]; omega) fun h' hd hs => by
    obtain ⟨o', e, ho'⟩ := Heap.dictOf_iff.mp hd
    have H₁ := H.alloc (o := { cls := .type "dict", data := .dict #[] }) rfl s.toks
    exact Rest.of (H₁.put .here hs.extBut e s.toks) (q _ o' ⟨Cx.modules H, ho'⟩)
theorem wMethD {name : PySem.Str} {id : String} {pl : Sem Bool} {x : Addr} {o : Obj} {kvs : List (PySem.Str × Value)} {Q : Post (Value × List Value)} (slot : Slot "dict" name id) (hty : typeOf (.builtin id) = pure (.type "method_descriptor")) (hx : Has b led x o) (ho : SD X.am.w x kvs o)
    (q : Q (.builtin id, [.ref x]) b led vs) : Wp X (getMethod (.ref x) name pl) b led vs Q := .mk fun s H =>
  getMethod_builtin (ho.at hx H).typeIs PySem.F.plainAttrs_dict slot hty (ho.at hx H).mapOf.noDict (Rest.of H q)
theorem wGet2D {x : Addr} {o : Obj} {kvs : List (PySem.Str × Value)} {k : PySem.Str} {t : Tok} {v : Value} {Q : Post Value} (hx : Has b led x o) (ho : SD X.am.w x kvs o) (q : Q ((valueAt kvs k).getD v) b led vs) : Wp X (call (.builtin "dict.get") [.ref x, .str k t, v]) b led vs Q := .mk fun s H =>
  call_meetsIn F.slot_dict_get (ho.at hx H).typeIs F.entry_dict_get (F.args_dict_get_3 _ _ _) (meets_dict_get_default (strKind pw X.am.w) x (strKind_is _ _ k t) ho.1 v) ⟨_, (ho.at hx H).mapOf, Rest.of (H.tk _) q⟩
/-! a dict's display -/
theorem wPairs0 {Q : Post (List (Value × Value))} (q : Q [] b led vs) : Wp X (evalPairs []) b led vs Q := .mk fun s H => evalPairs_nil (Rest.of H q)
theorem wPairs {k v : Sem Value} {rest : List (Sem Value × Sem Value)} {Q : Post (List (Value × Value))} (h : Wp X k b led vs fun kv b₁ l₁ v₁ => Wp X v b₁ l₁ v₁ fun vv b₂ l₂ v₂ => Wp X (evalPairs rest) b₂ l₂ v₂ fun us b₃ l₃ v₃ => Q ((kv, vv) :: us) b₃ l₃ v₃) :
    Wp X (evalPairs ((k, v) :: rest)) b led vs Q := .mk fun s H => evalPairs_cons (wGo H h fun _ _ _ _ _ k₁ H₁ q₁ => wGo H₁ q₁ fun _ _ _ _ _ k₂ H₂ q₂ => wGo H₂ q₂ fun _ _ _ _ _ k₃ H₃ q₃ => ⟨_, _, _, (k₁.trans k₂).trans k₃, H₃, q₃⟩)
theorem wStand {pos : Pos} {t : Sem Value} {Q : Post Value} (h : Wp X t b led vs Q) : Wp X (do let x ← t; standAt pos; pure x) b led vs Q := .mk fun s H => wpAny_bind (wGo H h fun _ _ _ _ _ k₁ H₁ q₁ => wpAny_bind (wpAny_standAt (wpAny_pure ⟨_, _, _, k₁, H₁, q₁⟩)))
abbrev emptyD : Obj := { cls := .type "dict", data := .dict #[] }
theorem wNewDict {env : Env} {pos : Pos} {Q : Post Value} (q : ∀ x o, SD X.am.w x [] o → Q (.ref x) b ((x, o) :: led) vs) : Wp X (eval (.Dict [] [] pos) env) b led vs Q := .mk fun s H => by
  refine wpAny_Dict_empty ?_
  refine Rest.of (H.alloc (o := emptyD) rfl s.toks) (q _ _ ⟨Cx.modules H, emptyD_of⟩)
theorem wDictS {env : Env} {keys : List (Option Expr)} {values : List Expr} {pos : Pos} {Q : Post Value} (hall : keys.all (·.isSome) = true) (hl : keys.length = values.length) (h0 : keys ≠ []) (hlen : keys.length ≤ 15)
    (h : ∀ x, Wp X (evalPairs (pairTrees keys values env pos)) b ((x, emptyD) :: led) vs fun ps b₁ l₁ v₁ => ∃ kvs f, Carries (strKind pw X.am.w) ps kvs ∧ (kvs.map (·.1)).Nodup ∧ kvs.length ≤ 100 ∧ LedX l₁ x emptyD f ∧ ∀ o, SD X.am.w x kvs o → Q (.ref x) b₁ (f o) v₁) :
    Wp X (eval (.Dict keys values pos) env) b led vs Q := .mk fun s H => by
  refine wpAny_Dict_any hall hl h0 hlen (wGo (H.alloc (o := emptyD) rfl s.toks) (h _) fun ps s₁ b₁ l₁ v₁ k₁ H₁ ⟨kvs, f, hc, hn, hz, hx, q⟩ => ?_)
  have hd : s₁.heap.DictOf (strKind pw X.am.w) s.heap.objs.size [] := Heap.dictOf_iff.mpr ⟨_, (H₁.ld _ hx.mem).1, emptyD_of⟩
  refine wpAny_storeAll ps kvs [] s₁ _ hc hd (by simp [sizeLine]; omega) fun h' hm hs => ?_
  rw [merged_nil_of_nodup _ hn] at hm
  obtain ⟨o', e, ho'⟩ := Heap.dictOf_iff.mp hm
  exact ⟨b₁, _, v₁, k₁, H₁.put hx hs.extBut e _, q o' ⟨Cx.modules H, ho'⟩⟩

/-! dicts with keys that are tuples of ints -/
noncomputable def TD (w : World) (b : Base) (x : Addr) (xs : List (List Int × Addr × Value)) (o : Obj) : Prop := (x == sysModules) = false ∧ o.ExactDict ∧ (∃ es ep, o.data = .dict es ep ∧ es.toList = xs.map (entryOfKey (tupleKind (intKind pw w)))) ∧ (xs.map (·.1)).Nodup ∧
  ∀ y ∈ xs, ∃ us n, b y.2.1 = some (TO us n) ∧ ItemsAre (intKind pw w) y.1 us
theorem TD.mono {w : World} {b b' : Base} {x : Addr} {xs : List (List Int × Addr × Value)} {o : Obj} (h : TD w b x xs o) (l : Le b b') : TD w b' x xs o := ⟨h.1, h.2.1, h.2.2.1, h.2.2.2.1, fun y hy => let ⟨us, n, e, r⟩ := h.2.2.2.2 y hy; ⟨us, n, l _ _ e, r⟩⟩
theorem TD.at {xs : List (List Int × Addr × Value)} {x : Addr} {o : Obj} {a : Am} {fs : List Fm} {s : Shared} {w : World} (h : TD w b x xs o) (hx : Has b led x o) (H : Holds a b led fs s) : s.heap.DictOfH (tupleKind (intKind pw w)) x xs := by
  obtain ⟨h1, h2, ⟨es, ep, h3, h4⟩, h5, h6⟩ := h
  refine ⟨o, es, ep, hx.get H, h2, h3, h4, fun y hy => ?_, h5⟩
  obtain ⟨us, n, e, r⟩ := h6 y hy
  exact ⟨_, _, _, H.base _ _ e, rfl, rfl, r⟩
theorem wInTD {x a : Addr} {o : Obj} {xs : List (List Int × Addr × Value)} {ks : List Int} {us : List Value} {n : Nat} {Q : Post Value} (hr : X.A.units + 1 < cLine) (hx : Has b led x o) (ho : TD X.am.w b x xs o) (ha : Has b led a (TO us n)) (hk : ItemsAre (intKind pw X.am.w) ks us)
    (q : Q (.bool (atKey xs ks).isSome) b led vs) : Wp X (compareOp .In (.ref a) (.ref x)) b led vs Q := .mk fun s H =>
  wpAny_in_heap (knd := tupleKind (intKind pw X.am.w)) hr ⟨_, _, _, ha.get H, rfl, rfl, hk⟩ ho.1 (ho.at hx H) (Rest.of (H.tk _) q)
theorem wItemTD {value slice : Expr} {x a : Addr} {o : Obj} {xs : List (List Int × Addr × Value)} {ks : List Int} {us : List Value} {n : Nat} {p : Addr × Value} {Q : Post Value} (hr : X.A.units + 1 < cLine) (hx : Has b led x o) (ho : TD X.am.w b x xs o) (ha : Has b led a (TO us n)) (hk : ItemsAre (intKind pw X.am.w) ks us)
    (hp : atKey xs ks = some p) (hs : plainSlice slice = true) (q : Q p.2 b led vs) : Wp X (subscriptTail value slice (.ref x) (.ref a)) b led vs Q := .mk fun s H =>
  subscriptTail_builtinR (x := p.2) (ho.at hx H).typeIs slot_dict_getitem.lookup (wpAny_getItem_heap (knd := tupleKind (intKind pw X.am.w)) hr ⟨_, _, _, ha.get H, rfl, rfl, hk⟩ (ho.at hx H) hp ⟨rfl, Rest.of (H.tk _) q⟩) (sub_of hs)
/-- pairs to be stored -/
inductive TPairs (w : World) (b : Base) : List (Value × Value) → List (List Int × Addr × Value) → Prop
  | nil : TPairs w b [] []
  | cons {a : Addr} {us : List Value} {n : Nat} {ks : List Int} {v : Value} {ps : List (Value × Value)} {xs : List (List Int × Addr × Value)} : b a = some (TO us n) → ItemsAre (intKind pw w) ks us → TPairs w b ps xs → TPairs w b ((.ref a, v) :: ps) ((ks, a, v) :: xs)
theorem storeT {x : Addr} {fs : List Fm} {A : Around} {E : Value → Shared → Prop} (hr : A.units < cLine) : ∀ (ps : List (Value × Value)) (xs done : List (List Int × Addr × Value)) (led : Led) (f : Obj → Led) (o : Obj) (s : Shared) (Q : PUnit → Shared → Prop), TPairs X.am.w b ps xs → TD X.am.w b x done o → LedX led x o f → ((done ++ xs).map (·.1)).Nodup → (done ++ xs).length ≤ 100 →
    Holds X.am b led fs s → (∀ o' s', TD X.am.w b x (done ++ xs) o' → Holds X.am b (f o') fs s' → Q PUnit.unit s') → wpAny (model pw X.am.w) A (storeAll x ps) Q E s := by
  intro ps
  induction ps with
  | nil =>
    intro xs done led f o s Q hp hd hx hn hz H q
    cases hp
    unfold storeAll
    rw [List.forIn_nil]
    refine wpAny_pure (q o s (by rw [List.append_nil]; exact hd) ?_)
    obtain ⟨pre, post, e1, e2⟩ := hx.split
    rw [e2, ← e1]; exact H
  | cons p ps ih =>
    intro xs done led f o s Q hp hd hx hn hz H q
    cases hp with
    | @cons a us n ks v _ xs ha hk hp =>
      unfold storeAll
      rw [List.forIn_cons]
      have hnew : atKey done ks = none := by
        rw [List.map_append, List.map_cons, List.nodup_append] at hn
        have h2 := hn.2.2
        cases e : atKey done ks with
        | none => rfl
        | some p =>
          obtain ⟨y, hy, e⟩ := Option.map_eq_some_iff.mp e
          have m := List.mem_of_find?_eq_some hy
          have k := List.find?_some hy
          exact absurd rfl (h2 ks (by have := of_decide_eq_true k; rw [← this]; exact List.mem_map_of_mem m) ks (.head _))
      refine wpAny_bind (wpAny_bind (wpAny_dictSet_heap (knd := tupleKind (intKind pw X.am.w)) hr ⟨_, _, _, H.base _ _ ha, rfl, rfl, hk⟩ (hd.at (.inr hx.mem) H) (fun h' hm hs => wpAny_pure ?_) ?_))
      · obtain ⟨o', es, ep, ho', hc', hd', he', _, hn'⟩ := hm
        rw [storedH_new hnew] at he' hn'
        obtain ⟨pre, post, e1, e2⟩ := hx.split
        have hx' : LedX (f o') x o' f := by
          have key : ∀ {l d o f}, LedX l d o f → ∀ o', LedX (f o') d o' f := by
            intro l d o f h o'
            induction h with
            | here => exact .here
            | there _ ih => exact .there (ih)
          exact key hx o'
        refine ih xs (done ++ [(ks, a, v)]) _ f o' _ Q hp ⟨hd.1, hc', ⟨es, ep, hd', he'⟩, hn', fun y hy => ?_⟩ hx' (by simpa using hn) (by simpa using hz) (H.put hx hs.extBut ho' _) (by simpa using q)
        rcases List.mem_append.mp hy with hy | hy
        · exact hd.2.2.2.2 y hy
        · rw [List.mem_singleton.mp hy]; exact ⟨us, n, ha, hk⟩
      · simp [sizeLine] at hz ⊢; omega
theorem wDictT {env : Env} {keys : List (Option Expr)} {values : List Expr} {pos : Pos} {Q : Post Value} (hr : X.A.units < cLine) (hall : keys.all (·.isSome) = true) (hl : keys.length = values.length) (h0 : keys ≠ []) (hlen : keys.length ≤ 15)
    (h : ∀ x, Wp X (evalPairs (pairTrees keys values env pos)) b ((x, emptyD) :: led) vs fun ps b₁ l₁ v₁ => ∃ xs f, TPairs X.am.w b₁ ps xs ∧ (xs.map (·.1)).Nodup ∧ xs.length ≤ 100 ∧ LedX l₁ x emptyD f ∧ ∀ o, TD X.am.w b₁ x xs o → Q (.ref x) b₁ (f o) v₁) :
    Wp X (eval (.Dict keys values pos) env) b led vs Q := .mk fun s H => by
  refine wpAny_Dict_any hall hl h0 hlen (wGo (H.alloc (o := emptyD) rfl s.toks) (h _) fun ps s₁ b₁ l₁ v₁ k₁ H₁ ⟨xs, f, hp, hn, hz, hx, q⟩ => ?_)
  exact storeT (X := X) hr ps xs [] l₁ f emptyD s₁ _ hp ⟨Cx.modules H, ⟨rfl, rfl, rfl⟩, ⟨#[], 0, rfl, rfl⟩, .nil, fun _ h => by cases h⟩ hx (by simpa using hn) (by simpa using hz) H₁ fun o' s' ho' H' => ⟨b₁, _, v₁, k₁, H', q o' (by simpa using ho')⟩
/-! equals -/
open PySem.SeqAt in
theorem eq_tup {a : Am} {fs : List Fm} {s : Shared} {A : Around} {x y : Addr} {us ws : List Value} {m n : Nat} (H : Holds a b led fs s) (hx : Has b led x (TO us m)) (hy : Has b led y (TO ws n)) (hu : A.units < cLine) (hl : us.length = ws.length) (h : ∀ (i : Nat) u w, us[i]? = some u → ws[i]? = some w → EqAt A.in1 s u w true) :
    EqAt A s (.ref x) (.ref y) true := by
  by_cases e : x = y
  · subst e; exact EqAt.same _
  · refine EqAt.of_refs e ?_
    have := RcAt.tuples (A := A) (s := s) (l := x) (b := y) (items := us.toArray) (items2 := ws.toArray) (e := fun _ => true) ⟨_, hx.get H, rfl, _, rfl⟩ ⟨_, hy.get H, rfl, _, rfl⟩ hu (fun j h1 h2 => h j _ _ (by simp at h1 ⊢) (by simp at h2 ⊢))
    rw [show ((List.range (min us.toArray.size ws.toArray.size)).all (fun _ => true) && us.toArray.size == ws.toArray.size) = true by simp [hl]] at this
    exact this

open PySem.SeqAt in
theorem wEqL {x y : Addr} {o o' : Obj} {us ws : List Value} {Q : Post Value} (hx : Has b led x o) (ho : IsLO us o) (hy : Has b led y o') (ho' : IsLO ws o') (hr : X.A.units < cLine) (hl : us.length = ws.length)
    (h : ∀ s, Holds X.am b led (X.fs vs) s → ∀ (i : Nat) u w, us[i]? = some u → ws[i]? = some w → EqAt X.A.in1 s u w true) (q : Q (.bool true) b led vs) : Wp X (compareOp .Eq (.ref x) (.ref y)) b led vs Q := .mk fun s H => by
  have := RcAt.lists (A := X.A) (s := s) (l := x) (b := y) (items := us.toArray) (items2 := ws.toArray) (e := fun _ => true) (hx.list ho H) (hy.list ho' H) (by simpa using hl) hr (fun j h1 h2 => h s H j _ _ (by simp at h1 ⊢) (by simp at h2 ⊢))
  refine this pw X.am.w _ _ ?_
  rw [show ((List.range us.toArray.size).all fun _ => true) = true by simp]
  exact Rest.of H q
open PySem.SeqAt in
theorem wNeL {x y : Addr} {o o' : Obj} {us ws : List Value} {Q : Post Value} (hx : Has b led x o) (ho : IsLO us o) (hy : Has b led y o') (ho' : IsLO ws o') (hr : X.A.units < cLine) (hl : us.length = ws.length)
    (h : ∀ s, Holds X.am b led (X.fs vs) s → ∀ (i : Nat) u w, us[i]? = some u → ws[i]? = some w → EqAt X.A.in1 s u w true) (q : Q (.bool false) b led vs) : Wp X (compareOp .NotEq (.ref x) (.ref y)) b led vs Q := .mk fun s H => by
  have := RcNeAt.lists (A := X.A) (s := s) (l := x) (b := y) (items := us.toArray) (items2 := ws.toArray) (e := fun _ => true) (hx.list ho H) (hy.list ho' H) (by simpa using hl) hr (fun j h1 h2 => h s H j _ _ (by simp at h1 ⊢) (by simp at h2 ⊢))
  refine this pw X.am.w _ _ ?_
  rw [show (!(List.range us.toArray.size).all fun _ => true) = false by simp]
  exact Rest.of H q
open PySem.SeqAt in
theorem wEqPair {x y : Addr} {a c a' c' : Int} {t1 t2 t3 t4 : Tok} {m n : Nat} {Q : Post Value} (hx : Has b led x (TO [.int a t1, .int c t2] m)) (hy : Has b led y (TO [.int a' t3, .int c' t4] n)) (hr : X.A.units < cLine) (q : Q (.bool (a == a' && c == c')) b led vs) : Wp X (compareOp .Eq (.ref x) (.ref y)) b led vs Q := .mk fun s H => by
  have := RcAt.tuples (A := X.A) (s := s) (l := x) (b := y) (items := #[.int a t1, .int c t2]) (items2 := #[.int a' t3, .int c' t4]) (e := fun i => if i = 0 then a == a' else c == c') ⟨_, hx.get H, rfl, _, rfl⟩ ⟨_, hy.get H, rfl, _, rfl⟩ hr (fun j h1 h2 => by
    match j, h1, h2 with
    | 0, _, _ => exact PySem.SeqAt.EqAt.int_int a t1 a' t3
    | 1, _, _ => exact PySem.SeqAt.EqAt.int_int c t2 c' t4)
  refine this pw X.am.w _ _ ?_
  have e : ((List.range (min (#[Value.int a t1, Value.int c t2] : Array Value).size (#[Value.int a' t3, Value.int c' t4] : Array Value).size)).all (fun i => if i = 0 then a == a' else c == c') && (#[Value.int a t1, Value.int c t2] : Array Value).size == (#[Value.int a' t3, Value.int c' t4] : Array Value).size) = (a == a' && c == c') := by
    show ((List.range 2).all _ && true) = _
    rw [show List.range 2 = [0, 1] from rfl]
    simp
  rw [e]
  exact Rest.of H q
theorem strsAre_map {ss : List (PySem.Str × Tok)} : StrsAre (ss.map fun y => .str y.1 y.2) (ss.map (·.1)) := by
  induction ss with
  | nil => exact .nil
  | cons y ss ih => exact .cons _ _ ih
theorem wInTs {x : Addr} {n : Nat} {us : List Value} {ys : List PySem.Str} {k : PySem.Str} {t : Tok} {Q : Post Value} (hx : Has b led x (TO us n)) (hs : StrsAre us ys) (q : Q (.bool (ys.any (· == k))) b led vs) : Wp X (compareOp .In (.str k t) (.ref x)) b led vs Q := .mk fun s H =>
  in_tuple_strs (hx.tup H) (by simpa using hs) (Rest.of H q)
theorem wInLs {x : Addr} {o : Obj} {us : List Value} {ys : List PySem.Str} {k : PySem.Str} {t : Tok} {Q : Post Value} (hx : Has b led x o) (ho : IsLO us o) (hs : StrsAre us ys) (q : Q (.bool (ys.any (· == k))) b led vs) : Wp X (compareOp .In (.str k t) (.ref x)) b led vs Q := .mk fun s H =>
  in_list_strs (hx.list ho H) hs (Rest.of H q)
theorem wEqS {x y : PySem.Str} {t u : Tok} {Q : Post Value} (q : Q (.bool (x == y)) b led vs) : Wp X (compareOp .Eq (.str x t) (.str y u)) b led vs Q := .mk fun s H => PyProof.Rows.eq_str (Rest.of H q)
theorem wNeS {x y : PySem.Str} {t u : Tok} {Q : Post Value} (q : Q (.bool (x != y)) b led vs) : Wp X (compareOp .NotEq (.str x t) (.str y u)) b led vs Q := .mk fun s H => PyProof.Rows.ne_str (Rest.of H q)
theorem wAddS {x y : PySem.Str} {t u : Tok} {Q : Post Value} (hz : x.length + y.length ≤ sizeLine) (q : ∀ t, Q (.str (x ++ y) t) b led vs) : Wp X (binaryOp .Add (.str x t) (.str y u)) b led vs Q := .mk fun s H => PyProof.Rows.add_str (fun t' tk => Rest.of (H.tk _) (q _)) hz
end
end Mine
namespace Mine
/-! forms that are asked once, by a look at the tree's head -/
noncomputable def baseOk : Expr → Bool
  | .Call (.Name _ _) [] [] _ => false
  | _ => true
theorem base_of {o : Expr} {n : PySem.Str} {env : Env} {w : Sem Value} (h : baseOk o = true) : attributeBase o n env w = w := by
  unfold attributeBase
  split
  · cases h
  · rfl
noncomputable def unstar : Expr → Bool
  | .Starred _ _ => false
  | _ => true
theorem star_of {e : Expr} {rest : List Expr} {env : Env} (h : unstar e = true) : starEach (e :: rest) env = (false, eval e env) :: starEach rest env := by
  cases e <;> first | rfl | cases h
theorem stars_of {args : List Expr} {env : Env} (h : args.all unstar = true) : (starEach args env).all (fun x => !x.1) = true := by
  induction args with
  | nil => rfl
  | cons e rest ih =>
    rw [List.all_cons, Bool.and_eq_true] at h
    rw [star_of h.1, List.all_cons, ih h.2]; rfl
theorem back_all {pos : Pos} {l : List (Bool × Sem Value)} : (backTo pos l).all (fun x => !x.1) = l.all (fun x => !x.1) := by
  unfold backTo
  rw [List.all_map]; rfl
theorem back_any {pos : Pos} {l : List (Bool × Sem Value)} (h : l.all (fun x => !x.1) = true) : (backTo pos l).any (·.1) = false := by
  rw [← back_all (pos := pos)] at h
  rw [List.any_eq_false]
  intro x hx
  have := List.all_eq_true.mp h x hx
  simpa using this
noncomputable def plainVal : Expr → Bool
  | .ListComp .. | .SetComp .. | .DictComp .. => false
  | _ => true
theorem swaps_of {v : Expr} {t : Option Expr} {l : Nat} {env : Env} (h : plainVal v = true) : swapsWith v t l env = pure false := by
  cases v <;> first | rfl | cases h
noncomputable def testPlain : Expr → Bool
  | .UnaryOp .Not _ _ | .BoolOp .. | .IfExp .. | .Compare .. => false
  | _ => true
theorem test_of {e : Expr} {env : Env} {whole : Sem Value} (h : testPlain e = true) : isTrue e env whole = (do let v ← whole; standAt e.pos; holding [v] (truthy v)) := by
  cases e <;> first
    | rfl
    | cases h
    | (rename_i op _ _; cases op <;> first | rfl | cases h)
noncomputable def callOk (o : Expr) (args : List Expr) (apos pos : Pos) : Bool := baseOk o && args.all unstar && (apos.endLine == pos.line) && decide (args.length < 30)
section
variable {S : Sc} {X : Cx S} {b : Base} {led : Led} {vs : Vs}
theorem wAttrB {env : Env} {value : Expr} {attr : PySem.Str} {pos : Pos} {Q : Post Value} (he : baseOk value = true)
    (h : Wp X (eval value env) b led vs fun o b₁ l₁ v₁ => Wp X (getAttr o attr true) b₁ l₁ v₁ Q) : Wp X (eval (.Attribute value attr pos) env) b led vs Q :=
  wAttr (by rw [arm_eval_Attribute, base_of he]) h
theorem wArgsB {env : Env} {e : Expr} {rest : List Expr} {pos : Pos} {Q : Post (List Value)} (he : unstar e = true)
    (h : Wp X (eval e env) b led vs fun v b₁ l₁ v₁ => Wp X (spliced (backTo pos (starEach rest env))) b₁ l₁ v₁ fun us b₂ l₂ v₂ => Q (v :: us) b₂ l₂ v₂) : Wp X (spliced (backTo pos (starEach (e :: rest) env))) b led vs Q :=
  wArgs (star_of he) h
theorem wTestB {env : Env} {e : Expr} {whole : Sem Value} {Q : Post Bool} (he : testPlain e = true) (h : Wp X whole b led vs fun v b₁ l₁ v₁ => Wp X (truthy v) b₁ l₁ v₁ Q) : Wp X (isTrue e env whole) b led vs Q := wTest (test_of he) h
theorem wCallMB {o : Expr} {name : PySem.Str} {apos pos : Pos} {args : List Expr} {Q : Post Value} (he : callOk o args apos pos = true)
    (h : Wp X (eval o X.env) b led vs fun ov b₁ l₁ v₁ => Wp X (getMethod ov name (do return (← importBound o X.env).getD true)) b₁ l₁ v₁ fun fx b₂ l₂ v₂ => Wp X (callWith pos fx.1 fx.2 (backTo pos (starEach args X.env)) []) b₂ l₂ v₂ Q) :
    Wp X (eval (.Call (.Attribute o name apos) args [] pos) X.env) b led vs Q := by
  unfold callOk at he
  simp only [Bool.and_eq_true] at he
  obtain ⟨⟨⟨h1, h2⟩, h3⟩, h4⟩ := he
  have hform : methodCallForm (args.length + ([] : List Keyword).length) (backTo pos (starEach args X.env)) (backToKw pos (keywordEach [] X.env)) = true := by
    unfold methodCallForm
    rw [back_all, stars_of h2]
    show (true && true && decide (_ + 0 < 30)) = true
    rw [Bool.true_and, Bool.true_and]; exact h4
  have hpos : methodCallPos true o X.env apos pos = pure pos := by unfold methodCallPos; simp [h3]
  refine .mk fun s H => ?_
  rw [arm_eval_Call, base_of h1]
  refine wpAny_bind (wGo H h fun ov s₁ b₁ l₁ v₁ k₁ H₁ q₁ => wpAny_bind (wpAny_standAt ?_))
  unfold methodCall calleeOf
  rw [hform]
  refine wpAny_bind (wpAny_holding (wGo H₁ q₁ fun fx s₂ b₂ l₂ v₂ k₂ H₂ q₂ => ?_))
  exact wpAny_bind (wpAny_of_eq hpos (wpRest (k₁.trans k₂) q₂ H₂))
theorem wCallWithB {env : Env} {pos : Pos} {f : Value} {first : List Value} {args : List Expr} {Q : Post Value} (hk : Kept X f) (hp : args.all unstar = true)
    (h : Wp X (spliced (backTo pos (starEach args env))) b led vs fun us b₁ l₁ v₁ => Wp X (call f (first ++ us)) b₁ l₁ v₁ Q) : Wp X (callWith pos f first (backTo pos (starEach args env)) []) b led vs Q :=
  wCallWith hk (back_any (stars_of hp)) (fun e rest k => by subst k; rw [List.all_cons, Bool.and_eq_true] at hp; exact star_of hp.1) h
theorem wCallWithB0 {env : Env} {pos : Pos} {f : Value} {args : List Expr} {Q : Post Value} (hk : Kept X f) (hp : args.all unstar = true)
    (h : Wp X (spliced (backTo pos (starEach args env))) b led vs fun us b₁ l₁ v₁ => Wp X (call f us) b₁ l₁ v₁ Q) : Wp X (callWith pos f [] (backTo pos (starEach args env)) []) b led vs Q :=
  wCallWithB hk hp h
theorem wCallWithB1 {env : Env} {pos : Pos} {f a : Value} {args : List Expr} {Q : Post Value} (hk : Kept X f) (hp : args.all unstar = true)
    (h : Wp X (spliced (backTo pos (starEach args env))) b led vs fun us b₁ l₁ v₁ => Wp X (call f (a :: us)) b₁ l₁ v₁ Q) : Wp X (callWith pos f [a] (backTo pos (starEach args env)) []) b led vs Q :=
  wCallWithB hk hp h
theorem aAssignB {x pos' value pos rest} {Q : Post Flow} (hs : plainVal value = true) (h : Wp X (eval value X.env) b led vs fun v b₁ l₁ v₁ => ∃ v₂, LocSet S.ns v₁ x v v₂ ∧ Wp X (execs rest X.env) b₁ l₁ v₂ Q) :
    Wp X (execs (.Assign [.Name x pos'] value pos :: rest) X.env) b led vs Q := aAssign (swaps_of hs) h
theorem aExprB {e pos rest} {Q : Post Flow} (hs : plainVal e = true) (h : Wp X (eval e X.env) b led vs fun v b₁ l₁ v₁ => (∀ a, v ≠ .ref a) ∧ Wp X (execs rest X.env) b₁ l₁ v₁ Q) :
    Wp X (execs (.Expr e pos :: rest) X.env) b led vs Q := aExpr (swaps_of hs) h
theorem aSetAttrB {o attr pos' value pos rest} {Q : Post Flow} (hs : plainVal value = true)
    (h : Wp X (eval value X.env) b led vs fun v b₁ l₁ v₁ => Wp X (eval o X.env) b₁ l₁ v₁ fun ov b₂ l₂ v₂ => Wp X (setAttr ov attr v) b₂ l₂ v₂ fun _ b₃ l₃ v₃ => Wp X (execs rest X.env) b₃ l₃ v₃ Q) :
    Wp X (execs (.Assign [.Attribute o attr pos'] value pos :: rest) X.env) b led vs Q := aSetAttr (swaps_of hs) h
theorem aSetItemB {o i pos' value pos rest} {Q : Post Flow} (hs : plainVal value = true)
    (h : Wp X (eval value X.env) b led vs fun v b₁ l₁ v₁ => Wp X (eval o X.env) b₁ l₁ v₁ fun ov b₂ l₂ v₂ => Wp X (eval i X.env) b₂ l₂ v₂ fun iv b₃ l₃ v₃ => Wp X (setItem ov iv v) b₃ l₃ v₃ fun _ b₄ l₄ v₄ => Wp X (execs rest X.env) b₄ l₄ v₄ Q) :
    Wp X (execs (.Assign [.Subscript o i pos'] value pos :: rest) X.env) b led vs Q := aSetItem (swaps_of hs) h
end
end Mine
namespace Mine
section
variable {S : Sc} {G : FnR} {X : Cx S} {b : Base} {led : Led} {vs : Vs}
/-! defaults -/
theorem codeDefB {A : Around} (hA : A.handled = none) (hG : G.Ok X.am) {as as' : List Value} {R : Result → Shared → Prop} {s : Shared} {Q : Post Value} (hroom : A.depth < recursionLimit)
    (hb : BindsTo s G.fd ⟨as', []⟩ (G.sc.ns.zip as)) (H : Holds X.am b led (X.fs vs) s)
    (h : ∀ L, Wp (X.sub G hG A hA L vs) (execs (bodyOf G.st) (G.env L)) b led (as.map some ++ List.replicate (G.sc.ns.length - as.length) none) fun fl b' led' _ => Q (retOf fl) b' led' vs)
    (k : ∀ v s' b' led', Le b b' → Holds X.am b' led' (X.fs vs) s' → Q v b' led' vs → R (.ok (.ret v)) s') :
    codeAny (model pw X.am.w) A (.call (.ref G.f) ⟨as', []⟩) R s := by
  refine codeAny_call_def (fd := G.fd) (body := bodyOf G.st) (binds := G.sc.ns.zip as) hroom (H.stays _ _ hG.obj) rfl (X.ok.lim.keeps H.stays) (hG.code.keeps H.stays) rfl hb hG.cell
    (fun x hx => hG.loc _ (List.of_mem_zip (hx : (x.1, x.2) ∈ _)).1) (fun h₁ hn hk => ?_) hG.co hG.gen hG.kind
  rw [funext (lk_zip G.sc.ns as hG.nd)] at hn
  refine wpAny_mono ((h s.heap.objs.size).go _ (H.enter hn hk (X.ok.big H.stays) (s.toks + (G.sc.ns.zip as).length))) (fun fl s' ⟨b', led', vs', l, H', q⟩ => ?_) fun _ _ e => e.elim
  exact k _ _ _ _ l H'.pop q
theorem wMakeB {C : Addr} {as as' : List Value} {Q : Post Value} (hm : makeOk X.am.w.params C G.f = true) (hG : G.Ok X.am) (hroom : X.A.depth + 1 < recursionLimit) (hb : ∀ x s, (K X.am.w.params).In s.heap → BindsTo s G.fd ⟨.ref x :: as', []⟩ (G.sc.ns.zip (.ref x :: as)))
    (h : ∀ x dx L, Wp (X.sub G hG (X.mk' C as') (mk'_h X C as') L vs) (execs (bodyOf G.st) (G.env L)) b ((dx, dictOf (mkEs X.am.w.params []) 0) :: (x, instObj C dx) :: led) (some (.ref x) :: (as.map some ++ List.replicate (G.sc.ns.length - (as.length + 1)) none))
      fun fl b' led' _ => retOf fl = .none ∧ Q (.ref x) b' led' vs) : Wp X (call (.ref C) as') b led vs Q := .mk fun s H => by
  unfold makeOk at hm
  simp only [Bool.and_eq_true, beq_iff_eq] at hm
  obtain ⟨⟨m1, m2⟩, m3⟩ := hm
  have KK := X.ok.K.keeps H.stays
  obtain ⟨hh, g, d, t, os⟩ := s
  have H1 := H.alloc (o := emptyDict) rfl t
  have H2 := H1.alloc (o := instObj C hh.objs.size) rfl t
  refine wpAny_call (make_core (makes_of KK m1) (looks_findIn KK m2) (fun self => bind_fn KK self m3) (.inl rfl) ?_)
  have e : (hh.push emptyDict).objs.size = hh.objs.size + 1 := Heap.size_push ..
  dsimp only at H2
  rw [e] at H2
  have H3 := H2.perm (led' := (hh.objs.size, dictOf (mkEs X.am.w.params []) 0) :: (hh.objs.size + 1, instObj C hh.objs.size) :: led) (.swap _ _ _)
  refine codeDefB (mk'_h X C as') hG hroom (hb _ _ (X.ok.K.keeps H3.stays)) H3 (Q := fun v b' led' vs' => v = .none ∧ Q (.ref (hh.objs.size + 1)) b' led' vs') (fun L => ?_) fun v s' b' led' l H' q => ?_
  · exact h (hh.objs.size + 1) hh.objs.size L
  · exact ⟨q.1, b', led', vs, l, H', q.2⟩
/-! tuples, repeated -/
theorem noFill_tuple_mul : fillsNumberSlot (.type "tuple") "mul" = pure false :=
  PySem.fillsNumberSlot_seq (id := "tuple.__mul__") (r := some (.builtin "tuple.__rmul__")) F.slot_tuple_mul.lookup (by decide +kernel) F.slot_tuple_rmul.lookup (by decide +kernel)
theorem repeat_tuple : seqRepeat? (.type "tuple") = pure (some (.builtin "tuple.__mul__")) := by
  unfold seqRepeat?
  rw [PySem.seqSlot_of (T := "tuple") (name := "__mul__") (id := "tuple.__mul__") F.slot_tuple_mul.lookup (by decide +kernel), PySem.seqSlot_of (T := "tuple") (name := "__rmul__") (id := "tuple.__rmul__") F.slot_tuple_rmul.lookup (by decide +kernel)]
  rfl
theorem int_rmul_tuple (a : Int) (t : Tok) (l : Addr) (items : Array Value) (n : Nat) :
    Meets (Builtin.«int.__rmul__» ⟨[.int a t, .ref l], []⟩) (fun _ R s => s.heap.get? l = some { cls := .type "tuple", dict := none, data := .seq items n, slots := #[] } ∧ R (.ok (.ret Value.notImplemented)) s) :=
  .of_wp fun prog w A R s h => by obtain ⟨hp, g, d, tk, os⟩ := s; obtain ⟨hl, h⟩ := h; wp_walk; exact ⟨_, rfl, h⟩
theorem fold_one {u : Value} : ∀ (n : Nat) (a : Array Value), List.foldl (fun x1 x2 => x1 ++ x2) a (List.replicate n #[u]) = a ++ (List.replicate n u).toArray := by
  intro n
  induction n with
  | zero => intro a; simp
  | succ n ih => intro a; rw [List.replicate_succ, List.foldl_cons, ih, List.replicate_succ, show (u :: List.replicate n u).toArray = #[u] ++ (List.replicate n u).toArray by simp, Array.append_assoc]
theorem tuple_mul_int (l : Addr) (u : Value) (n : Nat) (x : Int) (t : Tok) (h1 : 1 < x) (h2 : x ≤ 100) :
    Meets (Builtin.«tuple.__mul__» ⟨[.ref l, .int x t], []⟩) (fun _ R s => s.heap.get? l = some { cls := .type "tuple", dict := none, data := .seq #[u] n, slots := #[] } ∧ R (.ok (.ret (Value.ref s.heap.objs.size))) { s with heap := s.heap.push { cls := Value.type "tuple", data := Data.seq (List.foldl (fun x1 x2 => x1 ++ x2) #[] (List.replicate x.toNat #[u])) }, toks := s.toks }) :=
  .of_wp fun prog w A R s h => by
    obtain ⟨hp, g, d, tk, os⟩ := s; obtain ⟨hl, h⟩ := h
    wp_walk
    refine wpAny_ite_false (by simp; omega) ?_
    wp_walk
    refine wpAny_ite_false (by simp; omega) ?_
    wp_walk
    refine wpAny_ite_false (by simp; omega) ?_
    wp_walk
    refine wpAny_ite_false (by simp; omega) ?_
    wp_walk
    refine wpAny_ite_false (by simp [Builtin.Tuple.tupleTooMany, sizeLine]; omega) ?_
    wp_walk
    refine wpAny_ite_false (by rw [fold_one]; simp [sizeLine]; omega) ?_
    wp_walk
    exact ⟨_, rfl, h⟩
theorem wMulT {x : Addr} {u : Value} {n : Nat} {k : Int} {t : Tok} {Q : Post Value} (hx : Has b led x (TO [u] n)) (h0 : 1 < k) (hk : k ≤ 100) (q : ∀ r, Q (.ref r) b ((r, TO (List.replicate k.toNat u) 0) :: led) vs) : Wp X (binaryOp .Mult (.ref x) (.int k t)) b led vs Q := .mk fun s H => by
  refine wpAny_binaryOp_repeat_ref (T := "tuple") (U := "int") (by decide) ⟨_, hx.get H, rfl⟩ (fun s' => typeIs_int s' k t) noFill_tuple_mul F.fills_int_mul F.slot_int_rmul repeat_tuple F.slot_int_index.lookup
    (call_meets F.slot_int_rmul (typeIs_int s k t) F.entry_int_rmul (F.args_int_rmul_2 _ _) (int_rmul_tuple k t x [u].toArray n)
      ⟨hx.get H, rfl, ⟨_, hx.get H, rfl⟩, call_meets F.slot_tuple_mul ⟨_, hx.get H, rfl⟩ F.entry_tuple_mul (F.args_tuple_mul_2 _ _)
        (tuple_mul_int x u n k t h0 hk) ⟨hx.get H, ?_⟩⟩)
  rw [fold_one, Array.empty_append]
  exact Rest.of (H.alloc (o := TO (List.replicate k.toNat u) 0) rfl s.toks) (q _)
/-! str of an int -/
theorem wStrInt {k : Int} {t : Tok} {Q : Post Value} (hk : k.natAbs.log2 < 1920) (q : ∀ t, Q (.str (PySem.Str.ofString (toString k)) t) b led vs) : Wp X (call (.type "str") [.int k t]) b led vs Q := .mk fun s H =>
  P.str_of_int hk (Rest.of (H.tk _) (q _))
/-! a list from a list; a slice of one -/
theorem wListL {x : Addr} {us : List Value} {n : Nat} {Q : Post Value} (hx : Has b led x (LO us n)) (hz : us.length ≤ 100000) (q : ∀ r k, Q (.ref r) b ((r, LO us k) :: led) vs) : Wp X (call (.type "list") [.ref x]) b led vs Q := .mk fun s H => by
  refine call_list_seq x (.inl rfl) (hx.get H) rfl rfl (fun h' c' hk hg => ?_) (by simp [sizeLine]; omega)
  have H1 := H.alloc (o := LO us c') rfl s.toks
  refine ⟨b, (s.heap.objs.size, LO us c') :: led, vs, .rfl, ?_, q _ _⟩
  refine ⟨fun y o e => hk _ _ (H.base y o e), H.old, fun p hp => ?_, fun f hf => ⟨(H.frs f hf).1.keeps hk, (H.frs f hf).2⟩, H1.nd, H.gens, H.os⟩
  rcases List.mem_cons.mp hp with rfl | hp
  · exact ⟨hg, (H1.ld _ (.head _)).2⟩
  · exact ⟨hk _ _ (H.ld p hp).1, (H.ld p hp).2⟩
theorem wSliceL {y : PySem.Str} {yp : Pos} {lower upper : Option Expr} {p pos : Pos} {us : List Value} {lo hi : Option Int} {Q : Post Value} {v vl vu : Value} (hv : LocAt S.ns vs y v) (hl : ∀ s, Holds X.am b led (X.fs vs) s → ∃ x o, v = .ref x ∧ s.heap.get? x = some o ∧ IsLO us o) (hz : us.length ≤ 100000)
    (h : ∀ R : Value → Value → Prop, (∀ vl vu, IsPart vl lo → IsPart vu hi → R vl vu) → Wp X (evalPart lower X.env) b led vs fun vl b₁ l₁ v₁ => b₁ = b ∧ l₁ = led ∧ v₁ = vs ∧ Wp X (evalPart upper X.env) b led vs fun vu b₂ l₂ v₂ => b₂ = b ∧ l₂ = led ∧ v₂ = vs ∧ R vl vu)
    (q : ∀ r o, Q (.ref (r + 1)) b ((r + 1, LO (slicePick us.toArray lo hi none).toList 0) :: (r, o) :: led) vs) : Wp X (eval (.Subscript (.Name y yp) (.Slice lower upper none p) pos) X.env) b led vs Q := .mk fun s H => by
  refine wpAny_Subscript_list_slice ((wName hv (Q := fun w b' l' v' => w = v ∧ b' = b ∧ l' = led ∧ v' = vs) ⟨rfl, rfl, rfl, rfl⟩).go s H |> fun e => wpAny_mono e (fun o s₁ ⟨b', l', v', k₁, H₁, e1, e2, e3, e4⟩ => ?_) fun _ _ e => e.elim) (fun _ _ => rfl)
  subst e1 e2 e3 e4
  refine wGoE H₁ (h (fun vl vu => IsPart vl lo ∧ IsPart vu hi) fun _ _ a c => ⟨a, c⟩) fun vl s₂ b₂ l₂ v₂ k₂ H₂ ⟨e2, e3, e4, q₂⟩ => ?_
  subst e2 e3 e4
  refine wGoE H₂ q₂ fun vu s₃ b₃ l₃ v₃ k₃ H₃ ⟨e2, e3, e4, q₃⟩ => ?_
  subst e2 e3 e4
  obtain ⟨x, o, rfl, hx, ho⟩ := hl s₃ H₃
  refine ⟨x, us.toArray, lo, hi, rfl, ⟨o, hx, ho⟩, by simp [sizeLine]; omega, q₃.1, q₃.2, ?_⟩
  have H4 := H₃.alloc (o := { cls := .type "slice", data := .fields #[vl, vu, .none] }) rfl s₃.toks
  have H5 := H4.alloc (o := LO (slicePick us.toArray lo hi none).toList 0) rfl s₃.toks
  dsimp only at H5
  rw [Heap.size_push] at H5
  exact Rest.of H5 (q _ _)
theorem wPartInt {i : Int} {k : Nat} {pos : Pos} {Q : Post Value} (q : ∀ t, Q (.int i t) b led vs) : Wp X (evalPart (some (.Constant (.int i) k pos)) X.env) b led vs Q := .mk fun s H => (wInt (k := k) (pos := pos) q).go s H
theorem wPartNone {Q : Post Value} (q : Q .none b led vs) : Wp X (evalPart none X.env) b led vs Q := .mk fun s H => wpAny_evalPart_none (Rest.of H q)
end
end Mine
namespace Mine
/-! steps taken together -/
section
variable {S : Sc} {X : Cx S} {b : Base} {led : Led} {vs : Vs}
theorem wCallG {id : PySem.Str} {p pos : Pos} {args : List Expr} {f : Value} {Q : Post Value} (h : GlAt S.gs id f) (hk : Kept X f) (hp : args.all unstar = true)
    (q : Wp X (spliced (backTo pos (starEach args X.env))) b led vs fun us b₁ l₁ v₁ => Wp X (call f us) b₁ l₁ v₁ Q) : Wp X (eval (.Call (.Name id p) args [] pos) X.env) b led vs Q := wCallN (wGl h (wCallWithB0 hk hp q))
theorem wCallG0 {id : PySem.Str} {p pos : Pos} {f : Value} {Q : Post Value} (h : GlAt S.gs id f) (hk : Kept X f) (q : Wp X (call f []) b led vs Q) : Wp X (eval (.Call (.Name id p) [] [] pos) X.env) b led vs Q := wCallG h hk rfl (wArgs0 q)
theorem wArgsN {x : PySem.Str} {p pos : Pos} {rest : List Expr} {v : Value} {Q : Post (List Value)} (hl : LocAt S.ns vs x v) (h : Wp X (spliced (backTo pos (starEach rest X.env))) b led vs fun us b₂ l₂ v₂ => Q (v :: us) b₂ l₂ v₂) :
    Wp X (spliced (backTo pos (starEach (.Name x p :: rest) X.env))) b led vs Q := wArgsB rfl (wName hl h)
theorem wArgsN1 {x : PySem.Str} {p pos : Pos} {v : Value} {Q : Post (List Value)} (hl : LocAt S.ns vs x v) (q : Q [v] b led vs) : Wp X (spliced (backTo pos (starEach [.Name x p] X.env))) b led vs Q := wArgsN hl (wArgs0 q)
theorem wArgsN2 {x y : PySem.Str} {p p' pos : Pos} {v w : Value} {Q : Post (List Value)} (hl : LocAt S.ns vs x v) (hl' : LocAt S.ns vs y w) (q : Q [v, w] b led vs) : Wp X (spliced (backTo pos (starEach [.Name x p, .Name y p'] X.env))) b led vs Q := wArgsN hl (wArgsN1 hl' q)
theorem wArgsI {env : Env} {i : Int} {k p pos} {rest : List Expr} {Q : Post (List Value)} (h : ∀ t, Wp X (spliced (backTo pos (starEach rest env))) b led vs fun us b₂ l₂ v₂ => Q (.int i t :: us) b₂ l₂ v₂) :
    Wp X (spliced (backTo pos (starEach (.Constant (.int i) k p :: rest) env))) b led vs Q := wArgsB rfl (wInt h)
theorem wArgsI1 {env : Env} {i : Int} {k p pos} {Q : Post (List Value)} (q : ∀ t, Q [.int i t] b led vs) : Wp X (spliced (backTo pos (starEach [.Constant (.int i) k p] env))) b led vs Q := wArgsI fun t => wArgs0 (q t)
theorem wArgsS {env : Env} {i : PySem.Str} {k p pos} {rest : List Expr} {Q : Post (List Value)} (h : ∀ t, Wp X (spliced (backTo pos (starEach rest env))) b led vs fun us b₂ l₂ v₂ => Q (.str i t :: us) b₂ l₂ v₂) :
    Wp X (spliced (backTo pos (starEach (.Constant (.str i) k p :: rest) env))) b led vs Q := wArgsB rfl (wStr h)
theorem wArgsS1 {env : Env} {i : PySem.Str} {k p pos} {Q : Post (List Value)} (q : ∀ t, Q [.str i t] b led vs) : Wp X (spliced (backTo pos (starEach [.Constant (.str i) k p] env))) b led vs Q := wArgsS fun t => wArgs0 (q t)
theorem wArgs1 {env : Env} {e : Expr} {pos : Pos} {Q : Post (List Value)} (he : unstar e = true) (h : Wp X (eval e env) b led vs fun v b₁ l₁ v₁ => Q [v] b₁ l₁ v₁) : Wp X (spliced (backTo pos (starEach [e] env))) b led vs Q := wArgsB he (wMono h fun _ _ _ _ _ q => wArgs0 q)
theorem wAttrN {x : PySem.Str} {p pos : Pos} {attr : PySem.Str} {v : Value} {Q : Post Value} (hl : LocAt S.ns vs x v) (h : Wp X (getAttr v attr true) b led vs Q) : Wp X (eval (.Attribute (.Name x p) attr pos) X.env) b led vs Q := wAttrB rfl (wName hl h)
theorem wCallMN {x name : PySem.Str} {p apos pos : Pos} {args : List Expr} {v : Value} {Q : Post Value} (hl : LocAt S.ns vs x v) (he : callOk (.Name x p) args apos pos = true)
    (h : Wp X (getMethod v name (do return (← importBound (.Name x p) X.env).getD true)) b led vs fun fx b₂ l₂ v₂ => Wp X (callWith pos fx.1 fx.2 (backTo pos (starEach args X.env)) []) b₂ l₂ v₂ Q) :
    Wp X (eval (.Call (.Attribute (.Name x p) name apos) args [] pos) X.env) b led vs Q := wCallMB he (wName hl h)
theorem aRetN {x : PySem.Str} {p pos r} {v : Value} {Q : Post Flow} (hl : LocAt S.ns vs x v) (q : Q (.ret v) b led vs) : Wp X (execs (.Return (some (.Name x p)) pos :: r) X.env) b led vs Q := aRet (wName hl q)
theorem wTestNS {x s : PySem.Str} {op p k p' pos whole} {v : Value} {Q : Post Bool} (hl : LocAt S.ns vs x v) (hm : behindInMarks op (.Constant (.str s) k p') = false) (h : ∀ t, Wp X (compareOp op v (.str s t)) b led vs fun c b₃ l₃ v₃ => Wp X (truthy c) b₃ l₃ v₃ Q) :
    Wp X (isTrue (.Compare (.Name x p) [op] [.Constant (.str s) k p'] pos) X.env whole) b led vs Q := wTestCmp hm (wName hl (wStr h))
theorem wTestNI {x : PySem.Str} {s : Int} {op p k p' pos whole} {v : Value} {Q : Post Bool} (hl : LocAt S.ns vs x v) (hm : behindInMarks op (.Constant (.int s) k p') = false) (h : ∀ t, Wp X (compareOp op v (.int s t)) b led vs fun c b₃ l₃ v₃ => Wp X (truthy c) b₃ l₃ v₃ Q) :
    Wp X (isTrue (.Compare (.Name x p) [op] [.Constant (.int s) k p'] pos) X.env whole) b led vs Q := wTestCmp hm (wName hl (wInt h))
theorem wBinN {x : PySem.Str} {p op r pos} {v : Value} {Q : Post Value} (hl : LocAt S.ns vs x v) (h : Wp X (eval r X.env) b led vs fun w b₂ l₂ v₂ => Wp X (binaryOp op v w) b₂ l₂ v₂ Q) : Wp X (eval (.BinOp (.Name x p) op r pos) X.env) b led vs Q := wBinOp (wName hl h)
theorem wBinNN {x y : PySem.Str} {p p' op pos} {v w : Value} {Q : Post Value} (hl : LocAt S.ns vs x v) (hl' : LocAt S.ns vs y w) (h : Wp X (binaryOp op v w) b led vs Q) : Wp X (eval (.BinOp (.Name x p) op (.Name y p') pos) X.env) b led vs Q := wBinN hl (wName hl' h)
theorem wBinNI {x : PySem.Str} {i : Int} {p k p' op pos} {v : Value} {Q : Post Value} (hl : LocAt S.ns vs x v) (h : ∀ t, Wp X (binaryOp op v (.int i t)) b led vs Q) : Wp X (eval (.BinOp (.Name x p) op (.Constant (.int i) k p') pos) X.env) b led vs Q := wBinN hl (wInt h)
theorem wSubNI {x : PySem.Str} {i : Int} {p k p' pos} {v : Value} {Q : Post Value} (hl : LocAt S.ns vs x v) (h : ∀ t, Wp X (subscriptTail (.Name x p) (.Constant (.int i) k p') v (.int i t)) b led vs Q) : Wp X (eval (.Subscript (.Name x p) (.Constant (.int i) k p') pos) X.env) b led vs Q := wSubscript (wName hl (wInt h))
theorem wSubN {x : PySem.Str} {p slice pos} {v : Value} {Q : Post Value} (hl : LocAt S.ns vs x v) (h : Wp X (eval slice X.env) b led vs fun i b₂ l₂ v₂ => Wp X (subscriptTail (.Name x p) slice v i) b₂ l₂ v₂ Q) : Wp X (eval (.Subscript (.Name x p) slice pos) X.env) b led vs Q := wSubscript (wName hl h)
/-! the same rules; the post is a let: in the proof's term it then stands once -/
theorem wLet {α : Type} {t : PySem.Sem α} {Q : Post α} (h : let Q' := Q; Wp X t b led vs Q') : Wp X t b led vs Q := h
theorem wFzL {α : Type} {t : PySem.Sem α} {Q : Post α} (h : let Q' : Post α := (fun v b l vs => Fz Q v vs b l); Wp X t b led vs Q') : Wp X t b led vs Q := wFz h
theorem aAssignL {x pos' value pos rest} {Q : Post Flow} (hs : plainVal value = true) (h : let Q' : Post Value := (fun v b₁ l₁ v₁ => ∃ v₂, LocSet S.ns v₁ x v v₂ ∧ Wp X (execs rest X.env) b₁ l₁ v₂ Q); let vs' : Vs := vs; Wp X (eval value X.env) b led vs' Q') :
    Wp X (execs (.Assign [.Name x pos'] value pos :: rest) X.env) b led vs Q := aAssignB hs h
theorem aExprL {e pos rest} {Q : Post Flow} (hs : plainVal e = true) (h : let Q' : Post Value := (fun v b₁ l₁ v₁ => (∀ a, v ≠ .ref a) ∧ Wp X (execs rest X.env) b₁ l₁ v₁ Q); let vs' : Vs := vs; Wp X (eval e X.env) b led vs' Q') :
    Wp X (execs (.Expr e pos :: rest) X.env) b led vs Q := aExprB hs h
theorem aSetAttrL {o attr pos' value pos rest} {Q : Post Flow} (hs : plainVal value = true)
    (h : let Q' : Post Value := (fun v b₁ l₁ v₁ => Wp X (eval o X.env) b₁ l₁ v₁ fun ov b₂ l₂ v₂ => Wp X (setAttr ov attr v) b₂ l₂ v₂ fun _ b₃ l₃ v₃ => Wp X (execs rest X.env) b₃ l₃ v₃ Q); let vs' : Vs := vs; Wp X (eval value X.env) b led vs' Q') :
    Wp X (execs (.Assign [.Attribute o attr pos'] value pos :: rest) X.env) b led vs Q := aSetAttrB hs h
theorem aSetItemL {o i pos' value pos rest} {Q : Post Flow} (hs : plainVal value = true)
    (h : let Q' : Post Value := (fun v b₁ l₁ v₁ => Wp X (eval o X.env) b₁ l₁ v₁ fun ov b₂ l₂ v₂ => Wp X (eval i X.env) b₂ l₂ v₂ fun iv b₃ l₃ v₃ => Wp X (setItem ov iv v) b₃ l₃ v₃ fun _ b₄ l₄ v₄ => Wp X (execs rest X.env) b₄ l₄ v₄ Q); let vs' : Vs := vs; Wp X (eval value X.env) b led vs' Q') :
    Wp X (execs (.Assign [.Subscript o i pos'] value pos :: rest) X.env) b led vs Q := aSetItemB hs h
theorem aAssignTupL {elts k tpos value pos rest} {Q : Post Flow} (hs : swapsWithSole [.Tuple elts k tpos] value pos.line X.env = pure false) (hw : swappedStores [.Tuple elts k tpos] value X.env = pure none)
    (h : let Q' : Post Value := (fun v b₁ l₁ v₁ => Wp X (assign (.Tuple elts k tpos) X.env v) b₁ l₁ v₁ fun _ b₂ l₂ v₂ => Wp X (execs rest X.env) b₂ l₂ v₂ Q); let vs' : Vs := vs; Wp X (eval value X.env) b led vs' Q') : Wp X (execs (.Assign [.Tuple elts k tpos] value pos :: rest) X.env) b led vs Q := aAssignTup hs hw h
theorem aIfL {env : Env} {test body orelse pos rest} {Q : Post Flow} (h : let Q' : Post Bool := (fun c b₁ l₁ v₁ => if c = true then Wp X (execs body env) b₁ l₁ v₁ (After X rest env Q) else Wp X (execs orelse env) b₁ l₁ v₁ (After X rest env Q)); let vs' : Vs := vs; Wp X (isTrue test env (eval test env)) b led vs' Q') :
    Wp X (execs (.If test body orelse pos :: rest) env) b led vs Q := aIf h
theorem wCallGL {id : PySem.Str} {p pos : Pos} {args : List Expr} {f : Value} {Q : Post Value} (h : GlAt S.gs id f) (hk : Kept X f) (hp : args.all unstar = true)
    (q : let Q' : Post (List Value) := (fun us b₁ l₁ v₁ => Wp X (call f us) b₁ l₁ v₁ Q); Wp X (spliced (backTo pos (starEach args X.env))) b led vs Q') : Wp X (eval (.Call (.Name id p) args [] pos) X.env) b led vs Q := wCallG h hk hp q
theorem wCallWithL0 {env : Env} {pos : Pos} {f : Value} {args : List Expr} {Q : Post Value} (hk : Kept X f) (hp : args.all unstar = true)
    (h : let Q' : Post (List Value) := (fun us b₁ l₁ v₁ => Wp X (call f us) b₁ l₁ v₁ Q); Wp X (spliced (backTo pos (starEach args env))) b led vs Q') : Wp X (callWith pos f [] (backTo pos (starEach args env)) []) b led vs Q := wCallWithB0 hk hp h
theorem wCallWithL1 {env : Env} {pos : Pos} {f a : Value} {args : List Expr} {Q : Post Value} (hk : Kept X f) (hp : args.all unstar = true)
    (h : let Q' : Post (List Value) := (fun us b₁ l₁ v₁ => Wp X (call f (a :: us)) b₁ l₁ v₁ Q); Wp X (spliced (backTo pos (starEach args env))) b led vs Q') : Wp X (callWith pos f [a] (backTo pos (starEach args env)) []) b led vs Q := wCallWithB1 hk hp h
theorem wArgsL {env : Env} {e : Expr} {rest : List Expr} {pos : Pos} {Q : Post (List Value)} (he : unstar e = true)
    (h : let Q' : Post Value := (fun v b₁ l₁ v₁ => Wp X (spliced (backTo pos (starEach rest env))) b₁ l₁ v₁ fun us b₂ l₂ v₂ => Q (v :: us) b₂ l₂ v₂); Wp X (eval e env) b led vs Q') : Wp X (spliced (backTo pos (starEach (e :: rest) env))) b led vs Q := wArgsB he h
theorem wArgsL1 {env : Env} {e : Expr} {pos : Pos} {Q : Post (List Value)} (he : unstar e = true) (h : let Q' : Post Value := (fun v b₁ l₁ v₁ => Q [v] b₁ l₁ v₁); Wp X (eval e env) b led vs Q') : Wp X (spliced (backTo pos (starEach [e] env))) b led vs Q := wArgs1 he h
theorem wTupleL {env : Env} {elts : List Expr} {k : Nat} {pos : Pos} {Q : Post Value} (h : let Q' : Post (List Value) := (fun us b₁ l₁ v₁ => Wp X (newTuple us) b₁ l₁ v₁ Q); Wp X (spliced (backTo pos (starEach elts env))) b led vs Q') : Wp X (eval (.Tuple elts k pos) env) b led vs Q := wTuple h
theorem wListL' {env : Env} {elts : List Expr} {pos : Pos} {Q : Post Value} (h : let Q' : Post (List Value) := (fun us b₁ l₁ v₁ => Wp X (newList us) b₁ l₁ v₁ Q); Wp X (spliced (backTo pos (starEach elts env))) b led vs Q') : Wp X (eval (.List elts pos) env) b led vs Q := wList h
/-! where a local stands -/
section
variable {n₀ n₁ n₂ n₃ n₄ n₅ n₆ n₇ x : PySem.Str} {ns : List PySem.Str} {v₀ v₁ v₂ v₃ v₄ v₅ v₆ v₇ : Option Value} {v : Value} {vt : Vs}
theorem LocAt.i1 : LocAt (n₀ :: x :: ns) (v₀ :: some v :: vt) x v := .there .here
theorem LocAt.i2 : LocAt (n₀ :: n₁ :: x :: ns) (v₀ :: v₁ :: some v :: vt) x v := .there .i1
theorem LocAt.i3 : LocAt (n₀ :: n₁ :: n₂ :: x :: ns) (v₀ :: v₁ :: v₂ :: some v :: vt) x v := .there .i2
theorem LocAt.i4 : LocAt (n₀ :: n₁ :: n₂ :: n₃ :: x :: ns) (v₀ :: v₁ :: v₂ :: v₃ :: some v :: vt) x v := .there .i3
theorem LocAt.d4 (h : LocAt ns vt x v) : LocAt (n₀ :: n₁ :: n₂ :: n₃ :: ns) (v₀ :: v₁ :: v₂ :: v₃ :: vt) x v := .there (.there (.there (.there h)))
end
end
inductive Six2 {α β : Type} (R : α → β → Prop) : List α → List β → Prop
  | mk (v1 v2 v3 v4 v5 v6 : α) (n1 n2 n3 n4 n5 n6 : β) (c1 : R v1 n1) (c2 : R v2 n2) (c3 : R v3 n3) (c4 : R v4 n4) (c5 : R v5 n5) (c6 : R v6 n6) : Six2 R [v1, v2, v3, v4, v5, v6] [n1, n2, n3, n4, n5, n6]
end Mine
namespace Mine
local macro_rules | `(tactic| walk_at "loc") => `(tactic| (repeat' (with_reducible first | exact LocAt.here | exact LocAt.i1 | exact LocAt.i2 | exact LocAt.i3 | exact LocAt.i4 | refine' LocAt.d4 ?_ | refine' LocAt.there ?_ | exact LocSet.here | refine' LocSet.there ?_)))
local macro_rules | `(tactic| walk_at "gl") => `(tactic| (repeat' (first | with_reducible exact GlAt.here | with_reducible refine' GlAt.there ?_)))
local macro_rules | `(tactic| walk_at "mem") => `(tactic| (repeat' (first | with_reducible exact List.Mem.head _ | with_reducible refine' List.Mem.tail _ ?_)))
local macro_rules | `(tactic| walk_at "fld") => `(tactic| (repeat' (first | with_reducible exact FGet.here | with_reducible exact FSetF.here | with_reducible exact FSetF.new | (refine' FGet.there (by decide) ?_) | (refine' FSetF.there (by decide) ?_))))
local macro_rules | `(tactic| walk_at "has") => `(tactic| first | exact .inl (by assumption) | exact .inr (.head _) | exact .inr (.tail _ (.head _)) | exact .inr (.tail _ (.tail _ (.head _))) | exact .inr (by walk_at "mem"))
local macro_rules | `(tactic| walk_at "body") => `(tactic| (conv => { arg 2; arg 1; whnf }); refine wLet ?_; intro _)
local macro_rules | `(tactic| walk_at "s") => `(tactic| first
  | ((with_reducible first | apply wName | apply wArgsN1 | apply wArgsN | apply wAttrN | apply aRetN); (· walk_at "loc"))
  | ((with_reducible refine' ⟨_, ?lc, ?_⟩); (case lc => walk_at "loc"))
  | ((with_reducible first | apply wInt | apply wStr | apply wArgsI1 | apply wArgsI | apply wArgsS1 | apply wArgsS | apply wBytes | apply wAdd | apply wSub | apply wTupleL | apply wListL'); intro _)
  | ((with_reducible apply wGl); (· walk_at "gl"))
  | ((with_reducible apply wCallGL); (· walk_at "gl"); (· first | exact kept_b _ | exact kept_t _ | exact kept_K (by kernel_rfl)); (· kernel_rfl); intro _)
  | ((with_reducible first | apply wBinNI | apply wSubNI); (· walk_at "loc"); intro _)
  | ((with_reducible first | apply wTestNS | apply wTestNI); (· walk_at "loc"); (· kernel_rfl); intro _)
  | ((with_reducible apply wCallMN); (· walk_at "loc"); (· kernel_rfl))
  | ((with_reducible first | apply wBinN | apply wSubN); (· walk_at "loc"))
  | (with_reducible first | apply wNone | apply wBinOp | apply wTestAnd | apply wTestOr | apply wTestAndNil | apply wTestOrNil | apply wTestNot | apply wIfExp | apply wUnary | apply wCallN | apply wArgs0 | apply wSubscript | apply aRet | apply aRet0)
  | ((with_reducible first | apply wArgsL1 | apply wArgsL); (· rfl); intro _)
  | ((with_reducible first | apply aAssignL | apply aSetItemL | apply aSetAttrL | apply aExprL); (· rfl); intro _ _)
  | ((with_reducible apply aIfL); intro _ _)
  | ((with_reducible apply wAttrB); (· rfl))
  | ((with_reducible first | apply wTestCmp | apply wCompare1 | apply wCallMB); (· kernel_rfl))
  | ((with_reducible first | apply wCallWithL0 | apply wCallWithL1); (· first | exact kept_b _ | exact kept_t _ | exact kept_K (by kernel_rfl)); (· kernel_rfl); intro _)
  | ((with_reducible first | apply wNewTuple | apply wNewList); (· exact of_decide_eq_true (by kernel_rfl)); intro _)
  | ((with_reducible apply aAssignTupL); (· rfl); (· rfl); intro _ _)
  | ((with_reducible apply wAsTup2); (· walk_at "has"); (· walk_at "loc"); (· walk_at "loc"))
  | ((with_reducible apply wAsTup3); (· walk_at "has"); (· walk_at "loc"); (· walk_at "loc"); (· walk_at "loc"))
  | (with_reducible first | apply wEqS | apply wNeS | apply wLt | apply wGt | apply wLe | apply wGe | apply wEqI | apply wNeI | apply wTruthyBool | apply wIsNone | apply wIsNotNone | apply aSkip | apply aNext | apply aBack)
  | ((with_reducible apply wSet0); (· walk_at "has"); (· kernel_rfl); (· walk_at "fld"); (· exact of_decide_eq_true (by kernel_rfl)); intro _ _)
  | ((with_reducible apply wTestB); (· rfl))
  | (with_reducible first | refine' ite_f rfl ?_ | refine' ite_t rfl ?_ | refine' ite_f (c := !true) rfl ?_ | refine' ite_t (c := !false) rfl ?_))
local macro_rules | `(tactic| walk_at "sub") => `(tactic| first | assumption | exact Le.rfl | (refine Le.trans ?_ (by assumption); walk_at "sub") | fail "no")
/-! numbers -/
inductive DecAt (P : Params) (b : Base) (v : Value) (d : Dc) : Prop
  | mk (x : _) (dx : _) (t1 : _) (t2 : _) (k1 : _) (k2 : _) (k : _) (h1_ : v = .ref x) (h2_ : b x = some (instObj 167 dx)) (h3_ : b dx = some (dictOf (mkEs P [("top", t1, .int d.top k1), ("places", t2, .int d.pl k2)]) k)) : DecAt P b v d
theorem DecAt.mono {P : Params} {b b' : Base} {v : Value} {d : Dc} (h : DecAt P b v d) (l : Le b b') : DecAt P b' v d := let ⟨x, dx, t1, t2, k1, k2, k, e, h1, h2⟩ := h; ⟨x, dx, t1, t2, k1, k2, k, e, l _ _ h1, l _ _ h2⟩
inductive Num where
  | int (n : Int)
  | dec (d : Dc)
  deriving DecidableEq
noncomputable def Num.dc : Num → Dc
  | .int n => ⟨n, 0⟩
  | .dec x => x
noncomputable def NumAt (P : Params) (b : Base) (v : Value) : Num → Prop
  | .int n => ∃ k, v = .int n k
  | .dec x => DecAt P b v x
theorem NumAt.mono {P : Params} {b b' : Base} {v : Value} : ∀ {n : Num}, NumAt P b v n → Le b b' → NumAt P b' v n
  | .int _, h, _ => h
  | .dec _, h, l => DecAt.mono h l
noncomputable def instOk (P : Params) (D : Addr) : Bool := plainGet (K P) D "__class__" && hasDictIn (K P) D && findIn (K P) (.ref D) "__class__" == some (some (.builtin "object.__class__")) &&
  specialIn (K P) (.builtin "object.__class__") "__get__" == some (some (.builtin "getset_descriptor.__get__")) && takesIn (K P) (.builtin "object.__class__") == some true && mroIn (K P) D (.type "object") == some true
theorem kit_inst {P : Params} {x D : Addr} {ox od : Obj} (h : instOk P D = true) : KitX (K P) (.ref x) (.ref D) (fun h => InstAt h x ox D (some od)) := by
  unfold instOk at h
  simp only [Bool.and_eq_true, beq_iff_eq] at h
  obtain ⟨⟨⟨⟨⟨h1, h2⟩, h3⟩, h4⟩, h5⟩, h6⟩ := h
  exact kitx_own h1 h2 h3 h4 h5 h6
theorem io_Dec (P : Params) : instOk P 167 = true := by kernel_rfl
theorem mk_Dec (P : Params) : makeOk P 167 87 = true := by kernel_rfl
theorem ki_Dec_int (P : Params) : kitOne (K P) (.type "int") (.ref 167) = some false := by kernel_rfl
theorem ki_Dec_Dec (P : Params) : kitOne (K P) (.ref 167) (.ref 167) = some true := by kernel_rfl
theorem fo_Dec_top (P : Params) : fieldOk P 167 (PySem.Str.ofString "top") = true := by kernel_rfl
theorem fo_Dec_pl (P : Params) : fieldOk P 167 (PySem.Str.ofString "places") = true := by kernel_rfl
theorem ki_int_bool (P : Params) : kitOne (K P) (.type "int") (.type "bool") = some false := by kernel_rfl
theorem ki_int_int (P : Params) : kitOne (K P) (.type "int") (.type "int") = some true := by kernel_rfl
theorem b_Decimal_init (Y : Cx f_Decimal_init.sc) {b : Base} {led : Led} (x dx : Addr) (t : Int) (p : Nat) (k1 k2 : Tok) :
    Wp Y (execs (bodyOf f_Decimal_init.st) Y.env) b ((dx, dictOf (mkEs Y.am.w.params []) 0) :: (x, instObj 167 dx) :: led) [some (.ref x), some (.int t k1), some (.int p k2)]
      (fun fl b' led' _ => retOf fl = .none ∧ led' = led ∧ DecAt Y.am.w.params b' (.ref x) (norm t p)) := by
  refine wFz ?_
  walk_at "body"
  refine aWhileJ (fun n b' led' vs => b' = b ∧ led' = (dx, dictOf (mkEs Y.am.w.params []) 0) :: (x, instObj 167 dx) :: led ∧ ∃ t' k1 k2, norm t' n = norm t p ∧ vs = [some (.ref x), some (.int t' k1), some (.int (n : Int) k2)])
    (fun b' led' vs => b' = b ∧ led' = (dx, dictOf (mkEs Y.am.w.params []) 0) :: (x, instObj 167 dx) :: led ∧ ∃ k1 k2, vs = [some (.ref x), some (.int (norm t p).top k1), some (.int (norm t p).pl k2)]) ?_ p ⟨rfl, rfl, t, k1, k2, rfl, rfl⟩ ?_
  · rintro n b' led' vs ⟨rfl, rfl, t', k1, k2, e, rfl⟩
    refine wLet ?_; intro _
    repeat' (walk_at "s")
    refine ite_of (fun hc => ?_) (fun hc => ?_)
    · repeat' (walk_at "s")
      refine wFmod (by decide) fun _ => ?_
      repeat' (walk_at "s")
      have hn : 0 < n := by have := of_decide_eq_true hc; omega
      obtain ⟨n, rfl⟩ : ∃ m, n = m + 1 := ⟨n - 1, by omega⟩
      refine ite_of (fun hd => ?_) (fun hd => ?_)
      · repeat' (walk_at "s")
        refine wFdiv ?_ ?_ fun _ => ?_
        · decide
        · decide
        repeat' (walk_at "s")
        rw [show ((n + 1 : Nat) : Int) - 1 = (n : Int) by omega]
        refine ⟨rfl, n, Nat.lt_succ_self _, rfl, rfl, t'.fdiv 10, _, _, ?_, rfl⟩
        rw [← e, norm, if_pos (beq_iff_eq.mp hd)]
      · repeat' (walk_at "s")
        refine ⟨rfl, rfl, k1, k2, ?_⟩
        have hd : ¬ t'.fmod 10 = 0 := fun q => by rw [q] at hd; cases hd
        rw [← e, norm, if_neg hd]
    · refine ite_f rfl ⟨rfl, rfl, k1, k2, ?_⟩
      have hn : n = 0 := by have := of_decide_eq_false hc; omega
      subst hn
      rw [← e]; rfl
  · rintro b' led' vs ⟨rfl, rfl, k1, k2, rfl⟩
    repeat' (walk_at "s")
    refine .freeze fun b₁ l₁ h₁ => .freeze fun b₂ l₂ h₂ => .done ⟨rfl, rfl, x, dx, _, _, _, _, _, rfl, h₂, l₂ _ _ h₁⟩
section
variable {S : Sc} {X : Cx S} {b : Base} {led : Led} {vs : Vs} {Q : Post Value}
theorem s_Decimal {t : Int} {p : Nat} {k1 k2 : Tok} (hr : Room X 1) (q : ∀ r b', Le b b' → DecAt X.am.w.params b' r (norm t p) → Q r b' led vs) : Wp X (call (.ref 167) [.int t k1, .int p k2]) b led vs Q :=
  wMake (G := f_Decimal_init) (mk_Dec _) (f_Decimal_init_ok X.ok) (by have := hr.1; omega) (fun _ => by kernel_rfl) fun x dx L =>
    wMono (b_Decimal_init _ x dx t p k1 k2) fun fl b' led' _ l ⟨e, e', h⟩ => ⟨e, by rw [e']; exact q _ _ l h⟩
theorem wGetDecTop {x : Value} {d : Dc} {e : Bool} (h : DecAt X.am.w.params b x d) (q : ∀ k, Q (.int d.top k) b led vs) : Wp X (getAttr x (PySem.Str.ofString "top") e) b led vs Q := by
  obtain ⟨x, dx, t1, t2, k1, k2, k, rfl, h1, h2⟩ := h
  exact wGet (.inl h1) (.inl h2) (fo_Dec_top _) (by walk_at "fld") rfl (q _)
theorem wGetDecPl {x : Value} {d : Dc} {e : Bool} (h : DecAt X.am.w.params b x d) (q : ∀ k, Q (.int d.pl k) b led vs) : Wp X (getAttr x (PySem.Str.ofString "places") e) b led vs Q := by
  obtain ⟨x, dx, t1, t2, k1, k2, k, rfl, h1, h2⟩ := h
  exact wGet (.inl h1) (.inl h2) (fo_Dec_pl _) (by walk_at "fld") rfl (q _)
theorem isi_int {n : Int} {k : Tok} {c : Value} {r : Bool} (e : kitOne (K X.am.w.params) (.type "int") c = some r) (q : Q (.bool r) b led vs) : Wp X (call (.builtin "isinstance") [.int n k, c]) b led vs Q :=
  wIsi kitx_int (fun _ _ => trivial) e (fun h => by cases h) q
theorem isi_inst {x dx C : Addr} {c : Value} {o : Obj} {r : Bool} (hx : Has b led x (instObj C dx)) (hd : Has b led dx o) (hi : instOk X.am.w.params C = true) (e : kitOne (K X.am.w.params) (.ref C) c = some r) (q : Q (.bool r) b led vs) : Wp X (call (.builtin "isinstance") [.ref x, c]) b led vs Q :=
  wIsi (kit_inst hi) (fun s H => instAt H hx hd) e (fun h => by cases h) q
end
theorem b_decimal_of (Y : Cx f_decimal_of.sc) {b : Base} {led : Led} {v : Value} {n : Num} (hr : Room Y 1) (h : NumAt Y.am.w.params b v n) :
    Wp Y (execs (bodyOf f_decimal_of.st) Y.env) b led [some v] (fun fl b' led' _ => led' = led ∧ DecAt Y.am.w.params b' (retOf fl) n.dc) := by
  walk_at "body"
  cases n with
  | int n =>
    obtain ⟨k, rfl⟩ := h
    repeat' (walk_at "s")
    refine isi_int (ki_Dec_int _) ?_
    repeat' (walk_at "s")
    refine isi_int (ki_int_bool _) ?_
    repeat' (walk_at "s")
    refine isi_int (ki_int_int _) ?_
    repeat' (walk_at "s")
    refine s_Decimal (p := 0) hr fun r b' l h => ?_
    exact ⟨rfl, h⟩
  | dec d =>
    obtain ⟨x, dx, t1, t2, k1, k2, k, rfl, h1, h2⟩ := h
    repeat' (walk_at "s")
    refine isi_inst (.inl h1) (.inl h2) (io_Dec _) (ki_Dec_Dec _) ?_
    repeat' (walk_at "s")
    exact ⟨rfl, x, dx, _, _, _, _, _, rfl, h1, h2⟩
section
variable {S : Sc} {X : Cx S} {b : Base} {led : Led} {vs : Vs} {Q : Post Value}
theorem Room.sub {n : Nat} {G : FnR} {hG : G.Ok X.am} {L : Addr} (h : Room X (n + 1)) : Room (X.sub G hG X.A X.hh L vs) n := by
  obtain ⟨h1, h2⟩ := h
  exact ⟨by show X.A.depth + 1 + 3 * n < _; omega, by show X.A.units + 3 + 8 * n < _; omega⟩
theorem Room.mk {n : Nat} {G : FnR} {hG : G.Ok X.am} {L : Addr} {C : Addr} {as : List Value} (h : Room X (n + 1)) : Room (X.sub G hG (X.mk' C as) (mk'_h X C as) L vs) n := by
  obtain ⟨h1, h2⟩ := h
  exact ⟨by show X.A.depth + 1 + 1 + 3 * n < _; omega, by show X.A.units + 1 + 3 + 8 * n < _; omega⟩
theorem Room.d {n : Nat} (h : Room X (n + 1)) : X.A.depth < recursionLimit := by have := h.1; omega
theorem Room.le {m n : Nat} (h : Room X n) (k : m ≤ n) : Room X m := ⟨by have := h.1; omega, by have := h.2; omega⟩
theorem s_decimal_of {v : Value} {n : Num} (hr : Room X 2) (h : NumAt X.am.w.params b v n) (q : ∀ r b', Le b b' → DecAt X.am.w.params b' r n.dc → Q r b' led vs) : Wp X (call (.ref 185) [v]) b led vs Q :=
  wDef (G := f_decimal_of) X.hh (f_decimal_of_ok X.ok) hr.d (by kernel_rfl) fun L => wMono (b_decimal_of _ hr.sub h) fun fl b' led' _ l ⟨e, h⟩ => by rw [e]; exact q _ _ l h
end
local macro_rules | `(tactic| walk_at "at") => `(tactic| first | assumption | (refine DecAt.mono (by assumption) ?_; walk_at "sub") | (refine NumAt.mono (by assumption) ?_; walk_at "sub") | fail "no")
local macro_rules | `(tactic| walk_at "s") => `(tactic| first
  | ((with_reducible refine' wGetDecTop ?hd ?_); (case hd => walk_at "at"); intro _)
  | ((with_reducible refine' wGetDecPl ?hd ?_); (case hd => walk_at "at"); intro _) | fail "no")
/-! at one scale, plus, times -/
noncomputable def Small (d : Dc) : Prop := Sz 33554432 1048576 d
theorem toNat_sub (m n : Nat) : ((m : Int) - (n : Int)).toNat = m - n := by omega
theorem max_cast (m n : Nat) : max (m : Int) (n : Int) = ((max m n : Nat) : Int) := by omega
theorem bits_ten : Builtin.Int.intBits 10 = 4 := by kernel_rfl
theorem b_at_one_scale (Y : Cx f_at_one_scale.sc) {b : Base} {led : Led} {v w : Value} {x y : Num} (hr : Room Y 2) (hx : NumAt Y.am.w.params b v x) (hy : NumAt Y.am.w.params b w y) (sx : Small x.dc) (sy : Small y.dc) :
    Wp Y (execs (bodyOf f_at_one_scale.st) Y.env) b led [some v, some w, none, none, none] (fun fl b' led' _ => led' = led ∧ ∃ r t1 t2 t3 k, retOf fl = .ref r ∧
      b' r = some (TO [.int (x.dc.top * 10 ^ (max x.dc.pl y.dc.pl - x.dc.pl)) t1, .int (y.dc.top * 10 ^ (max x.dc.pl y.dc.pl - y.dc.pl)) t2, .int ((max x.dc.pl y.dc.pl : Nat) : Int) t3] k)) := by
  refine wFz ?_
  walk_at "body"
  repeat' (walk_at "s")
  refine s_decimal_of hr hx fun r1 b1 l1 h1 => ?_
  repeat' (walk_at "s")
  refine s_decimal_of hr (hy.mono l1) fun r2 b2 l2 h2 => ?_
  repeat' (walk_at "s")
  refine wMax fun _ => ?_
  rw [max_cast]
  repeat' (walk_at "s")
  have px := sx.2
  have py := sy.2
  refine wPow (by omega) (by rw [bits_ten]; omega) fun _ => ?_
  rw [toNat_sub]
  refine wMul (mulOk sx.1 (abs_ten _) (by omega)) fun _ => ?_
  repeat' (walk_at "s")
  refine wPow (by omega) (by rw [bits_ten]; omega) fun _ => ?_
  rw [toNat_sub]
  refine wMul (mulOk sy.1 (abs_ten _) (by omega)) fun _ => ?_
  repeat' (walk_at "s")
  exact .freeze fun b3 l3 h3 => .done ⟨rfl, _, _, _, _, _, rfl, h3⟩
section
variable {S : Sc} {X : Cx S} {b : Base} {led : Led} {vs : Vs} {Q : Post Value}
theorem s_at_one_scale {v w : Value} {x y : Num} (hr : Room X 3) (hx : NumAt X.am.w.params b v x) (hy : NumAt X.am.w.params b w y) (sx : Small x.dc) (sy : Small y.dc)
    (q : ∀ r t1 t2 t3 k b', Le b b' → b' r = some (TO [.int (x.dc.top * 10 ^ (max x.dc.pl y.dc.pl - x.dc.pl)) t1, .int (y.dc.top * 10 ^ (max x.dc.pl y.dc.pl - y.dc.pl)) t2, .int ((max x.dc.pl y.dc.pl : Nat) : Int) t3] k) → Q (.ref r) b' led vs) : Wp X (call (.ref 192) [v, w]) b led vs Q :=
  wDef (G := f_at_one_scale) X.hh (f_at_one_scale_ok X.ok) hr.d (by kernel_rfl) fun L => wMono (b_at_one_scale _ hr.sub hx hy sx sy) fun fl b' led' _ l ⟨e, r, t1, t2, t3, k, e2, h⟩ => by rw [e, e2]; exact q _ _ _ _ _ _ l h
end
theorem b_plus (Y : Cx f_Decimal_plus.sc) {b : Base} {led : Led} {v w : Value} {x y : Dc} (hr : Room Y 3) (hx : DecAt Y.am.w.params b v x) (hy : DecAt Y.am.w.params b w y) (sx : Small x) (sy : Small y) :
    Wp Y (execs (bodyOf f_Decimal_plus.st) Y.env) b led [some v, some w, none, none, none] (fun fl b' led' _ => led' = led ∧ DecAt Y.am.w.params b' (retOf fl) (x.plus y)) := by
  walk_at "body"
  repeat' (walk_at "s")
  refine s_at_one_scale (x := .dec x) (y := .dec y) hr hx hy sx sy fun r t1 t2 t3 k b1 l1 h1 => ?_
  repeat' (walk_at "s")
  refine s_Decimal (hr.le (by decide)) fun r b' l h => ?_
  exact ⟨rfl, h⟩
theorem b_times (Y : Cx f_Decimal_times.sc) {b : Base} {led : Led} {v w : Value} {x : Dc} {y : Num} (hr : Room Y 3) (hx : DecAt Y.am.w.params b v x) (hy : NumAt Y.am.w.params b w y) (sx : Small x) (sy : Small y.dc) :
    Wp Y (execs (bodyOf f_Decimal_times.st) Y.env) b led [some v, some w, none] (fun fl b' led' _ => led' = led ∧ DecAt Y.am.w.params b' (retOf fl) (x.times y.dc)) := by
  walk_at "body"
  repeat' (walk_at "s")
  refine s_decimal_of (hr.le (by decide)) hy fun r1 b1 l1 h1 => ?_
  have hx := hx.mono l1
  repeat' (walk_at "s")
  refine wMul (mulOk sx.1 sy.1 (by decide)) fun _ => ?_
  repeat' (walk_at "s")
  refine s_Decimal (p := x.pl + y.dc.pl) (hr.le (by decide)) fun r b' l h => ?_
  exact ⟨rfl, h⟩
theorem mo_plus (P : Params) : methOk P 167 94 (PySem.Str.ofString "plus") = true := by kernel_rfl
theorem mo_times (P : Params) : methOk P 167 108 (PySem.Str.ofString "times") = true := by kernel_rfl
theorem mo_told (P : Params) : methOk P 167 150 (PySem.Str.ofString "told") = true := by kernel_rfl
section
variable {S : Sc} {X : Cx S} {b : Base} {led : Led} {vs : Vs} {Q : Post Value}
theorem wMethDec {v : Value} {x : Dc} {f : Addr} {n : String} {pl : Sem Bool} {Q : Post (Value × List Value)} (hx : DecAt X.am.w.params b v x) (hf : methOk X.am.w.params 167 f (PySem.Str.ofString n) = true) (h1 : "top" ≠ n) (h2 : "places" ≠ n) (q : Q (.ref f, [v]) b led vs) :
    Wp X (getMethod v (PySem.Str.ofString n) pl) b led vs Q := by
  obtain ⟨x, dx, t1, t2, k1, k2, k, rfl, h3, h4⟩ := hx
  refine wGetMeth (.inl h3) (.inl h4) hf (fun y hy => ?_) q
  rcases List.mem_cons.mp hy with rfl | hy
  · exact h1
  · rw [List.mem_singleton.mp hy]; exact h2
theorem s_plus {v w : Value} {x y : Dc} (hr : Room X 4) (hx : DecAt X.am.w.params b v x) (hy : DecAt X.am.w.params b w y) (sx : Small x) (sy : Small y) (q : ∀ r b', Le b b' → DecAt X.am.w.params b' r (x.plus y) → Q r b' led vs) : Wp X (call (.ref 94) [v, w]) b led vs Q :=
  wDef (G := f_Decimal_plus) X.hh (f_Decimal_plus_ok X.ok) hr.d (by kernel_rfl) fun L => wMono (b_plus _ hr.sub hx hy sx sy) fun fl b' led' _ l ⟨e, h⟩ => by rw [e]; exact q _ _ l h
theorem s_times {v w : Value} {x : Dc} {y : Num} (hr : Room X 4) (hx : DecAt X.am.w.params b v x) (hy : NumAt X.am.w.params b w y) (sx : Small x) (sy : Small y.dc) (q : ∀ r b', Le b b' → DecAt X.am.w.params b' r (x.times y.dc) → Q r b' led vs) : Wp X (call (.ref 108) [v, w]) b led vs Q :=
  wDef (G := f_Decimal_times) X.hh (f_Decimal_times_ok X.ok) hr.d (by kernel_rfl) fun L => wMono (b_times _ hr.sub hx hy sx sy) fun fl b' led' _ l ⟨e, h⟩ => by rw [e]; exact q _ _ l h
end
local macro_rules | `(tactic| walk_at "s") => `(tactic| first | ((with_reducible refine' wMethDec ?hx ?hf ?h1 ?h2 ?_); (case hx => walk_at "at"); (case hf => first | with_reducible exact mo_plus _ | with_reducible exact mo_times _ | with_reducible exact mo_told _); (case h1 => decide); (case h2 => decide)) | fail "no")
/-! matrices -/
structure Mx where
  a : Dc
  b : Dc
  c : Dc
  d : Dc
  e : Dc
  f : Dc
  deriving DecidableEq
inductive MatAt (P : Params) (b : Base) (v : Value) (m : Mx) : Prop
  | mk (x : _) (dx : _) (v1 : _) (v2 : _) (v3 : _) (v4 : _) (v5 : _) (v6 : _) (t1 : _) (t2 : _) (t3 : _) (t4 : _) (t5 : _) (t6 : _) (k : _) (h1_ : v = .ref x) (h2_ : b x = some (instObj 360 dx)) (h3_ : b dx = some (dictOf (mkEs P [("a", t1, v1), ("b", t2, v2), ("c", t3, v3), ("d", t4, v4), ("e", t5, v5), ("f", t6, v6)]) k)) (h4_ : DecAt P b v1 m.a) (h5_ : DecAt P b v2 m.b) (h6_ : DecAt P b v3 m.c) (h7_ : DecAt P b v4 m.d) (h8_ : DecAt P b v5 m.e) (h9_ : DecAt P b v6 m.f) : MatAt P b v m
theorem MatAt.mono {P : Params} {b b' : Base} {v : Value} {m : Mx} (h : MatAt P b v m) (l : Le b b') : MatAt P b' v m :=
  let ⟨x, dx, v1, v2, v3, v4, v5, v6, t1, t2, t3, t4, t5, t6, k, e, h1, h2, d1, d2, d3, d4, d5, d6⟩ := h
  ⟨x, dx, v1, v2, v3, v4, v5, v6, t1, t2, t3, t4, t5, t6, k, e, l _ _ h1, l _ _ h2, d1.mono l, d2.mono l, d3.mono l, d4.mono l, d5.mono l, d6.mono l⟩
noncomputable def Mz (B P : Nat) (m : Mx) : Prop := Sz B P m.a ∧ Sz B P m.b ∧ Sz B P m.c ∧ Sz B P m.d ∧ Sz B P m.e ∧ Sz B P m.f
theorem fo_Mat_a (P : Params) : fieldOk P 360 (PySem.Str.ofString "a") = true := by kernel_rfl
theorem fo_Mat_b (P : Params) : fieldOk P 360 (PySem.Str.ofString "b") = true := by kernel_rfl
theorem fo_Mat_c (P : Params) : fieldOk P 360 (PySem.Str.ofString "c") = true := by kernel_rfl
theorem fo_Mat_d (P : Params) : fieldOk P 360 (PySem.Str.ofString "d") = true := by kernel_rfl
theorem fo_Mat_e (P : Params) : fieldOk P 360 (PySem.Str.ofString "e") = true := by kernel_rfl
theorem fo_Mat_f (P : Params) : fieldOk P 360 (PySem.Str.ofString "f") = true := by kernel_rfl
inductive MxF : String → (Mx → Dc) → Prop
  | a : MxF "a" Mx.a
  | b : MxF "b" Mx.b
  | c : MxF "c" Mx.c
  | d : MxF "d" Mx.d
  | e : MxF "e" Mx.e
  | f : MxF "f" Mx.f
theorem mk_Mat (P : Params) : makeOk P 360 324 = true := by kernel_rfl
theorem mo_mtimes (P : Params) : methOk P 360 331 (PySem.Str.ofString "times") = true := by kernel_rfl
theorem mo_applied (P : Params) : methOk P 360 338 (PySem.Str.ofString "applied") = true := by kernel_rfl
theorem mo_shifted (P : Params) : methOk P 360 345 (PySem.Str.ofString "shifted") = true := by kernel_rfl
section
variable {S : Sc} {X : Cx S} {b : Base} {led : Led} {vs : Vs} {Q : Post Value}
theorem wGetMat {v : Value} {m : Mx} {n : String} {g : Mx → Dc} {e : Bool} (h : MatAt X.am.w.params b v m) (hf : fieldOk X.am.w.params 360 (PySem.Str.ofString n) = true) (hn : MxF n g) (q : ∀ w, DecAt X.am.w.params b w (g m) → Q w b led vs) : Wp X (getAttr v (PySem.Str.ofString n) e) b led vs Q := by
  obtain ⟨x, dx, v1, v2, v3, v4, v5, v6, t1, t2, t3, t4, t5, t6, k, rfl, h1, h2, d1, d2, d3, d4, d5, d6⟩ := h
  have hh : ∀ {v d}, DecAt X.am.w.params b v d → handedIn v = true := fun ⟨_, _, _, _, _, _, _, e, _, _⟩ => by rw [e]; rfl
  cases hn with
  | a => exact wGet (.inl h1) (.inl h2) hf (by walk_at "fld") (hh d1) (q _ d1)
  | b => exact wGet (.inl h1) (.inl h2) hf (by walk_at "fld") (hh d2) (q _ d2)
  | c => exact wGet (.inl h1) (.inl h2) hf (by walk_at "fld") (hh d3) (q _ d3)
  | d => exact wGet (.inl h1) (.inl h2) hf (by walk_at "fld") (hh d4) (q _ d4)
  | e => exact wGet (.inl h1) (.inl h2) hf (by walk_at "fld") (hh d5) (q _ d5)
  | f => exact wGet (.inl h1) (.inl h2) hf (by walk_at "fld") (hh d6) (q _ d6)
theorem wMethMat {v : Value} {m : Mx} {f : Addr} {n : String} {pl : Sem Bool} {Q : Post (Value × List Value)} (hx : MatAt X.am.w.params b v m) (hf : methOk X.am.w.params 360 f (PySem.Str.ofString n) = true) (hl : ∀ y ∈ ["a", "b", "c", "d", "e", "f"], y ≠ n) (q : Q (.ref f, [v]) b led vs) :
    Wp X (getMethod v (PySem.Str.ofString n) pl) b led vs Q := by
  obtain ⟨x, dx, v1, v2, v3, v4, v5, v6, t1, t2, t3, t4, t5, t6, k, rfl, h1, h2, _⟩ := hx
  exact wGetMeth (.inl h1) (.inl h2) hf (fun y hy => hl _ (List.mem_map_of_mem (f := fun y : String × Nat × Value => y.1) hy)) q
theorem s_timesZ {v w : Value} {x y : Dc} {B P B' P' : Nat} (hr : Room X 4) (hx : DecAt X.am.w.params b v x) (hy : DecAt X.am.w.params b w y) (sx : Sz B P x) (sy : Sz B' P' y) (h1 : B ≤ 33554432 ∧ B' ≤ 33554432) (h2 : P ≤ 1048576 ∧ P' ≤ 1048576)
    (q : ∀ r b', Le b b' → DecAt X.am.w.params b' r (x.times y) → Sz (B + B') (P + P') (x.times y) → Q r b' led vs) : Wp X (call (.ref 108) [v, w]) b led vs Q :=
  s_times (y := .dec y) hr hx hy (sx.mono h1.1 h2.1) (sy.mono h1.2 h2.2) fun r b' l h => q r b' l h (sx.times sy)
theorem s_plusZ {v w : Value} {x y : Dc} {B P B' P' : Nat} (hr : Room X 4) (hx : DecAt X.am.w.params b v x) (hy : DecAt X.am.w.params b w y) (sx : Sz B P x) (sy : Sz B' P' y) (h1 : B ≤ 33554432 ∧ B' ≤ 33554432) (h2 : P ≤ 1048576 ∧ P' ≤ 1048576)
    (q : ∀ r b', Le b b' → DecAt X.am.w.params b' r (x.plus y) → Sz (max B B' + 4 * max P P' + 2) (max P P') (x.plus y) → Q r b' led vs) : Wp X (call (.ref 94) [v, w]) b led vs Q :=
  s_plus hr hx hy (sx.mono h1.1 h2.1) (sy.mono h1.2 h2.2) fun r b' l h => q r b' l h (sx.plus sy)
end
theorem b_Matrix_init (Y : Cx f_Matrix_init.sc) {b : Base} {led : Led} (x dx : Addr) {v1 v2 v3 v4 v5 v6 : Value} {n1 n2 n3 n4 n5 n6 : Num} (hr : Room Y 2) (h1 : NumAt Y.am.w.params b v1 n1) (h2 : NumAt Y.am.w.params b v2 n2) (h3 : NumAt Y.am.w.params b v3 n3) (h4 : NumAt Y.am.w.params b v4 n4) (h5 : NumAt Y.am.w.params b v5 n5) (h6 : NumAt Y.am.w.params b v6 n6) :
    Wp Y (execs (bodyOf f_Matrix_init.st) Y.env) b ((dx, dictOf (mkEs Y.am.w.params []) 0) :: (x, instObj 360 dx) :: led) [some (.ref x), some v1, some v2, some v3, some v4, some v5, some v6]
      (fun fl b' led' _ => retOf fl = .none ∧ led' = led ∧ MatAt Y.am.w.params b' (.ref x) ⟨n1.dc, n2.dc, n3.dc, n4.dc, n5.dc, n6.dc⟩) := by
  refine wFz ?_
  walk_at "body"
  repeat' (walk_at "s")
  refine s_decimal_of hr h1 fun r1 b1 l1 d1 => ?_
  repeat' (walk_at "s")
  refine s_decimal_of hr (by walk_at "at") fun r2 b2 l2 d2 => ?_
  repeat' (walk_at "s")
  refine s_decimal_of hr (by walk_at "at") fun r3 b3 l3 d3 => ?_
  repeat' (walk_at "s")
  refine s_decimal_of hr (by walk_at "at") fun r4 b4 l4 d4 => ?_
  repeat' (walk_at "s")
  refine s_decimal_of hr (by walk_at "at") fun r5 b5 l5 d5 => ?_
  repeat' (walk_at "s")
  refine s_decimal_of hr (by walk_at "at") fun r6 b6 l6 d6 => ?_
  repeat' (walk_at "s")
  refine .freeze fun b7 l7 h7 => .freeze fun b8 l8 h8 => .done ⟨rfl, rfl, x, dx, _, _, _, _, _, _, _, _, _, _, _, _, _, rfl, h8, l8 _ _ h7, ?_, ?_, ?_, ?_, ?_, ?_⟩ <;> walk_at "at"
section
variable {S : Sc} {X : Cx S} {b : Base} {led : Led} {vs : Vs} {Q : Post Value}
theorem s_Matrix {v1 v2 v3 v4 v5 v6 : Value} {n1 n2 n3 n4 n5 n6 : Num} (hr : Room X 3) (h1 : NumAt X.am.w.params b v1 n1) (h2 : NumAt X.am.w.params b v2 n2) (h3 : NumAt X.am.w.params b v3 n3) (h4 : NumAt X.am.w.params b v4 n4) (h5 : NumAt X.am.w.params b v5 n5) (h6 : NumAt X.am.w.params b v6 n6)
    (q : ∀ r b', Le b b' → MatAt X.am.w.params b' r ⟨n1.dc, n2.dc, n3.dc, n4.dc, n5.dc, n6.dc⟩ → Q r b' led vs) : Wp X (call (.ref 360) [v1, v2, v3, v4, v5, v6]) b led vs Q :=
  wMake (G := f_Matrix_init) (mk_Mat _) (f_Matrix_init_ok X.ok) (by have := hr.1; omega) (fun _ => by kernel_rfl) fun x dx L =>
    wMono (b_Matrix_init _ x dx hr.mk h1 h2 h3 h4 h5 h6) fun fl b' led' _ l ⟨e, e', h⟩ => ⟨e, by rw [e']; exact q _ _ l h⟩
theorem s_MatrixD {v1 v2 v3 v4 v5 v6 : Value} {n1 n2 n3 n4 n5 n6 : Dc} (hr : Room X 3) (h1 : DecAt X.am.w.params b v1 n1) (h2 : DecAt X.am.w.params b v2 n2) (h3 : DecAt X.am.w.params b v3 n3) (h4 : DecAt X.am.w.params b v4 n4) (h5 : DecAt X.am.w.params b v5 n5) (h6 : DecAt X.am.w.params b v6 n6)
    (q : ∀ r b', Le b b' → MatAt X.am.w.params b' r ⟨n1, n2, n3, n4, n5, n6⟩ → Q r b' led vs) : Wp X (call (.ref 360) [v1, v2, v3, v4, v5, v6]) b led vs Q :=
  s_Matrix (n1 := .dec n1) (n2 := .dec n2) (n3 := .dec n3) (n4 := .dec n4) (n5 := .dec n5) (n6 := .dec n6) hr h1 h2 h3 h4 h5 h6 q
end
local macro_rules | `(tactic| walk_at "at") => `(tactic| first | (refine MatAt.mono (by assumption) ?_; walk_at "sub") | fail "no")
local macro_rules | `(tactic| walk_at "s") => `(tactic| first
  | ((with_reducible refine' wGetMat ?hx ?hf ?hn ?_); (case hx => walk_at "at"); (case hn => constructor); (case hf => first | with_reducible exact fo_Mat_a _ | with_reducible exact fo_Mat_b _ | with_reducible exact fo_Mat_c _ | with_reducible exact fo_Mat_d _ | with_reducible exact fo_Mat_e _ | with_reducible exact fo_Mat_f _); intro _ _)
  | ((with_reducible refine' wMethMat ?hx ?hf ?hl ?_); (case hx => walk_at "at"); (case hf => first | with_reducible exact mo_mtimes _ | with_reducible exact mo_applied _ | with_reducible exact mo_shifted _); (case hl => decide)) | fail "no")
noncomputable def Mx.app (m : Mx) (x y : Dc) : Dc × Dc := (((m.a.times x).plus (m.c.times y)).plus m.e, ((m.b.times x).plus (m.d.times y)).plus m.f)
noncomputable def Mx.shf (m : Mx) (x y : Dc) : Dc × Dc := ((m.a.times x).plus (m.c.times y), (m.b.times x).plus (m.d.times y))
noncomputable def Mx.mul (m n : Mx) : Mx := ⟨(m.a.times n.a).plus (m.b.times n.c), (m.a.times n.b).plus (m.b.times n.d), (m.c.times n.a).plus (m.d.times n.c), (m.c.times n.b).plus (m.d.times n.d), (n.app m.e m.f).1, (n.app m.e m.f).2⟩
theorem b_applied (Y : Cx f_Matrix_applied.sc) {b : Base} {led : Led} {v v1 v2 : Value} {m : Mx} {x y : Dc} {B P B' P' : Nat} (hr : Room Y 4) (hm : MatAt Y.am.w.params b v m) (h1 : DecAt Y.am.w.params b v1 x) (h2 : DecAt Y.am.w.params b v2 y) (zm : Mz B P m) (z1 : Sz B' P' x) (z2 : Sz B' P' y)
    (hB : B + B' + 8 * (P + P') + 8 ≤ 33554432) (hP : P + P' ≤ 1048576) :
    Wp Y (execs (bodyOf f_Matrix_applied.st) Y.env) b led [some v, some v1, some v2, none, none] (fun fl b' led' _ => led' = led ∧ ∃ r w1 w2 k, retOf fl = .ref r ∧ b' r = some (TO [w1, w2] k) ∧ DecAt Y.am.w.params b' w1 (m.app x y).1 ∧ DecAt Y.am.w.params b' w2 (m.app x y).2 ∧
      Sz (B + B' + 8 * (P + P') + 4) (P + P') (m.app x y).1 ∧ Sz (B + B' + 8 * (P + P') + 4) (P + P') (m.app x y).2) := by
  obtain ⟨za, zb, zc, zd, ze, zf⟩ := zm
  refine wFz ?_
  walk_at "body"
  repeat' (walk_at "s")
  refine s_timesZ hr (by walk_at "at") (by walk_at "at") za z1 (by lia) (by lia) fun r1 b1 l1 d1 y1 => ?_
  repeat' (walk_at "s")
  refine s_timesZ hr (by walk_at "at") (by walk_at "at") zc z2 (by lia) (by lia) fun r2 b2 l2 d2 y2 => ?_
  repeat' (walk_at "s")
  refine s_plusZ hr (by walk_at "at") (by walk_at "at") y1 y2 (by lia) (by lia) fun r3 b3 l3 d3 y3 => ?_
  repeat' (walk_at "s")
  refine s_plusZ hr (by walk_at "at") (by walk_at "at") y3 ze (by lia) (by lia) fun r4 b4 l4 d4 y4 => ?_
  repeat' (walk_at "s")
  refine s_timesZ hr (by walk_at "at") (by walk_at "at") zb z1 (by lia) (by lia) fun r5 b5 l5 d5 y5 => ?_
  repeat' (walk_at "s")
  refine s_timesZ hr (by walk_at "at") (by walk_at "at") zd z2 (by lia) (by lia) fun r6 b6 l6 d6 y6 => ?_
  repeat' (walk_at "s")
  refine s_plusZ hr (by walk_at "at") (by walk_at "at") y5 y6 (by lia) (by lia) fun r7 b7 l7 d7 y7 => ?_
  repeat' (walk_at "s")
  refine s_plusZ hr (by walk_at "at") (by walk_at "at") y7 zf (by lia) (by lia) fun r8 b8 l8 d8 y8 => ?_
  repeat' (walk_at "s")
  exact .freeze fun b9 l9 h9 => .done ⟨rfl, _, _, _, _, rfl, h9, by walk_at "at", by walk_at "at", y4.mono (by lia) (by lia), y8.mono (by lia) (by lia)⟩
theorem b_shifted (Y : Cx f_Matrix_shifted.sc) {b : Base} {led : Led} {v v1 v2 : Value} {m : Mx} {x y : Num} {B P B' P' : Nat} (hr : Room Y 4) (hm : MatAt Y.am.w.params b v m) (h1 : NumAt Y.am.w.params b v1 x) (h2 : NumAt Y.am.w.params b v2 y) (zm : Mz B P m) (z1 : Sz B' P' x.dc) (z2 : Sz B' P' y.dc)
    (hB : B + B' + 4 * (P + P') + 8 ≤ 33554432) (hP : P + P' ≤ 1048576) :
    Wp Y (execs (bodyOf f_Matrix_shifted.st) Y.env) b led [some v, some v1, some v2, none, none] (fun fl b' led' _ => led' = led ∧ ∃ r w1 w2 k, retOf fl = .ref r ∧ b' r = some (TO [w1, w2] k) ∧ DecAt Y.am.w.params b' w1 (m.shf x.dc y.dc).1 ∧ DecAt Y.am.w.params b' w2 (m.shf x.dc y.dc).2 ∧
      Sz (B + B' + 4 * (P + P') + 2) (P + P') (m.shf x.dc y.dc).1 ∧ Sz (B + B' + 4 * (P + P') + 2) (P + P') (m.shf x.dc y.dc).2) := by
  obtain ⟨za, zb, zc, zd, ze, zf⟩ := zm
  refine wFz ?_
  walk_at "body"
  repeat' (walk_at "s")
  refine s_times (y := x) hr (by walk_at "at") (by walk_at "at") (za.mono (by lia) (by lia)) (z1.mono (by lia) (by lia)) fun r1 b1 l1 d1 => ?_
  repeat' (walk_at "s")
  refine s_times (y := y) hr (by walk_at "at") (by walk_at "at") (zc.mono (by lia) (by lia)) (z2.mono (by lia) (by lia)) fun r2 b2 l2 d2 => ?_
  repeat' (walk_at "s")
  refine s_plusZ hr (by walk_at "at") (by walk_at "at") (za.times z1) (zc.times z2) (by lia) (by lia) fun r3 b3 l3 d3 y3 => ?_
  repeat' (walk_at "s")
  refine s_times (y := x) hr (by walk_at "at") (by walk_at "at") (zb.mono (by lia) (by lia)) (z1.mono (by lia) (by lia)) fun r5 b5 l5 d5 => ?_
  repeat' (walk_at "s")
  refine s_times (y := y) hr (by walk_at "at") (by walk_at "at") (zd.mono (by lia) (by lia)) (z2.mono (by lia) (by lia)) fun r6 b6 l6 d6 => ?_
  repeat' (walk_at "s")
  refine s_plusZ hr (by walk_at "at") (by walk_at "at") (zb.times z1) (zd.times z2) (by lia) (by lia) fun r7 b7 l7 d7 y7 => ?_
  repeat' (walk_at "s")
  exact .freeze fun b9 l9 h9 => .done ⟨rfl, _, _, _, _, rfl, h9, by walk_at "at", by walk_at "at", y3.mono (by lia) (by lia), y7.mono (by lia) (by lia)⟩
/-! matrices: products -/
section
variable {S : Sc} {X : Cx S} {b : Base} {led : Led} {vs : Vs} {Q : Post Value}
theorem s_applied {v v1 v2 : Value} {m : Mx} {x y : Dc} {B P B' P' : Nat} (hr : Room X 5) (hm : MatAt X.am.w.params b v m) (h1 : DecAt X.am.w.params b v1 x) (h2 : DecAt X.am.w.params b v2 y) (zm : Mz B P m) (z1 : Sz B' P' x) (z2 : Sz B' P' y)
    (hB : B + B' + 8 * (P + P') + 8 ≤ 33554432) (hP : P + P' ≤ 1048576)
    (q : ∀ r w1 w2 k b', Le b b' → b' r = some (TO [w1, w2] k) → DecAt X.am.w.params b' w1 (m.app x y).1 → DecAt X.am.w.params b' w2 (m.app x y).2 →
      Sz (B + B' + 8 * (P + P') + 4) (P + P') (m.app x y).1 → Sz (B + B' + 8 * (P + P') + 4) (P + P') (m.app x y).2 → Q (.ref r) b' led vs) : Wp X (call (.ref 338) [v, v1, v2]) b led vs Q :=
  wDef (G := f_Matrix_applied) X.hh (f_Matrix_applied_ok X.ok) hr.d (by kernel_rfl) fun L => wMono (b_applied _ hr.sub hm h1 h2 zm z1 z2 hB hP) fun fl b' led' _ l ⟨e, r, w1, w2, k, e2, h, d1, d2, y1, y2⟩ => by rw [e, e2]; exact q _ _ _ _ _ l h d1 d2 y1 y2
theorem s_shifted {v v1 v2 : Value} {m : Mx} {x y : Num} {B P B' P' : Nat} (hr : Room X 5) (hm : MatAt X.am.w.params b v m) (h1 : NumAt X.am.w.params b v1 x) (h2 : NumAt X.am.w.params b v2 y) (zm : Mz B P m) (z1 : Sz B' P' x.dc) (z2 : Sz B' P' y.dc)
    (hB : B + B' + 4 * (P + P') + 8 ≤ 33554432) (hP : P + P' ≤ 1048576)
    (q : ∀ r w1 w2 k b', Le b b' → b' r = some (TO [w1, w2] k) → DecAt X.am.w.params b' w1 (m.shf x.dc y.dc).1 → DecAt X.am.w.params b' w2 (m.shf x.dc y.dc).2 →
      Sz (B + B' + 4 * (P + P') + 2) (P + P') (m.shf x.dc y.dc).1 → Sz (B + B' + 4 * (P + P') + 2) (P + P') (m.shf x.dc y.dc).2 → Q (.ref r) b' led vs) : Wp X (call (.ref 345) [v, v1, v2]) b led vs Q :=
  wDef (G := f_Matrix_shifted) X.hh (f_Matrix_shifted_ok X.ok) hr.d (by kernel_rfl) fun L => wMono (b_shifted _ hr.sub hm h1 h2 zm z1 z2 hB hP) fun fl b' led' _ l ⟨e, r, w1, w2, k, e2, h, d1, d2, y1, y2⟩ => by rw [e, e2]; exact q _ _ _ _ _ l h d1 d2 y1 y2
end
theorem b_mtimes (Y : Cx f_Matrix_times.sc) {b : Base} {led : Led} {v w : Value} {m n : Mx} {B P B' P' : Nat} (hr : Room Y 6) (hm : MatAt Y.am.w.params b v m) (hn : MatAt Y.am.w.params b w n) (zm : Mz B P m) (zn : Mz B' P' n)
    (hB : B + B' + 8 * (P + P') + 8 ≤ 33554432) (hP : P + P' ≤ 1048576) :
    Wp Y (execs (bodyOf f_Matrix_times.st) Y.env) b led [some v, some w, none, none, none, none, none, none] (fun fl b' led' _ => led' = led ∧ MatAt Y.am.w.params b' (retOf fl) (m.mul n) ∧ Mz (B + B' + 8 * (P + P') + 4) (P + P') (m.mul n)) := by
  obtain ⟨za, zb, zc, zd, ze, zf⟩ := zm
  obtain ⟨ya, yb, yc, yd, ye, yf⟩ := id zn
  have hr4 : Room Y 4 := hr.le (by decide)
  refine wFz ?_
  walk_at "body"
  repeat' (walk_at "s")
  refine s_timesZ hr4 (by walk_at "at") (by walk_at "at") za ya (by lia) (by lia) fun r1 b1 l1 d1 y1 => ?_
  repeat' (walk_at "s")
  refine s_timesZ hr4 (by walk_at "at") (by walk_at "at") zb yc (by lia) (by lia) fun r2 b2 l2 d2 y2 => ?_
  repeat' (walk_at "s")
  refine s_plusZ hr4 (by walk_at "at") (by walk_at "at") y1 y2 (by lia) (by lia) fun r3 b3 l3 d3 y3 => ?_
  repeat' (walk_at "s")
  refine s_timesZ hr4 (by walk_at "at") (by walk_at "at") za yb (by lia) (by lia) fun r4 b4 l4 d4 y4 => ?_
  repeat' (walk_at "s")
  refine s_timesZ hr4 (by walk_at "at") (by walk_at "at") zb yd (by lia) (by lia) fun r5 b5 l5 d5 y5 => ?_
  repeat' (walk_at "s")
  refine s_plusZ hr4 (by walk_at "at") (by walk_at "at") y4 y5 (by lia) (by lia) fun r6 b6 l6 d6 y6 => ?_
  repeat' (walk_at "s")
  refine s_timesZ hr4 (by walk_at "at") (by walk_at "at") zc ya (by lia) (by lia) fun r7 b7 l7 d7 y7 => ?_
  repeat' (walk_at "s")
  refine s_timesZ hr4 (by walk_at "at") (by walk_at "at") zd yc (by lia) (by lia) fun r8 b8 l8 d8 y8 => ?_
  repeat' (walk_at "s")
  refine s_plusZ hr4 (by walk_at "at") (by walk_at "at") y7 y8 (by lia) (by lia) fun r9 b9 l9 d9 y9 => ?_
  repeat' (walk_at "s")
  refine s_timesZ hr4 (by walk_at "at") (by walk_at "at") zc yb (by lia) (by lia) fun r10 b10 l10 d10 y10 => ?_
  repeat' (walk_at "s")
  refine s_timesZ hr4 (by walk_at "at") (by walk_at "at") zd yd (by lia) (by lia) fun r11 b11 l11 d11 y11 => ?_
  repeat' (walk_at "s")
  refine s_plusZ hr4 (by walk_at "at") (by walk_at "at") y10 y11 (by lia) (by lia) fun r12 b12 l12 d12 y12 => ?_
  repeat' (walk_at "s")
  refine s_applied (hr.le (by decide)) (by walk_at "at") (by walk_at "at") (by walk_at "at") zn ze zf (by lia) (by lia) fun r13 w1 w2 k b13 l13 h13 d13 d14 y13 y14 => ?_
  repeat' (walk_at "s")
  refine s_MatrixD (hr.le (by decide)) (by walk_at "at") (by walk_at "at") (by walk_at "at") (by walk_at "at") (by walk_at "at") (by walk_at "at") fun r b14 l14 hM => ?_
  refine .done ⟨rfl, hM, y3.mono (by lia) (by lia), y6.mono (by lia) (by lia), y9.mono (by lia) (by lia), y12.mono (by lia) (by lia), y13.mono (by lia) (by lia), y14.mono (by lia) (by lia)⟩
section
variable {S : Sc} {X : Cx S} {b : Base} {led : Led} {vs : Vs} {Q : Post Value}
theorem s_mtimes {v w : Value} {m n : Mx} {B P B' P' : Nat} (hr : Room X 7) (hm : MatAt X.am.w.params b v m) (hn : MatAt X.am.w.params b w n) (zm : Mz B P m) (zn : Mz B' P' n)
    (hB : B + B' + 8 * (P + P') + 8 ≤ 33554432) (hP : P + P' ≤ 1048576)
    (q : ∀ r b', Le b b' → MatAt X.am.w.params b' r (m.mul n) → Mz (B + B' + 8 * (P + P') + 4) (P + P') (m.mul n) → Q r b' led vs) : Wp X (call (.ref 331) [v, w]) b led vs Q :=
  wDef (G := f_Matrix_times) X.hh (f_Matrix_times_ok X.ok) hr.d (by kernel_rfl) fun L => wMono (b_mtimes _ hr.sub hm hn zm zn hB hP) fun fl b' led' _ l ⟨e, h, z⟩ => by rw [e]; exact q _ _ l h z
end
noncomputable def Mx.one : Mx := ⟨⟨1, 0⟩, ⟨0, 0⟩, ⟨0, 0⟩, ⟨1, 0⟩, ⟨0, 0⟩, ⟨0, 0⟩⟩
noncomputable def Mx.tr (x y : Num) : Mx := ⟨⟨1, 0⟩, ⟨0, 0⟩, ⟨0, 0⟩, ⟨1, 0⟩, x.dc, y.dc⟩
theorem b_identity (Y : Cx f_identity.sc) {b : Base} {led : Led} (hr : Room Y 3) : Wp Y (execs (bodyOf f_identity.st) Y.env) b led [] (fun fl b' led' _ => led' = led ∧ MatAt Y.am.w.params b' (retOf fl) Mx.one) := by
  walk_at "body"
  repeat' (walk_at "s")
  refine s_Matrix (n1 := .int 1) (n2 := .int 0) (n3 := .int 0) (n4 := .int 1) (n5 := .int 0) (n6 := .int 0) hr ⟨_, rfl⟩ ⟨_, rfl⟩ ⟨_, rfl⟩ ⟨_, rfl⟩ ⟨_, rfl⟩ ⟨_, rfl⟩ fun r b' l h => ⟨rfl, h⟩
theorem b_translation (Y : Cx f_translation.sc) {b : Base} {led : Led} {v w : Value} {x y : Num} (hr : Room Y 3) (hx : NumAt Y.am.w.params b v x) (hy : NumAt Y.am.w.params b w y) : Wp Y (execs (bodyOf f_translation.st) Y.env) b led [some v, some w] (fun fl b' led' _ => led' = led ∧ MatAt Y.am.w.params b' (retOf fl) (Mx.tr x y)) := by
  walk_at "body"
  repeat' (walk_at "s")
  refine s_Matrix (n1 := .int 1) (n2 := .int 0) (n3 := .int 0) (n4 := .int 1) (n5 := x) (n6 := y) hr ⟨_, rfl⟩ ⟨_, rfl⟩ ⟨_, rfl⟩ ⟨_, rfl⟩ (by walk_at "at") (by walk_at "at") fun r b' l h => ⟨rfl, h⟩
structure Six where
  a : Num
  b : Num
  c : Num
  d : Num
  e : Num
  f : Num
  deriving DecidableEq
noncomputable def Six.mx (s : Six) : Mx := ⟨s.a.dc, s.b.dc, s.c.dc, s.d.dc, s.e.dc, s.f.dc⟩
/-- a list of six numbers -/
inductive SixAt (P : Params) (b : Base) (v : Value) (s : Six) : Prop
  | mk (x : _) (o : _) (v1 : _) (v2 : _) (v3 : _) (v4 : _) (v5 : _) (v6 : _) (h1_ : v = .ref x) (h2_ : b x = some o) (h3_ : IsLO [v1, v2, v3, v4, v5, v6] o) (h4_ : NumAt P b v1 s.a) (h5_ : NumAt P b v2 s.b) (h6_ : NumAt P b v3 s.c) (h7_ : NumAt P b v4 s.d) (h8_ : NumAt P b v5 s.e) (h9_ : NumAt P b v6 s.f) : SixAt P b v s
theorem SixAt.mono {P : Params} {b b' : Base} {v : Value} {s : Six} (h : SixAt P b v s) (l : Le b b') : SixAt P b' v s :=
  let ⟨x, o, v1, v2, v3, v4, v5, v6, e, h, ho, h1, h2, h3, h4, h5, h6⟩ := h
  ⟨x, o, v1, v2, v3, v4, v5, v6, e, l _ _ h, ho, h1.mono l, h2.mono l, h3.mono l, h4.mono l, h5.mono l, h6.mono l⟩
theorem ki_list_list (P : Params) : kitOne (K P) (.type "list") (.type "list") = some true := by kernel_rfl
section
variable {S : Sc} {X : Cx S} {b : Base} {led : Led} {vs : Vs} {Q : Post Value}
theorem isi_list {x : Addr} {o : Obj} {us : List Value} {c : Value} {r : Bool} (hx : Has b led x o) (ho : IsLO us o) (e : kitOne (K X.am.w.params) (.type "list") c = some r) (q : Q (.bool r) b led vs) : Wp X (call (.builtin "isinstance") [.ref x, c]) b led vs Q :=
  wIsi kitx_list (fun _ H => ⟨o, hx.get H, ho.1⟩) e (fun h => by cases h) q
end
theorem b_from_array (Y : Cx f_from_array.sc) {b : Base} {led : Led} {v : Value} {s : Six} (hr : Room Y 3) (h : SixAt Y.am.w.params b v s) : Wp Y (execs (bodyOf f_from_array.st) Y.env) b led [some v] (fun fl b' led' _ => led' = led ∧ MatAt Y.am.w.params b' (retOf fl) s.mx) := by
  obtain ⟨x, o, v1, v2, v3, v4, v5, v6, rfl, h, ho, h1, h2, h3, h4, h5, h6⟩ := h
  walk_at "body"
  repeat' (walk_at "s")
  refine isi_list (.inl h) ho (ki_list_list _) ?_
  repeat' (walk_at "s")
  refine wLenL (.inl h) ho (by simp) fun _ => ?_
  repeat' (walk_at "s")
  refine wItemL (.inl h) ho (by decide) (by decide) rfl rfl ?_
  repeat' (walk_at "s")
  refine wItemL (.inl h) ho (by decide) (by decide) rfl rfl ?_
  repeat' (walk_at "s")
  refine wItemL (.inl h) ho (by decide) (by decide) rfl rfl ?_
  repeat' (walk_at "s")
  refine wItemL (.inl h) ho (by decide) (by decide) rfl rfl ?_
  repeat' (walk_at "s")
  refine wItemL (.inl h) ho (by decide) (by decide) rfl rfl ?_
  repeat' (walk_at "s")
  refine wItemL (.inl h) ho (by decide) (by decide) rfl rfl ?_
  repeat' (walk_at "s")
  refine s_Matrix hr h1 h2 h3 h4 h5 h6 fun r b' l h => ⟨rfl, h⟩
theorem b_along (Y : Cx f_along.sc) {b : Base} {led : Led} {v w : Value} {m : Mx} {x : Dc} {B P B' P' : Nat} (hr : Room Y 5) (hm : MatAt Y.am.w.params b v m) (hx : DecAt Y.am.w.params b w x) (zm : Mz B P m) (zx : Sz B' P' x) (h1 : 1 ≤ B')
    (hB : B + B' + 8 * (P + P') + 8 ≤ 33554432) (hP : P + P' ≤ 1048576) :
    Wp Y (execs (bodyOf f_along.st) Y.env) b led [some v, some w, none, none] (fun fl b' led' _ => led' = led ∧ MatAt Y.am.w.params b' (retOf fl) ⟨m.a, m.b, m.c, m.d, m.e.plus (m.shf x ⟨0, 0⟩).1, m.f.plus (m.shf x ⟨0, 0⟩).2⟩ ∧
      Mz (B + B' + 8 * (P + P') + 4) (P + P') ⟨m.a, m.b, m.c, m.d, m.e.plus (m.shf x ⟨0, 0⟩).1, m.f.plus (m.shf x ⟨0, 0⟩).2⟩) := by
  obtain ⟨za, zb, zc, zd, ze, zf⟩ := id zm
  have z0 : Sz B' P' ⟨0, 0⟩ := ⟨Nat.two_pow_pos _, Nat.zero_le _⟩
  walk_at "body"
  repeat' (walk_at "s")
  refine s_shifted (x := .dec x) (y := .int 0) hr hm hx ⟨_, rfl⟩ zm zx z0 (by lia) (by lia) fun r1 w1 w2 k b1 l1 h1 d1 d2 y1 y2 => ?_
  repeat' (walk_at "s")
  refine s_plusZ (hr.le (by decide)) (by walk_at "at") (by walk_at "at") ze y1 (by lia) (by lia) fun r3 b3 l3 d3 y3 => ?_
  repeat' (walk_at "s")
  refine s_plusZ (hr.le (by decide)) (by walk_at "at") (by walk_at "at") zf y2 (by lia) (by lia) fun r4 b4 l4 d4 y4 => ?_
  repeat' (walk_at "s")
  refine s_MatrixD (hr.le (by decide)) (by walk_at "at") (by walk_at "at") (by walk_at "at") (by walk_at "at") (by walk_at "at") (by walk_at "at") fun r b14 l14 hM => ?_
  refine ⟨rfl, hM, za.mono (by lia) (by lia), zb.mono (by lia) (by lia), zc.mono (by lia) (by lia), zd.mono (by lia) (by lia), y3.mono (by lia) (by lia), y4.mono (by lia) (by lia)⟩
noncomputable def Mx.alg (m : Mx) (x : Dc) : Mx := ⟨m.a, m.b, m.c, m.d, m.e.plus (m.shf x ⟨0, 0⟩).1, m.f.plus (m.shf x ⟨0, 0⟩).2⟩
section
variable {S : Sc} {X : Cx S} {b : Base} {led : Led} {vs : Vs} {Q : Post Value}
theorem s_identity (hr : Room X 4) (q : ∀ r b', Le b b' → MatAt X.am.w.params b' r Mx.one → Q r b' led vs) : Wp X (call (.ref 371) []) b led vs Q :=
  wDef (G := f_identity) X.hh (f_identity_ok X.ok) hr.d (by kernel_rfl) fun L => wMono (b_identity _ hr.sub) fun fl b' led' _ l ⟨e, h⟩ => by rw [e]; exact q _ _ l h
theorem s_translation {v w : Value} {x y : Num} (hr : Room X 4) (hx : NumAt X.am.w.params b v x) (hy : NumAt X.am.w.params b w y) (q : ∀ r b', Le b b' → MatAt X.am.w.params b' r (Mx.tr x y) → Q r b' led vs) : Wp X (call (.ref 378) [v, w]) b led vs Q :=
  wDef (G := f_translation) X.hh (f_translation_ok X.ok) hr.d (by kernel_rfl) fun L => wMono (b_translation _ hr.sub hx hy) fun fl b' led' _ l ⟨e, h⟩ => by rw [e]; exact q _ _ l h
theorem s_from_array {v : Value} {s : Six} (hr : Room X 4) (h : SixAt X.am.w.params b v s) (q : ∀ r b', Le b b' → MatAt X.am.w.params b' r s.mx → Q r b' led vs) : Wp X (call (.ref 385) [v]) b led vs Q :=
  wDef (G := f_from_array) X.hh (f_from_array_ok X.ok) hr.d (by kernel_rfl) fun L => wMono (b_from_array _ hr.sub h) fun fl b' led' _ l ⟨e, h⟩ => by rw [e]; exact q _ _ l h
theorem s_along {v w : Value} {m : Mx} {x : Dc} {B P B' P' : Nat} (hr : Room X 6) (hm : MatAt X.am.w.params b v m) (hx : DecAt X.am.w.params b w x) (zm : Mz B P m) (zx : Sz B' P' x) (h1 : 1 ≤ B')
    (hB : B + B' + 8 * (P + P') + 8 ≤ 33554432) (hP : P + P' ≤ 1048576) (q : ∀ r b', Le b b' → MatAt X.am.w.params b' r (m.alg x) → Mz (B + B' + 8 * (P + P') + 4) (P + P') (m.alg x) → Q r b' led vs) : Wp X (call (.ref 523) [v, w]) b led vs Q :=
  wDef (G := f_along) X.hh (f_along_ok X.ok) hr.d (by kernel_rfl) fun L => wMono (b_along _ hr.sub hm hx zm zx h1 hB hP) fun fl b' led' _ l ⟨e, h, z⟩ => by rw [e]; exact q _ _ l h z
end
/-! told of a decimal -/
inductive TellAt (b : Base) (v : Value) (d : Dc) : Prop
  | mk (r : _) (t1 : _) (t2 : _) (k : _) (h1_ : v = .ref r) (h2_ : b r = some (TO [.int d.top t1, .int d.pl t2] k)) : TellAt b v d
theorem TellAt.mono {b b' : Base} {v : Value} {d : Dc} (h : TellAt b v d) (l : Le b b') : TellAt b' v d := let ⟨r, t1, t2, k, e, h⟩ := h; ⟨r, t1, t2, k, e, l _ _ h⟩
theorem b_dtold (Y : Cx f_Decimal_told.sc) {b : Base} {led : Led} {v : Value} {x : Dc} (h : DecAt Y.am.w.params b v x) : Wp Y (execs (bodyOf f_Decimal_told.st) Y.env) b led [some v] (fun fl b' led' _ => led' = led ∧ TellAt b' (retOf fl) x) := by
  refine wFz ?_
  walk_at "body"
  repeat' (walk_at "s")
  exact .freeze fun b9 l9 h9 => .done ⟨rfl, _, _, _, _, rfl, h9⟩
section
variable {S : Sc} {X : Cx S} {b : Base} {led : Led} {vs : Vs} {Q : Post Value}
theorem s_dtold {v : Value} {x : Dc} (hr : Room X 1) (h : DecAt X.am.w.params b v x) (q : ∀ r b', Le b b' → TellAt b' r x → Q r b' led vs) : Wp X (call (.ref 150) [v]) b led vs Q :=
  wDef (G := f_Decimal_told) X.hh (f_Decimal_told_ok X.ok) hr.d (by kernel_rfl) fun L => wMono (b_dtold _ h) fun fl b' led' _ l ⟨e, h⟩ => by rw [e]; exact q _ _ l h
end
local macro_rules | `(tactic| walk_at "at") => `(tactic| first | (refine SixAt.mono (by assumption) ?_; walk_at "sub") | (refine TellAt.mono (by assumption) ?_; walk_at "sub") | fail "no")
/-! instances, frozen -/
inductive IA (P : Params) (b : Base) (v : Value) (C : Addr) (fs : Fs) : Prop
  | mk (x : _) (dx : _) (k : _) (h1_ : v = .ref x) (h2_ : b x = some (instObj C dx)) (h3_ : b dx = some (dictOf (mkEs P fs) k)) : IA P b v C fs
theorem IA.mono {P : Params} {b b' : Base} {v : Value} {C : Addr} {fs : Fs} (h : IA P b v C fs) (l : Le b b') : IA P b' v C fs := let ⟨x, dx, k, e, h1, h2⟩ := h; ⟨x, dx, k, e, l _ _ h1, l _ _ h2⟩
theorem IA.handed {P : Params} {b : Base} {v : Value} {C : Addr} {fs : Fs} (h : IA P b v C fs) : handedIn v = true := by obtain ⟨x, dx, k, rfl, _⟩ := h; rfl
theorem DecAt.ia {P : Params} {b : Base} {v : Value} {d : Dc} (h : DecAt P b v d) : ∃ t1 t2 k1 k2, IA P b v 167 [("top", t1, .int d.top k1), ("places", t2, .int d.pl k2)] := let ⟨x, dx, t1, t2, k1, k2, k, e, h1, h2⟩ := h; ⟨t1, t2, k1, k2, x, dx, k, e, h1, h2⟩
section
variable {S : Sc} {X : Cx S} {b : Base} {led : Led} {vs : Vs} {Q : Post Value}
theorem wGetI {v w : Value} {C : Addr} {fs : Fs} {n : String} {e : Bool} (h : IA X.am.w.params b v C fs) (hl : FGet fs n w) (hf : fieldOk X.am.w.params C (PySem.Str.ofString n) = true) (hv : handedIn w = true) (q : Q w b led vs) : Wp X (getAttr v (PySem.Str.ofString n) e) b led vs Q := by
  obtain ⟨x, dx, k, rfl, h1, h2⟩ := h
  exact wGet (.inl h1) (.inl h2) hf hl hv q
theorem wMethI {v : Value} {C f : Addr} {fs : Fs} {n : String} {pl : Sem Bool} {Q : Post (Value × List Value)} (h : IA X.am.w.params b v C fs) (hl : ∀ y ∈ fs, y.1 ≠ n) (hf : methOk X.am.w.params C f (PySem.Str.ofString n) = true) (q : Q (.ref f, [v]) b led vs) :
    Wp X (getMethod v (PySem.Str.ofString n) pl) b led vs Q := by
  obtain ⟨x, dx, k, rfl, h1, h2⟩ := h
  exact wGetMeth (.inl h1) (.inl h2) hf hl q
theorem isi_I {v : Value} {C : Addr} {fs : Fs} {c : Value} {r : Bool} (h : IA X.am.w.params b v C fs) (hi : instOk X.am.w.params C = true) (e : kitOne (K X.am.w.params) (.ref C) c = some r) (q : Q (.bool r) b led vs) : Wp X (call (.builtin "isinstance") [v, c]) b led vs Q := by
  obtain ⟨x, dx, k, rfl, h1, h2⟩ := h
  exact isi_inst (.inl h1) (.inl h2) hi e q
theorem isi_Ni {n : Int} {k : Tok} {c : Value} {r : Bool} (e : kitOne (K X.am.w.params) (.type "int") c = some r) (q : Q (.bool r) b led vs) : Wp X (call (.builtin "isinstance") [.int n k, c]) b led vs Q := isi_int e q
end
theorem io_Nam (P : Params) : instOk P 209 = true := by kernel_rfl
theorem io_Str (P : Params) : instOk P 231 = true := by kernel_rfl
theorem mk_Nam (P : Params) : makeOk P 209 206 = true := by kernel_rfl
theorem mk_Str (P : Params) : makeOk P 231 228 = true := by kernel_rfl
theorem mk_Op (P : Params) : makeOk P 407 399 = true := by kernel_rfl
theorem mk_Gl (P : Params) : makeOk P 449 439 = true := by kernel_rfl
theorem mk_Sh (P : Params) : makeOk P 470 467 = true := by kernel_rfl
theorem mk_CM (P : Params) : makeOk P 650 642 = true := by kernel_rfl
theorem mk_Fo (P : Params) : makeOk P 787 765 = true := by kernel_rfl
theorem ki_D_bool (P : Params) : kitOne (K P) (.ref 167) (.type "bool") = some false := by kernel_rfl
theorem ki_D_int (P : Params) : kitOne (K P) (.ref 167) (.type "int") = some false := by kernel_rfl
theorem ki_N_bool (P : Params) : kitOne (K P) (.ref 209) (.type "bool") = some false := by kernel_rfl
theorem ki_N_int (P : Params) : kitOne (K P) (.ref 209) (.type "int") = some false := by kernel_rfl
theorem ki_N_D (P : Params) : kitOne (K P) (.ref 209) (.ref 167) = some false := by kernel_rfl
theorem ki_N_N (P : Params) : kitOne (K P) (.ref 209) (.ref 209) = some true := by kernel_rfl
theorem ki_S_bool (P : Params) : kitOne (K P) (.ref 231) (.type "bool") = some false := by kernel_rfl
theorem ki_S_int (P : Params) : kitOne (K P) (.ref 231) (.type "int") = some false := by kernel_rfl
theorem ki_S_D (P : Params) : kitOne (K P) (.ref 231) (.ref 167) = some false := by kernel_rfl
theorem ki_S_N (P : Params) : kitOne (K P) (.ref 231) (.ref 209) = some false := by kernel_rfl
theorem ki_S_S (P : Params) : kitOne (K P) (.ref 231) (.ref 231) = some true := by kernel_rfl
/-! names, texts, operations -/
noncomputable def NameAt (P : Params) (b : Base) (v : Value) (w : PySem.Str) : Prop := ∃ t tk, IA P b v 209 [("text", t, .str w tk)]
noncomputable def StrAt (P : Params) (b : Base) (v : Value) (os : List UInt8) : Prop := ∃ t1 t2 tk, IA P b v 231 [("octets", t1, .bytes os.toArray tk), ("is_hex", t2, .bool false)]
noncomputable def OpAt (P : Params) (b : Base) (v : Value) (w : PySem.Str) (l : Addr) : Prop := ∃ t1 t2 tk, IA P b v 407 [("word", t1, .str w tk), ("operands", t2, .ref l)]
theorem NameAt.mono {P : Params} {b b' : Base} {v : Value} {w : PySem.Str} (h : NameAt P b v w) (l : Le b b') : NameAt P b' v w := let ⟨t, tk, h⟩ := h; ⟨t, tk, h.mono l⟩
theorem StrAt.mono {P : Params} {b b' : Base} {v : Value} {os : List UInt8} (h : StrAt P b v os) (l : Le b b') : StrAt P b' v os := let ⟨t, t2, tk, h⟩ := h; ⟨t, t2, tk, h.mono l⟩
theorem OpAt.mono {P : Params} {b b' : Base} {v : Value} {w : PySem.Str} {a : Addr} (h : OpAt P b v w a) (l : Le b b') : OpAt P b' v w a := let ⟨t, t2, tk, h⟩ := h; ⟨t, t2, tk, h.mono l⟩
theorem b_Name_init (Y : Cx f_Name_init.sc) {b : Base} {led : Led} (x dx : Addr) (w : PySem.Str) (tk : Tok) : Wp Y (execs (bodyOf f_Name_init.st) Y.env) b ((dx, dictOf (mkEs Y.am.w.params []) 0) :: (x, instObj 209 dx) :: led) [some (.ref x), some (.str w tk)]
    (fun fl b' led' _ => retOf fl = .none ∧ led' = led ∧ NameAt Y.am.w.params b' (.ref x) w) := by
  refine wFz ?_
  walk_at "body"
  repeat' (walk_at "s")
  exact .freeze fun b1 l1 h1 => .freeze fun b2 l2 h2 => .done ⟨rfl, rfl, _, _, _, _, _, rfl, h2, l2 _ _ h1⟩
theorem b_String_init (Y : Cx f_String_init.sc) {b : Base} {led : Led} (x dx : Addr) (os : List UInt8) (tk : Tok) : Wp Y (execs (bodyOf f_String_init.st) Y.env) b ((dx, dictOf (mkEs Y.am.w.params []) 0) :: (x, instObj 231 dx) :: led) [some (.ref x), some (.bytes os.toArray tk), some (.bool false)]
    (fun fl b' led' _ => retOf fl = .none ∧ led' = led ∧ StrAt Y.am.w.params b' (.ref x) os) := by
  refine wFz ?_
  walk_at "body"
  repeat' (walk_at "s")
  exact .freeze fun b1 l1 h1 => .freeze fun b2 l2 h2 => .done ⟨rfl, rfl, _, _, _, _, _, _, rfl, h2, l2 _ _ h1⟩
theorem b_Op_init (Y : Cx f_Operation_init.sc) {b : Base} {led : Led} (x dx : Addr) (w : PySem.Str) (tk : Tok) (a : Addr) : Wp Y (execs (bodyOf f_Operation_init.st) Y.env) b ((dx, dictOf (mkEs Y.am.w.params []) 0) :: (x, instObj 407 dx) :: led) [some (.ref x), some (.str w tk), some (.ref a)]
    (fun fl b' led' _ => retOf fl = .none ∧ led' = led ∧ OpAt Y.am.w.params b' (.ref x) w a) := by
  refine wFz ?_
  walk_at "body"
  repeat' (walk_at "s")
  exact .freeze fun b1 l1 h1 => .freeze fun b2 l2 h2 => .done ⟨rfl, rfl, _, _, _, _, _, _, rfl, h2, l2 _ _ h1⟩
section
variable {S : Sc} {X : Cx S} {b : Base} {led : Led} {vs : Vs} {Q : Post Value}
theorem s_Name {w : PySem.Str} {tk : Tok} (hr : Room X 1) (q : ∀ r b', Le b b' → NameAt X.am.w.params b' r w → Q r b' led vs) : Wp X (call (.ref 209) [.str w tk]) b led vs Q :=
  wMake (G := f_Name_init) (mk_Nam _) (f_Name_init_ok X.ok) (by have := hr.1; omega) (fun _ => by kernel_rfl) fun x dx L =>
    wMono (b_Name_init _ x dx w tk) fun fl b' led' _ l ⟨e, e', h⟩ => ⟨e, by rw [e']; exact q _ _ l h⟩
theorem K_221 (P : Params) : (K P).lookup 221 = some ⟨.type "tuple", none, .seq #[.bool false] 0, #[]⟩ := by kernel_rfl
theorem s_String {os : List UInt8} {tk : Tok} (hr : Room X 1) (q : ∀ r b', Le b b' → StrAt X.am.w.params b' r os → Q r b' led vs) : Wp X (call (.ref 231) [.bytes os.toArray tk]) b led vs Q :=
  wMakeB (G := f_String_init) (as := [.bytes os.toArray tk, .bool false]) (mk_Str _) (f_String_init_ok X.ok) (by have := hr.1; omega) (fun _ s hK => BindsTo.of_defaults rfl (hK _ _ (K_221 _)) rfl rfl (by kernel_rfl)) fun x dx L =>
    wMono (b_String_init _ x dx os tk) fun fl b' led' _ l ⟨e, e', h⟩ => ⟨e, by rw [e']; exact q _ _ l h⟩
theorem s_Op {w : PySem.Str} {tk : Tok} {a : Addr} (hr : Room X 1) (q : ∀ r b', Le b b' → OpAt X.am.w.params b' r w a → Q r b' led vs) : Wp X (call (.ref 407) [.str w tk, .ref a]) b led vs Q :=
  wMake (G := f_Operation_init) (mk_Op _) (f_Operation_init_ok X.ok) (by have := hr.1; omega) (fun _ => by kernel_rfl) fun x dx L =>
    wMono (b_Op_init _ x dx w tk a) fun fl b' led' _ l ⟨e, e', h⟩ => ⟨e, by rw [e']; exact q _ _ l h⟩
end
/-! kinds -/
inductive Knd where
  | num (n : Num)
  | nam (w : PySem.Str)
  | str (os : List UInt8)
noncomputable def KAt (P : Params) (b : Base) (v : Value) : Knd → Prop
  | .num n => NumAt P b v n
  | .nam w => NameAt P b v w
  | .str os => StrAt P b v os
theorem KAt.mono {P : Params} {b b' : Base} {v : Value} : ∀ {k : Knd}, KAt P b v k → Le b b' → KAt P b' v k
  | .num _, h, l => NumAt.mono h l
  | .nam _, h, l => NameAt.mono h l
  | .str _, h, l => StrAt.mono h l
noncomputable def Knd.word : Knd → String
  | .num (.int _) => "int"
  | .num (.dec _) => "real"
  | .nam _ => "name"
  | .str _ => "string"
noncomputable def Knd.fit : Knd → String
  | .num _ => "number"
  | .nam _ => "name"
  | .str _ => "string"
local macro_rules | `(tactic| walk_at "at") => `(tactic| first | (refine IA.mono (by assumption) ?_; walk_at "sub") | (refine NameAt.mono (by assumption) ?_; walk_at "sub") | (refine StrAt.mono (by assumption) ?_; walk_at "sub") | (refine OpAt.mono (by assumption) ?_; walk_at "sub") | (refine KAt.mono (by assumption) ?_; walk_at "sub") | fail "no")
local macro_rules | `(tactic| walk_at "ki") => `(tactic| first | (with_reducible exact ki_int_bool _) | (with_reducible exact ki_int_int _) | (with_reducible exact ki_Dec_int _) | (with_reducible exact ki_Dec_Dec _) | (with_reducible exact ki_D_bool _) | (with_reducible exact ki_D_int _) | (with_reducible exact ki_N_bool _) | (with_reducible exact ki_N_int _) | (with_reducible exact ki_N_D _) | (with_reducible exact ki_N_N _) | (with_reducible exact ki_S_bool _) | (with_reducible exact ki_S_int _) | (with_reducible exact ki_S_D _) | (with_reducible exact ki_S_N _) | (with_reducible exact ki_S_S _))
local macro_rules | `(tactic| walk_at "s") => `(tactic| first
  | ((with_reducible refine' isi_I ?h ?hi ?he ?_); (case h => walk_at "at"); (case hi => kernel_rfl); (case he => walk_at "ki"))
  | ((with_reducible refine' isi_Ni ?he ?_); (case he => walk_at "ki"))
  | ((with_reducible refine' wGetI ?h ?hl ?hf ?hv ?_); (case h => walk_at "at"); (case hl => walk_at "fld"); (case hf => kernel_rfl); (case hv => first | exact rfl | assumption))
  | ((with_reducible refine' wMethI ?h ?hl ?hf ?_); (case h => walk_at "at"); (case hf => kernel_rfl); (case hl => decide)) | fail "no")
/-! kinds of values -/
theorem b_kind_of (Y : Cx f_kind_of.sc) {b : Base} {led : Led} {v : Value} {k : Knd} (h : KAt Y.am.w.params b v k) :
    Wp Y (execs (bodyOf f_kind_of.st) Y.env) b led [some v] (fun fl b' led' _ => b' = b ∧ led' = led ∧ ∃ t, retOf fl = .str (PySem.Str.ofString k.word) t) := by
  walk_at "body"
  cases k with
  | num n =>
    cases n with
    | int n =>
      obtain ⟨k, rfl⟩ := h
      repeat' (walk_at "s")
      exact ⟨rfl, rfl, _, rfl⟩
    | dec d =>
      obtain ⟨t1, t2, k1, k2, h⟩ := DecAt.ia h
      obtain ⟨x, dx, k, rfl, h1, h2⟩ := id h
      repeat' (walk_at "s")
      exact ⟨rfl, rfl, _, rfl⟩
  | nam w =>
    obtain ⟨t, tk, h⟩ := h
    obtain ⟨x, dx, k, rfl, h1, h2⟩ := id h
    repeat' (walk_at "s")
    exact ⟨rfl, rfl, _, rfl⟩
  | str os =>
    obtain ⟨t, t2, tk, h⟩ := h
    obtain ⟨x, dx, k, rfl, h1, h2⟩ := id h
    repeat' (walk_at "s")
    exact ⟨rfl, rfl, _, rfl⟩
section
variable {S : Sc} {X : Cx S} {b : Base} {led : Led} {vs : Vs} {Q : Post Value}
theorem s_kind_of {v : Value} {k : Knd} (hr : Room X 1) (h : KAt X.am.w.params b v k) (q : ∀ t, Q (.str (PySem.Str.ofString k.word) t) b led vs) : Wp X (call (.ref 291) [v]) b led vs Q :=
  wDef (G := f_kind_of) X.hh (f_kind_of_ok X.ok) hr.d (by kernel_rfl) fun L => wMono (b_kind_of _ h) fun fl b' led' _ l ⟨e, e', t, h⟩ => by rw [e, e', h]; exact q _
end
noncomputable def Knd.isNum : Knd → Bool
  | .num _ => true
  | _ => false
theorem word_isNum (k : Knd) : (["int", "real"].map PySem.Str.ofString).any (· == PySem.Str.ofString k.word) = k.isNum := by
  rcases k with (n | d) | w | os <;> kernel_rfl
theorem b_is_number (Y : Cx f_is_number.sc) {b : Base} {led : Led} {v : Value} {k : Knd} (hr : Room Y 1) (h : KAt Y.am.w.params b v k) :
    Wp Y (execs (bodyOf f_is_number.st) Y.env) b led [some v] (fun fl b' led' _ => led' = led ∧ retOf fl = .bool k.isNum) := by
  refine wFz ?_
  walk_at "body"
  repeat' (walk_at "s")
  refine s_kind_of hr h fun _ => ?_
  repeat' (walk_at "s")
  refine wInTs (.inr (.head _)) (ys := ["int", "real"].map PySem.Str.ofString) (.cons _ _ (.cons _ _ .nil)) ?_
  rw [word_isNum]
  exact .drop (.done ⟨rfl, rfl⟩)
section
variable {S : Sc} {X : Cx S} {b : Base} {led : Led} {vs : Vs} {Q : Post Value}
theorem s_is_number {v : Value} {k : Knd} (hr : Room X 2) (h : KAt X.am.w.params b v k) (q : ∀ b', Le b b' → Q (.bool k.isNum) b' led vs) : Wp X (call (.ref 298) [v]) b led vs Q :=
  wDef (G := f_is_number) X.hh (f_is_number_ok X.ok) hr.d (by kernel_rfl) fun L => wMono (b_is_number _ hr.sub h) fun fl b' led' _ l ⟨e, e'⟩ => by rw [e, e']; exact q _ l
end
theorem b_fits_kind (Y : Cx f_fits_kind.sc) {b : Base} {led : Led} {v : Value} {k : Knd} {t : Tok} (hr : Room Y 2) (h : KAt Y.am.w.params b v k) :
    Wp Y (execs (bodyOf f_fits_kind.st) Y.env) b led [some v, some (.str (PySem.Str.ofString k.fit) t)] (fun fl b' led' _ => led' = led ∧ retOf fl = .bool true) := by
  walk_at "body"
  cases k with
  | num n =>
    repeat' (walk_at "s")
    try rw [show (PySem.Str.ofString (Knd.num n).fit == PySem.Str.ofString "number") = true by kernel_rfl]
    repeat' (walk_at "s")
    refine s_is_number (k := .num n) hr h fun b1 l1 => ?_
    exact ⟨rfl, rfl⟩
  | nam w =>
    repeat' (walk_at "s")
    try rw [show (PySem.Str.ofString (Knd.nam w).fit == PySem.Str.ofString "number") = false by kernel_rfl]
    repeat' (walk_at "s")
    try rw [show (PySem.Str.ofString (Knd.nam w).fit == PySem.Str.ofString "property") = false by kernel_rfl]
    repeat' (walk_at "s")
    try rw [show (PySem.Str.ofString (Knd.nam w).fit == PySem.Str.ofString "shown") = false by kernel_rfl]
    repeat' (walk_at "s")
    refine s_kind_of (k := .nam w) (hr.le (by decide)) h fun _ => ?_
    repeat' (walk_at "s")
    try rw [show (PySem.Str.ofString (Knd.nam w).word == PySem.Str.ofString (Knd.nam w).fit) = true by kernel_rfl]
    exact ⟨rfl, rfl⟩
  | str w =>
    repeat' (walk_at "s")
    try rw [show (PySem.Str.ofString (Knd.str w).fit == PySem.Str.ofString "number") = false by kernel_rfl]
    repeat' (walk_at "s")
    try rw [show (PySem.Str.ofString (Knd.str w).fit == PySem.Str.ofString "property") = false by kernel_rfl]
    repeat' (walk_at "s")
    try rw [show (PySem.Str.ofString (Knd.str w).fit == PySem.Str.ofString "shown") = false by kernel_rfl]
    repeat' (walk_at "s")
    refine s_kind_of (k := .str w) (hr.le (by decide)) h fun _ => ?_
    repeat' (walk_at "s")
    try rw [show (PySem.Str.ofString (Knd.str w).word == PySem.Str.ofString (Knd.str w).fit) = true by kernel_rfl]
    exact ⟨rfl, rfl⟩
section
variable {S : Sc} {X : Cx S} {b : Base} {led : Led} {vs : Vs} {Q : Post Value}
theorem s_fits_kind {v : Value} {k : Knd} {t : Tok} (hr : Room X 3) (h : KAt X.am.w.params b v k) (q : ∀ b', Le b b' → Q (.bool true) b' led vs) : Wp X (call (.ref 423) [v, .str (PySem.Str.ofString k.fit) t]) b led vs Q :=
  wDef (G := f_fits_kind) X.hh (f_fits_kind_ok X.ok) hr.d (by kernel_rfl) fun L => wMono (b_fits_kind _ hr.sub h) fun fl b' led' _ l ⟨e, e'⟩ => by rw [e, e']; exact q _ l
end
section
variable {S : Sc} {X : Cx S} {b : Base} {led : Led} {vs : Vs}
theorem wPairT0 {env : Env} {pos : Pos} {Q : Post (List (Value × Value))} (q : Q [] b led vs) : Wp X (evalPairs (pairTrees [] [] env pos)) b led vs Q := wPairs0 q
theorem wPairT {k v : Expr} {ks : List (Option Expr)} {es : List Expr} {env : Env} {pos : Pos} {Q : Post (List (Value × Value))}
    (h : Wp X (eval k env) b led vs fun kv b₁ l₁ v₁ => Wp X (eval v env) b₁ l₁ v₁ fun vv b₂ l₂ v₂ => Wp X (evalPairs (pairTrees ks es env pos)) b₂ l₂ v₂ fun us b₃ l₃ v₃ => Q ((kv, vv) :: us) b₃ l₃ v₃) :
    Wp X (evalPairs (pairTrees (some k :: ks) (v :: es) env pos)) b led vs Q := wPairs (wMono h fun _ _ _ _ _ q => wStand q)
end
local macro_rules | `(tactic| walk_at "s") => `(tactic| first
  | ((with_reducible refine' wAsName ?h ?_); (case h => walk_at "loc"))
  | (with_reducible refine' wPairT0 ?_)
  | (with_reducible refine' wPairT ?_) | fail "no")
local macro_rules | `(tactic| walk_at "led") => `(tactic| (repeat' (first | with_reducible exact LedX.here | with_reducible refine' LedX.there ?_)))
local macro_rules | `(tactic| walk_at "strs") => `(tactic| (repeat' (first | exact StrsAre.nil | refine' StrsAre.cons _ _ ?_)))
/-! the kinds of the words -/
inductive All2 {α β : Type} (R : α → β → Prop) : List α → List β → Prop
  | nil : All2 R [] []
  | cons {a : α} {c : β} {l : List α} {m : List β} : R a c → All2 R l m → All2 R (a :: l) (c :: m)
theorem All2.mono {α β : Type} {R R' : α → β → Prop} {l : List α} {m : List β} (h : All2 R l m) (k : ∀ a c, R a c → R' a c) : All2 R' l m := by
  induction h with
  | nil => exact .nil
  | cons h _ ih => exact .cons (k _ _ h) ih
theorem All2.app {α β : Type} {R : α → β → Prop} {l l' : List α} {m m' : List β} (h : All2 R l m) (h' : All2 R l' m') : All2 R (l ++ l') (m ++ m') := by
  induction h with
  | nil => exact h'
  | cons h _ ih => exact .cons h ih
theorem All2.len {α β : Type} {R : α → β → Prop} {l : List α} {m : List β} (h : All2 R l m) : l.length = m.length := by
  induction h with
  | nil => rfl
  | cons _ _ ih => rw [List.length_cons, List.length_cons, ih]
theorem All2.get {α β : Type} {R : α → β → Prop} {l : List α} {m : List β} (h : All2 R l m) : ∀ {i : Nat} {a : α}, l[i]? = some a → ∃ c, m[i]? = some c ∧ R a c := by
  induction h with
  | nil => intro i a e; simp at e
  | cons h _ ih =>
    intro i a e
    cases i with
    | zero => simp at e; subst e; exact ⟨_, rfl, h⟩
    | succ i => exact ih (by simpa using e)
/-- a tuple of texts -/
noncomputable def TupAt (b : Base) (v : Value) (l : List String) : Prop := ∃ x us n, v = .ref x ∧ b x = some (TO us n) ∧ StrsAre us (l.map PySem.Str.ofString)
theorem TupAt.mono {b b' : Base} {v : Value} {l : List String} (h : TupAt b v l) (k : Le b b') : TupAt b' v l := let ⟨x, us, n, e, h, hs⟩ := h; ⟨x, us, n, e, k _ _ h, hs⟩
abbrev KT := List (PySem.Str × List String)
noncomputable def KV (b : Base) (kvs : List (PySem.Str × Value)) (T : KT) : Prop := All2 (fun kv p => kv.1 = p.1 ∧ TupAt b kv.2 p.2) kvs T
theorem KV.mono {b b' : Base} {kvs : List (PySem.Str × Value)} {T : KT} (h : KV b kvs T) (k : Le b b') : KV b' kvs T := All2.mono h fun _ _ ⟨e, h⟩ => ⟨e, h.mono k⟩
noncomputable def atT (T : KT) (k : PySem.Str) : Option (List String) := (T.find? fun p => p.1 = k).map (·.2)
theorem KV.c {b : Base} {kvs : List (PySem.Str × Value)} {T : KT} {k : PySem.Str} {v : Value} {l : List String} (h : TupAt b v l) (hk : KV b kvs T) : KV b ((k, v) :: kvs) ((k, l) :: T) := All2.cons ⟨rfl, h⟩ hk
theorem KV.some {b : Base} {kvs : List (PySem.Str × Value)} {T : KT} (h : KV b kvs T) {k : PySem.Str} {l : List String} (e : atT T k = some l) : ∃ v, valueAt kvs k = some v ∧ TupAt b v l := by
  unfold KV at h
  induction h with
  | nil => cases e
  | @cons kv p kvs T h _ ih =>
    obtain ⟨e1, h1⟩ := h
    unfold atT at e ih
    unfold valueAt at ih ⊢
    rw [List.find?_cons] at e ⊢
    by_cases q : p.1 = k
    · rw [decide_eq_true q] at e
      rw [decide_eq_true (e1.trans q)]
      cases e
      exact ⟨_, rfl, h1⟩
    · rw [decide_eq_false q] at e
      rw [decide_eq_false (fun w => q (e1.symm.trans w))]
      exact ih e
theorem KV.none {b : Base} {kvs : List (PySem.Str × Value)} {T : KT} (h : KV b kvs T) {k : PySem.Str} (e : atT T k = none) : valueAt kvs k = none := by
  unfold KV at h
  induction h with
  | nil => rfl
  | @cons kv p kvs T h _ ih =>
    obtain ⟨e1, h1⟩ := h
    unfold atT at e ih
    unfold valueAt at ih ⊢
    rw [List.find?_cons] at e ⊢
    by_cases q : p.1 = k
    · rw [decide_eq_true q] at e; cases e
    · rw [decide_eq_false q] at e
      rw [decide_eq_false (fun w => q (e1.symm.trans w))]
      exact ih e
theorem KV.put {b : Base} {kvs : List (PySem.Str × Value)} {T : KT} (h : KV b kvs T) {k : PySem.Str} {v : Value} {l : List String} (e : atT T k = Option.none) (hv : TupAt b v l) : KV b (stored kvs k v) (T ++ [(k, l)]) := by
  rw [stored_absent (h.none e)]
  exact All2.app h (.cons ⟨rfl, hv⟩ .nil)
theorem strs_get {us : List Value} {ys : List PySem.Str} (h : StrsAre us ys) : ∀ {i : Nat} {w : Value}, us[i]? = some w → ∃ y t, ys[i]? = some y ∧ w = .str y t := by
  induction h with
  | nil => intro i a e; simp at e
  | cons y t _ ih =>
    intro i a e
    cases i with
    | zero => simp at e; subst e; exact ⟨_, _, rfl, rfl⟩
    | succ i => exact ih (by simpa using e)
theorem strs_len {us : List Value} {ys : List PySem.Str} (h : StrsAre us ys) : us.length = ys.length := by
  induction h with
  | nil => rfl
  | cons _ _ _ ih => rw [List.length_cons, List.length_cons, ih]
section
variable {S : Sc} {X : Cx S} {b : Base} {led : Led} {vs : Vs} {α : Type} {t : Sem α} {Q : Post α}
theorem wFrTup {x : Addr} {us : List Value} {n : Nat} (l : List String) (hs : StrsAre us (l.map PySem.Str.ofString)) (h : ∀ b', Le b b' → TupAt b' (.ref x) l → Wp X t b' led vs Q) : Wp X t b ((x, TO us n) :: led) vs Q :=
  wFreeze fun b' k e => h b' k ⟨x, us, n, rfl, e, hs⟩
end
noncomputable def T0 : KT := [(PySem.Str.ofString "BT", []), (PySem.Str.ofString "ET", []), (PySem.Str.ofString "T*", []), (PySem.Str.ofString "Tf", ["name", "number"]), (PySem.Str.ofString "Tm", ["number", "number", "number", "number", "number", "number"]), (PySem.Str.ofString "TJ", ["shown"])]
noncomputable def W1 : List PySem.Str := ["Tc", "Tw", "Tz", "TL", "Tr", "Ts"].map PySem.Str.ofString
noncomputable def W2 : List PySem.Str := ["Td", "TD", "d0"].map PySem.Str.ofString
noncomputable def W3 : List PySem.Str := ["Tj", "'"].map PySem.Str.ofString
noncomputable def T1 : KT := T0 ++ W1.map (·, ["number"])
noncomputable def T2 : KT := T1 ++ W2.map (·, ["number", "number"])
noncomputable def T3 : KT := T2 ++ [(PySem.Str.ofString "d1", ["number", "number", "number", "number", "number", "number"])]
noncomputable def T4 : KT := T3 ++ W3.map (·, ["string"])
noncomputable def T5 : KT := T4 ++ [(PySem.Str.ofString "\"", ["number", "number", "string"])]
noncomputable def newQ (T : KT) (W : List PySem.Str) (l : List String) : Bool := (List.range W.length).all fun i => match W[i]? with
  | .some y => (atT (T ++ (W.take i).map (·, l)) y).isNone
  | .none => true
theorem newQ_of {T : KT} {W : List PySem.Str} {l : List String} (h : newQ T W l = true) {i : Nat} {y : PySem.Str} (e : W[i]? = .some y) : atT (T ++ (W.take i).map (·, l)) y = .none := by
  have hi : i < W.length := by
    rcases Nat.lt_or_ge i W.length with h | h
    · exact h
    · rw [List.getElem?_eq_none h] at e; cases e
  have := List.all_eq_true.mp h i (List.mem_range.mpr hi)
  rw [e] at this
  exact Option.isNone_iff_eq_none.mp this
theorem take_one {W : List PySem.Str} {l : List String} {T : KT} {i : Nat} {y : PySem.Str} (e : W[i]? = .some y) : T ++ (W.take i).map (·, l) ++ [(y, l)] = T ++ (W.take (i + 1)).map (·, l) := by
  rw [List.take_add_one, e, List.map_append, List.append_assoc]; rfl
def KInv {S : Sc} (X : Cx S) (x : Addr) (led : Led) (T : KT) (W : List PySem.Str) (l : List String) (i : Nat) : Base → Led → Vs → Prop := fun b' l' v' => ∃ o kvs cv, l' = (x, o) :: led ∧ SD X.am.w x kvs o ∧ KV b' kvs (T ++ (W.take i).map (·, l)) ∧ kvs.length ≤ 100 ∧ v' = [some (.ref x), cv]
theorem KV.len {b : Base} {kvs : List (PySem.Str × Value)} {T : KT} (h : KV b kvs T) : kvs.length = T.length := All2.len h
/-- one turn of a loop that lays tuples under words -/
theorem KInv.next {X : Cx f_text_kinds.sc} {x : Addr} {led : Led} {T : KT} {W : List PySem.Str} {l : List String} {i : Nat} {b : Base} {o : Obj} {kvs : List (PySem.Str × Value)} {y : PySem.Str} {v : Value} {cv : Option Value} (hT : T.length + W.length ≤ 100) (h : newQ T W l = true) (e : W[i]? = .some y)
    (hk : KV b kvs (T ++ (W.take i).map (·, l))) (hv : TupAt b v l) (ho : SD X.am.w x (stored kvs y v) o) : KInv X x led T W l (i + 1) b ((x, o) :: led) [some (.ref x), cv] := by
  have := hk.put (newQ_of h e) hv
  rw [take_one e] at this
  refine ⟨o, _, cv, rfl, ho, this, ?_, rfl⟩
  rw [this.len, List.length_append, List.length_map]
  have := List.length_take_le' (i + 1) W
  omega
theorem b_text_kinds (Y : Cx f_text_kinds.sc) {b : Base} {led : Led} : Wp Y (execs (bodyOf f_text_kinds.st) Y.env) b led [none, none] (fun fl b' led' _ => ∃ x o kvs, retOf fl = .ref x ∧ led' = (x, o) :: led ∧ SD Y.am.w x kvs o ∧ KV b' kvs T5) := by
  walk_at "body"
  refine aAssignB rfl ?_
  refine wDictS rfl rfl (by decide) (by decide) fun x => ?_
  repeat' (walk_at "s")
  refine wMulT (.inr (.head _)) (by decide) (by decide) fun r => ?_
  repeat' (walk_at "s")
  refine ⟨[(_, _), (_, _), (_, _), (_, _), (_, _), (_, _)], _, ⟨strKind_is _ _ _ _, rfl, strKind_is _ _ _ _, rfl, strKind_is _ _ _ _, rfl, strKind_is _ _ _ _, rfl, strKind_is _ _ _ _, rfl, strKind_is _ _ _ _, rfl, trivial⟩, nodupQ_of (by kernel_rfl), Nat.le_of_ble_eq_true rfl, by walk_at "led", fun o ho => ?_⟩
  repeat' (walk_at "s")
  refine wFrTup ["shown"] (by walk_at "strs") fun b1 l1 h1 => ?_
  refine wFrTup ["number", "number", "number", "number", "number", "number"] (by walk_at "strs") fun b2 l2 h2 => ?_
  refine wFrTup ["number"] (by walk_at "strs") fun b3 l3 h3 => ?_
  refine wFrTup ["name", "number"] (by walk_at "strs") fun b4 l4 h4 => ?_
  refine wFrTup [] (by exact .nil) fun b5 l5 h5 => ?_
  refine wFrTup [] (by exact .nil) fun b6 l6 h6 => ?_
  refine wFrTup [] (by exact .nil) fun b7 l7 h7 => ?_
  have hk : KV b7 _ T0 := .c h7 (.c (h6.mono l7) (.c (h5.mono (l6.trans l7)) (.c (h4.mono (l5.trans (l6.trans l7))) (.c (h2.mono (l3.trans (l4.trans (l5.trans (l6.trans l7))))) (.c (h1.mono (l2.trans (l3.trans (l4.trans (l5.trans (l6.trans l7)))))) .nil)))))
  generalize hkk : [(PySem.Str.ofString "BT", _), _, _, _, _, _] = kvs at hk ho
  refine aFor (KInv Y x led T0 W1 ["number"]) (fun _ => rfl) (fun _ _ => rfl) (wFzL ?_)
  intro _
  repeat' (walk_at "s")
  refine .freeze fun b8 l8 h8 => .done ⟨_, _, its_tup h8, ⟨o, kvs, none, rfl, ho, ?_, ?_, rfl⟩, ?_, ?_⟩
  · exact hk.mono l8
  · rw [← hkk]; exact Nat.le_of_ble_eq_true rfl
  · rintro i b9 l9 v9 w p hi lb hw ⟨o, kvs, cv, rfl, ho, hk, hz, rfl⟩
    obtain ⟨y, t, hy, rfl⟩ := strs_get (ys := W1) (by walk_at "strs") hw
    walk_at "s"
    refine wFzL ?_; intro _
    repeat' (walk_at "s")
    refine wSetItemD (by walk_at "led") ho (by omega) fun o' ho' => ?_
    repeat' (walk_at "s")
    exact .freeze fun b10 l10 h10 => .done ⟨_, rfl, KInv.next (Nat.le_of_ble_eq_true rfl) (by kernel_rfl) hy (hk.mono l10) ⟨_, _, _, rfl, h10, by walk_at "strs"⟩ ho'⟩
  rintro b9 l9 v9 lb ⟨o, kvs, cv, rfl, ho, hk, hz, rfl⟩
  replace hk : KV b9 kvs T1 := hk
  refine aFor (KInv Y x led T1 W2 ["number", "number"]) (fun _ => rfl) (fun _ _ => rfl) (wFzL ?_)
  intro _
  repeat' (walk_at "s")
  refine .freeze fun b10 l10 h10 => .done ⟨_, _, its_tup h10, ⟨o, kvs, _, rfl, ho, hk.mono l10, hz, rfl⟩, ?_, ?_⟩
  · rintro i b9 l9 v9 w p hi lb hw ⟨o, kvs, cv, rfl, ho, hk, hz, rfl⟩
    obtain ⟨y, t, hy, rfl⟩ := strs_get (ys := W2) (by walk_at "strs") hw
    walk_at "s"
    refine wFzL ?_; intro _
    repeat' (walk_at "s")
    refine wMulT (.inr (.head _)) (by decide) (by decide) fun r => ?_
    repeat' (walk_at "s")
    refine wSetItemD (by walk_at "led") ho (by omega) fun o' ho' => ?_
    repeat' (walk_at "s")
    exact .freeze fun b10 l10 h10 => .drop (.done ⟨_, rfl, KInv.next (Nat.le_of_ble_eq_true rfl) (by kernel_rfl) hy (hk.mono l10) ⟨_, _, _, rfl, h10, by walk_at "strs"⟩ ho'⟩)
  rintro b11 l11 v11 lb' ⟨o, kvs, cv, rfl, ho, hk, hz, rfl⟩
  replace hk : KV b11 kvs T2 := hk
  repeat' (walk_at "s")
  refine wMulT (.inr (.head _)) (by decide) (by decide) fun r => ?_
  repeat' (walk_at "s")
  refine wSetItemD (by walk_at "led") ho (by omega) fun o' ho' => ?_
  refine wFrTup ["number", "number", "number", "number", "number", "number"] (by walk_at "strs") fun b12 l12 h12 => ?_
  refine wDrop ?_
  replace hk : KV b12 _ T3 := (hk.mono l12).put (by kernel_rfl) h12
  refine aFor (KInv Y x led T3 W3 ["string"]) (fun _ => rfl) (fun _ _ => rfl) (wFzL ?_)
  intro _
  repeat' (walk_at "s")
  refine .freeze fun b10 l10 h10 => .done ⟨_, _, its_tup h10, ⟨_, _, _, rfl, ho', hk.mono l10, by rw [hk.len]; exact Nat.le_of_ble_eq_true rfl, rfl⟩, ?_, ?_⟩
  · rintro i b9 l9 v9 w p hi lb hw ⟨o, kvs, cv, rfl, ho, hk, hz, rfl⟩
    obtain ⟨y, t, hy, rfl⟩ := strs_get (ys := W3) (by walk_at "strs") hw
    walk_at "s"
    refine wFzL ?_; intro _
    repeat' (walk_at "s")
    refine wSetItemD (by walk_at "led") ho (by omega) fun o' ho' => ?_
    repeat' (walk_at "s")
    exact .freeze fun b10 l10 h10 => .done ⟨_, rfl, KInv.next (Nat.le_of_ble_eq_true rfl) (by kernel_rfl) hy (hk.mono l10) ⟨_, _, _, rfl, h10, by walk_at "strs"⟩ ho'⟩
  rintro b11 l11 v11 lb' ⟨o, kvs, cv, rfl, ho, hk, hz, rfl⟩
  replace hk : KV b11 kvs T4 := hk
  repeat' (walk_at "s")
  refine wSetItemD (by walk_at "led") ho (by omega) fun o' ho' => ?_
  refine wFrTup ["number", "number", "string"] (by walk_at "strs") fun b12 l12 h12 => ?_
  replace hk : KV b12 _ T5 := (hk.mono l12).put (by kernel_rfl) h12
  repeat' (walk_at "s")
  exact ⟨_, _, _, rfl, rfl, ho', hk⟩
section
variable {S : Sc} {X : Cx S} {b : Base} {led : Led} {vs : Vs} {Q : Post Value}
theorem s_text_kinds (hr : Room X 1) (q : ∀ x o kvs b', Le b b' → SD X.am.w x kvs o → KV b' kvs T5 → Q (.ref x) b' ((x, o) :: led) vs) : Wp X (call (.ref 418) []) b led vs Q :=
  wDef (G := f_text_kinds) X.hh (f_text_kinds_ok X.ok) hr.d (by kernel_rfl) fun L => wMono (b_text_kinds _) fun fl b' led' _ l ⟨x, o, kvs, e, e', h1, h2⟩ => by rw [e, e']; exact q _ _ _ _ l h1 h2
end
/-! operands are looked at -/
noncomputable def T6 : KT := T5 ++ [(PySem.Str.ofString "cm", ["number", "number", "number", "number", "number", "number"])]
noncomputable def T7 : KT := T6 ++ [(PySem.Str.ofString "Do", ["name"])]
theorem op_get {P : Params} {b : Base} {us : List Value} {ks : List Knd} (h : All2 (KAt P b) us ks) {i : Nat} (hi : i < ks.length) : ∃ u k, us[i]? = some u ∧ ks[i]? = some k ∧ KAt P b u k := by
  have : i < us.length := by rw [h.len]; exact hi
  obtain ⟨k, e, hk⟩ := h.get (List.getElem?_eq_getElem this)
  exact ⟨_, k, List.getElem?_eq_getElem this, e, hk⟩
theorem range_size {n : Nat} : Builtin.Range.rangeSize 0 (n : Int) 1 = (n : Int) := by
  unfold Builtin.Range.rangeSize
  simp
  omega
theorem range_small {n : Nat} (h : n ≤ 1000) : Builtin.Range.small 0 (n : Int) 1 = true := by
  unfold Builtin.Range.small
  rw [range_size]
  have e : Builtin.Range.rangeFitsLong (n : Int) = true := by unfold Builtin.Range.rangeFitsLong; simp; omega
  have e0 : Builtin.Range.rangeFitsLong 0 = true := by decide
  have e1 : Builtin.Range.rangeFitsLong 1 = true := by decide
  rw [e, e0, e1]
  simp [e]
theorem strs_at {us : List Value} {ys : List PySem.Str} (h : StrsAre us ys) : ∀ {i : Nat} {y : PySem.Str}, ys[i]? = some y → ∃ t, us[i]? = some (.str y t) := by
  induction h with
  | nil => intro i a e; simp at e
  | cons y t _ ih =>
    intro i a e
    cases i with
    | zero => simp at e; subst e; exact ⟨_, rfl⟩
    | succ i => exact ih (by simpa using e)
theorem b_check (Y : Cx f_check_operands.sc) {b : Base} {led : Led} {kx : Addr} {o : Obj} {kvs : List (PySem.Str × Value)} {v : Value} {w : PySem.Str} {l : Addr} {lo : Obj} {us : List Value} {ks : List Knd} (hr : Room Y 3)
    (hx : b kx = some o) (ho : SD Y.am.w kx kvs o) (hk : KV b kvs T7) (hv : OpAt Y.am.w.params b v w l) (hl : b l = some lo) (hlo : IsLO us lo) (hu : All2 (KAt Y.am.w.params b) us ks) (hz : ks.length ≤ 100) (hw : atT T7 w = none ∨ atT T7 w = some (ks.map Knd.fit)) :
    Wp Y (execs (bodyOf f_check_operands.st) Y.env) b led [some (.ref kx), some v, none, none] (fun fl b' led' _ => led' = led ∧ retOf fl = .none) := by
  obtain ⟨t1, t2, tk, hv⟩ := id hv
  walk_at "body"
  repeat' (walk_at "s")
  refine wNotInD (.inl hx) ho ?_
  rcases hw with hw | hw
  · rw [hk.none hw]
    repeat' (walk_at "s")
    exact ⟨rfl, rfl⟩
  obtain ⟨wv, e1, hwv⟩ := hk.some hw
  rw [e1]
  repeat' (walk_at "s")
  refine wItemD (.inl hx) ho e1 rfl ?_
  obtain ⟨wx, wus, wn, rfl, hwx, hws⟩ := hwv
  repeat' (walk_at "s")
  have hlen := hu.len
  have hwlen := strs_len hws
  rw [List.length_map, List.length_map] at hwlen
  refine wLenL (.inl hl) hlo (by omega) fun _ => ?_
  repeat' (walk_at "s")
  refine wLenT (.inl hwx) (by omega) fun _ => ?_
  repeat' (walk_at "s")
  rw [hlen, hwlen, show ((ks.length : Int) != ks.length) = false by simp]
  repeat' (walk_at "s")
  refine aFor (fun i b' l' v' => l' = led ∧ ∃ cv, v' = [some (.ref kx), some v, some (.ref wx), cv]) (fun _ => rfl) (fun _ _ => rfl) (wFzL ?_)
  intro _
  repeat' (walk_at "s")
  refine wLenT (.inl hwx) (by omega) fun _ => ?_
  rw [hwlen]
  repeat' (walk_at "s")
  refine wRange1 fun rx _ _ _ => ?_
  refine .freeze fun b8 l8 h8 => .done ⟨ks.length, _, its_range (.inl h8) (range_small (by omega)) range_size, ⟨rfl, _, rfl⟩, ?_, ?_⟩
  · rintro i b9 l9 v9 w' p hi lb ⟨k, rfl⟩ ⟨rfl, cv, rfl⟩
    obtain ⟨u, kd, hu1, hk1, hkd⟩ := op_get hu hi
    obtain ⟨tt, hw1⟩ := strs_at hws (i := i) (y := PySem.Str.ofString kd.fit) (by rw [List.getElem?_map, List.getElem?_map, hk1]; rfl)
    have l89 := l8.trans lb
    rw [Int.zero_add]
    repeat' (walk_at "s")
    refine wItemL (.inl (l89 _ _ hl)) hlo (by omega) (by omega) hu1 rfl ?_
    repeat' (walk_at "s")
    refine wItemT (.inl (l89 _ _ hwx)) (by omega) (by omega) hw1 rfl ?_
    repeat' (walk_at "s")
    refine s_fits_kind hr (hkd.mono l89) fun b9 l9 => ?_
    repeat' (walk_at "s")
    exact ⟨_, rfl, rfl, _, rfl⟩
  · rintro b9 l9 v9 lb ⟨rfl, cv, rfl⟩
    repeat' (walk_at "s")
    exact ⟨rfl, rfl⟩
/-! glyphs, sheets -/
structure Gl where
  text : PySem.Str
  x : Dc
  y : Dc
  width : Dc
  size : Dc
inductive GlA (P : Params) (b : Base) (v : Value) (g : Gl) : Prop
  | mk (t1 : _) (t2 : _) (t3 : _) (t4 : _) (t5 : _) (tk : _) (v1 : _) (v2 : _) (v3 : _) (v4 : _) (h1_ : IA P b v 449 [("text", t1, .str g.text tk), ("x", t2, v1), ("y", t3, v2), ("width", t4, v3), ("size", t5, v4)]) (h2_ : DecAt P b v1 g.x) (h3_ : DecAt P b v2 g.y) (h4_ : DecAt P b v3 g.width) (h5_ : DecAt P b v4 g.size) : GlA P b v g
theorem GlA.mono {P : Params} {b b' : Base} {v : Value} {g : Gl} (h : GlA P b v g) (l : Le b b') : GlA P b' v g :=
  let ⟨t1, t2, t3, t4, t5, tk, v1, v2, v3, v4, h, h1, h2, h3, h4⟩ := h
  ⟨t1, t2, t3, t4, t5, tk, v1, v2, v3, v4, h.mono l, h1.mono l, h2.mono l, h3.mono l, h4.mono l⟩
inductive GTell (b : Base) (v : Value) (g : Gl) : Prop
  | mk (r : _) (tk : _) (v1 : _) (v2 : _) (v3 : _) (v4 : _) (k : _) (h1_ : v = .ref r) (h2_ : b r = some (TO [.str g.text tk, v1, v2, v3, v4] k)) (h3_ : TellAt b v1 g.x) (h4_ : TellAt b v2 g.y) (h5_ : TellAt b v3 g.width) (h6_ : TellAt b v4 g.size) : GTell b v g
theorem GTell.mono {b b' : Base} {v : Value} {g : Gl} (h : GTell b v g) (l : Le b b') : GTell b' v g :=
  let ⟨r, tk, v1, v2, v3, v4, k, e, h, h1, h2, h3, h4⟩ := h
  ⟨r, tk, v1, v2, v3, v4, k, e, l _ _ h, h1.mono l, h2.mono l, h3.mono l, h4.mono l⟩
theorem b_Gl_init (Y : Cx f_Glyph_init.sc) {b : Base} {led : Led} (x dx : Addr) {g : Gl} {tk : Tok} {v1 v2 v3 v4 : Value} (h1 : DecAt Y.am.w.params b v1 g.x) (h2 : DecAt Y.am.w.params b v2 g.y) (h3 : DecAt Y.am.w.params b v3 g.width) (h4 : DecAt Y.am.w.params b v4 g.size) :
    Wp Y (execs (bodyOf f_Glyph_init.st) Y.env) b ((dx, dictOf (mkEs Y.am.w.params []) 0) :: (x, instObj 449 dx) :: led) [some (.ref x), some (.str g.text tk), some v1, some v2, some v3, some v4] (fun fl b' led' _ => retOf fl = .none ∧ led' = led ∧ GlA Y.am.w.params b' (.ref x) g) := by
  refine wFz ?_
  walk_at "body"
  repeat' (walk_at "s")
  exact .freeze fun b1 l1 k1 => .freeze fun b2 l2 k2 => .done ⟨rfl, rfl, _, _, _, _, _, _, _, _, _, _, ⟨_, _, _, rfl, k2, l2 _ _ k1⟩, h1.mono (l1.trans l2), h2.mono (l1.trans l2), h3.mono (l1.trans l2), h4.mono (l1.trans l2)⟩
section
variable {S : Sc} {X : Cx S} {b : Base} {led : Led} {vs : Vs} {Q : Post Value}
theorem s_Glyph {g : Gl} {tk : Tok} {v1 v2 v3 v4 : Value} (hr : Room X 1) (h1 : DecAt X.am.w.params b v1 g.x) (h2 : DecAt X.am.w.params b v2 g.y) (h3 : DecAt X.am.w.params b v3 g.width) (h4 : DecAt X.am.w.params b v4 g.size)
    (q : ∀ r b', Le b b' → GlA X.am.w.params b' r g → Q r b' led vs) : Wp X (call (.ref 449) [.str g.text tk, v1, v2, v3, v4]) b led vs Q :=
  wMake (G := f_Glyph_init) (mk_Gl _) (f_Glyph_init_ok X.ok) (by have := hr.1; omega) (fun _ => by kernel_rfl) fun x dx L =>
    wMono (b_Gl_init _ x dx h1 h2 h3 h4) fun fl b' led' _ l ⟨e, e', h⟩ => ⟨e, by rw [e']; exact q _ _ l h⟩
end
theorem b_Gl_told (Y : Cx f_Glyph_told.sc) {b : Base} {led : Led} {v : Value} {g : Gl} (hr : Room Y 1) (h : GlA Y.am.w.params b v g) : Wp Y (execs (bodyOf f_Glyph_told.st) Y.env) b led [some v] (fun fl b' led' _ => led' = led ∧ GTell b' (retOf fl) g) := by
  obtain ⟨t1, t2, t3, t4, t5, tk, v1, v2, v3, v4, h, h1, h2, h3, h4⟩ := h
  obtain ⟨x, dx, k, rfl, hx, hd⟩ := id h
  have a1 := h1.ia; have a2 := h2.ia; have a3 := h3.ia; have a4 := h4.ia
  have n1 : handedIn v1 = true := let ⟨_, _, _, _, q⟩ := a1; q.handed
  have n2 : handedIn v2 = true := let ⟨_, _, _, _, q⟩ := a2; q.handed
  have n3 : handedIn v3 = true := let ⟨_, _, _, _, q⟩ := a3; q.handed
  have n4 : handedIn v4 = true := let ⟨_, _, _, _, q⟩ := a4; q.handed
  refine wFz ?_
  walk_at "body"
  repeat' (walk_at "s")
  refine s_dtold hr (by walk_at "at") fun r1 b1 l1 k1 => ?_
  repeat' (walk_at "s")
  refine s_dtold hr (by walk_at "at") fun r2 b2 l2 k2 => ?_
  repeat' (walk_at "s")
  refine s_dtold hr (by walk_at "at") fun r3 b3 l3 k3 => ?_
  repeat' (walk_at "s")
  refine s_dtold hr (by walk_at "at") fun r4 b4 l4 k4 => ?_
  repeat' (walk_at "s")
  exact .freeze fun b5 l5 k5 => .done ⟨rfl, _, _, _, _, _, _, _, rfl, k5, by walk_at "at", by walk_at "at", by walk_at "at", by walk_at "at"⟩
section
variable {S : Sc} {X : Cx S} {b : Base} {led : Led} {vs : Vs} {Q : Post Value}
theorem mo_Gl (P : Params) : methOk P 449 446 (PySem.Str.ofString "told") = true := by kernel_rfl
theorem GlA.ia {P : Params} {b : Base} {v : Value} {g : Gl} (h : GlA P b v g) : ∃ t1 t2 t3 t4 t5 v1 v2 v3 v4 v5, IA P b v 449 [("text", t1, v1), ("x", t2, v2), ("y", t3, v3), ("width", t4, v4), ("size", t5, v5)] := let ⟨t1, t2, t3, t4, t5, tk, v1, v2, v3, v4, h, _, _, _, _⟩ := h; ⟨t1, t2, t3, t4, t5, _, _, _, _, _, h⟩
theorem s_gtold {v : Value} {g : Gl} (hr : Room X 2) (h : GlA X.am.w.params b v g) (q : ∀ r b', Le b b' → GTell b' r g → Q r b' led vs) : Wp X (call (.ref 446) [v]) b led vs Q :=
  wDef (G := f_Glyph_told) X.hh (f_Glyph_told_ok X.ok) hr.d (by kernel_rfl) fun L => wMono (b_Gl_told _ hr.sub h) fun fl b' led' _ l ⟨e, h⟩ => by rw [e]; exact q _ _ l h
theorem wMethGl {v : Value} {g : Gl} {pl : Sem Bool} {Q : Post (Value × List Value)} (hx : GlA X.am.w.params b v g) (q : Q (.ref 446, [v]) b led vs) : Wp X (getMethod v (PySem.Str.ofString "told") pl) b led vs Q := by
  obtain ⟨_, _, _, _, _, _, _, _, _, _, h⟩ := hx.ia
  exact wMethI h (by simp) (mo_Gl _) q
end
theorem b_Sh_init (Y : Cx f_TextSheet_init.sc) {b : Base} {led : Led} (x dx : Addr) {v1 v2 v3 v4 : Value} :
    Wp Y (execs (bodyOf f_TextSheet_init.st) Y.env) b ((dx, dictOf (mkEs Y.am.w.params []) 0) :: (x, instObj 470 dx) :: led) [some (.ref x), some v1, some v2, some v3, some v4] (fun fl b' led' _ => retOf fl = .none ∧ led' = led ∧ ∃ t1 t2 t3 t4, IA Y.am.w.params b' (.ref x) 470 [("operations", t1, v1), ("fonts", t2, v2), ("forms", t3, v3), ("own", t4, v4)]) := by
  refine wFz ?_
  walk_at "body"
  repeat' (walk_at "s")
  exact .freeze fun b1 l1 k1 => .freeze fun b2 l2 k2 => .done ⟨rfl, rfl, _, _, _, _, ⟨_, _, _, rfl, k2, l2 _ _ k1⟩⟩
theorem b_CM_init (Y : Cx f_CMap_init.sc) {b : Base} {led : Led} (x dx : Addr) {v1 v2 : Value} :
    Wp Y (execs (bodyOf f_CMap_init.st) Y.env) b ((dx, dictOf (mkEs Y.am.w.params []) 0) :: (x, instObj 650 dx) :: led) [some (.ref x), some v1, some v2] (fun fl b' led' _ => retOf fl = .none ∧ led' = led ∧ ∃ t1 t2, IA Y.am.w.params b' (.ref x) 650 [("spaces", t1, v1), ("chars", t2, v2)]) := by
  refine wFz ?_
  walk_at "body"
  repeat' (walk_at "s")
  exact .freeze fun b1 l1 k1 => .freeze fun b2 l2 k2 => .done ⟨rfl, rfl, _, _, ⟨_, _, _, rfl, k2, l2 _ _ k1⟩⟩
theorem b_Fo_init (Y : Cx f_Font_init.sc) {b : Base} {led : Led} (x dx : Addr) {v1 v2 v3 v4 v5 v6 v7 : Value} :
    Wp Y (execs (bodyOf f_Font_init.st) Y.env) b ((dx, dictOf (mkEs Y.am.w.params []) 0) :: (x, instObj 787 dx) :: led) [some (.ref x), some v1, some v2, some v3, some v4, some v5, some v6, some v7] (fun fl b' led' _ => retOf fl = .none ∧ led' = led ∧
      ∃ t1 t2 t3 t4 t5 t6 t7, IA Y.am.w.params b' (.ref x) 787 [("names", t1, v1), ("cutting", t2, v2), ("unicode", t3, v3), ("rows", t4, v4), ("default", t5, v5), ("unit", t6, v6), ("standard", t7, v7)]) := by
  refine wFz ?_
  walk_at "body"
  repeat' (walk_at "s")
  exact .freeze fun b1 l1 k1 => .freeze fun b2 l2 k2 => .done ⟨rfl, rfl, _, _, _, _, _, _, _, ⟨_, _, _, rfl, k2, l2 _ _ k1⟩⟩
section
variable {S : Sc} {X : Cx S} {b : Base} {led : Led} {vs : Vs} {Q : Post Value}
theorem s_Sheet {v1 v2 v3 v4 : Value} (hr : Room X 1) (q : ∀ r b' t1 t2 t3 t4, Le b b' → IA X.am.w.params b' r 470 [("operations", t1, v1), ("fonts", t2, v2), ("forms", t3, v3), ("own", t4, v4)] → Q r b' led vs) : Wp X (call (.ref 470) [v1, v2, v3, v4]) b led vs Q :=
  wMake (G := f_TextSheet_init) (mk_Sh _) (f_TextSheet_init_ok X.ok) (by have := hr.1; omega) (fun _ => by kernel_rfl) fun x dx L =>
    wMono (b_Sh_init _ x dx) fun fl b' led' _ l ⟨e, e', t1, t2, t3, t4, h⟩ => ⟨e, by rw [e']; exact q _ _ _ _ _ _ l h⟩
theorem s_CMap {v1 v2 : Value} (hr : Room X 1) (q : ∀ r b' t1 t2, Le b b' → IA X.am.w.params b' r 650 [("spaces", t1, v1), ("chars", t2, v2)] → Q r b' led vs) : Wp X (call (.ref 650) [v1, v2]) b led vs Q :=
  wMake (G := f_CMap_init) (mk_CM _) (f_CMap_init_ok X.ok) (by have := hr.1; omega) (fun _ => by kernel_rfl) fun x dx L =>
    wMono (b_CM_init _ x dx) fun fl b' led' _ l ⟨e, e', t1, t2, h⟩ => ⟨e, by rw [e']; exact q _ _ _ _ l h⟩
theorem s_Font {v1 v2 v3 v4 v5 v6 v7 : Value} (hr : Room X 1) (q : ∀ r b' t1 t2 t3 t4 t5 t6 t7, Le b b' → IA X.am.w.params b' r 787 [("names", t1, v1), ("cutting", t2, v2), ("unicode", t3, v3), ("rows", t4, v4), ("default", t5, v5), ("unit", t6, v6), ("standard", t7, v7)] → Q r b' led vs) :
    Wp X (call (.ref 787) [v1, v2, v3, v4, v5, v6, v7]) b led vs Q :=
  wMake (G := f_Font_init) (mk_Fo _) (f_Font_init_ok X.ok) (by have := hr.1; omega) (fun _ => by kernel_rfl) fun x dx L =>
    wMono (b_Fo_init _ x dx) fun fl b' led' _ l ⟨e, e', t1, t2, t3, t4, t5, t6, t7, h⟩ => ⟨e, by rw [e']; exact q _ _ _ _ _ _ _ _ _ l h⟩
end
local macro_rules | `(tactic| walk_at "at") => `(tactic| first | (refine GlA.mono (by assumption) ?_; walk_at "sub") | (refine GTell.mono (by assumption) ?_; walk_at "sub") | fail "no")
local macro_rules | `(tactic| walk_at "s") => `(tactic| first
  | ((with_reducible refine' wMethGl ?h ?_); (case h => walk_at "at")) | fail "no")
/-! list displays by for, within closures, and assigned -/
structure CompScC {S : Sc} (X : Cx S) (scope : PySem.Scope) (cl : List (PySem.Str × Addr)) (S' : Sc) : Prop where
  kind : scope.kind = .function
  clos : closureFor scope X.env = pure cl
  cell : ∀ x ∈ scope.names, x.2 ≠ .cell
  names : ∀ x ∈ scope.names, x.2 = .local → scope.names.lookup x.1 = some .local
  nd : S'.ns.Nodup
  loc : ∀ x ∈ S'.ns, (relabel scope X.env).names.lookup x = some .local ∧ x ≠ "__debug__"
  glo : ∀ y ∈ S'.gs, (relabel scope X.env).names.lookup y.1 = some .globalImplicit ∧ y.1 ≠ "__debug__" ∧ (X.am.mg y.1 = some y.2 ∨ (X.am.mg y.1 = none ∧ X.am.mb y.1 = some y.2))
@[reducible] noncomputable def Cx.compC {S : Sc} (X : Cx S) {scope : PySem.Scope} {cl : List (PySem.Str × Addr)} {S' : Sc} (h : CompScC X scope cl S') (C : Addr) (vs : Vs) : Cx S' := ⟨X.am, X.A, compEnvC scope cl C X.env, X.fs vs, X.ok, X.hh, h.kind, X.gl, X.bi, h.nd, h.loc, h.glo⟩
theorem relabel_same {scope : PySem.Scope} {env : Env} (h : ∀ x ∈ scope.names, x.2 ≠ .free) : relabel scope env = scope := by
  unfold relabel
  have : scope.names.map (fun (n, k) => if (k == NameKind.free && env.scope.kind == .function && env.kindOf n == some .cell) then (n, NameKind.cell) else (n, k)) = scope.names := by
    conv => { rhs; rw [← List.map_id scope.names] }
    refine List.map_congr_left fun x hx => ?_
    obtain ⟨n, k⟩ := x
    have hk := h _ hx
    dsimp only at hk ⊢
    rw [if_neg]
    · rfl
    · intro e
      simp only [Bool.and_eq_true, beq_iff_eq] at e
      exact hk e.1.1
  rw [this]
theorem CompSc.toC {S S' : Sc} {X : Cx S} {scope : PySem.Scope} (h : CompSc X.am scope S') : CompScC X scope [] S' := by
  have e := relabel_same (env := X.env) h.free
  refine ⟨h.kind, ?_, h.cell, h.names, h.nd, ?_, ?_⟩
  · exact closureFor_none h.free
  · rw [e]; exact h.loc
  · rw [e]; exact h.glo
theorem Holds.swapF {a : Am} {b : Base} {led : Led} {f g : Fm} {up : List Fm} {s : Shared} (H : Holds a b led (f :: g :: up) s) : Holds a b led (g :: f :: up) s :=
  ⟨H.base, H.old, H.ld, fun x hx => H.frs x (by
    rcases List.mem_cons.mp hx with rfl | hx
    · exact .tail _ (.head _)
    · rcases List.mem_cons.mp hx with rfl | hx
      · exact .head _
      · exact .tail _ (.tail _ hx)), (List.Perm.nodup_iff (List.Perm.append_left _ (List.Perm.swap _ _ _))).mp H.nd, H.gens, H.os⟩
theorem compCore {S : Sc} {X : Cx S} {b : Base} {led : Led} {vs : Vs} {elt iter : Expr} {x : PySem.Str} {px : Pos} {scope : PySem.Scope} {cl : List (PySem.Str × Addr)} {pos cpos : Pos} {gs : List (PySem.Str × Value)} {s : Shared} (use : Option (Value → Sem Unit)) {QQ : Value → Shared → Prop}
    (Inv : Nat → Base → Led → List Value → Prop) (hc : CompScC X scope cl ⟨[x], gs⟩) (hs : ∀ x, foldedSetIterable iter X.env x = pure x) (ht : ∀ it v, letOwnedTupleGo (.Name x px) it v = pure ()) (H : Holds X.am b led (X.fs vs) s)
    (h : Wp X (eval iter X.env) b led vs fun v b₁ l₁ v₁ => ∃ n P, n ≤ 100000 ∧ Its X b₁ l₁ v n P true ∧ Inv 0 b₁ l₁ [] ∧
      (∀ C i b₂ l₂ w p q ys, i < n → Le b₁ b₂ → P i w → Inv i b₂ l₂ ys → Wp (X.compC hc C v₁) (eval elt (X.compC hc C v₁).env) b₂ (q :: p :: l₂) [some w] fun y b₄ l₄ v₄ => v₄ = [some w] ∧ ∃ l₅, l₄ = q :: p :: l₅ ∧ Inv (i + 1) b₄ l₅ (ys ++ [y])) ∧
      (∀ b₂ l₂ ys D C cv k s', Le b b₂ → Le b₁ b₂ → Inv n b₂ l₂ ys → ys.length = n → Holds X.am b₂ ((D, LO ys k) :: l₂) (⟨C, [x], [cv]⟩ :: X.fs v₁) s' → compPost (model pw X.am.w) X.A (fun _ _ => False) use QQ (.ref D) C (.ok .next) s')) :
    wpAny (model pw X.am.w) X.A (comprehension (.ListComp elt [⟨.Name x px, iter, [], 0⟩] scope pos) scope X.env cpos (newList []) false (eval iter X.env) use) QQ (fun _ _ => False) s := by
  refine wpAny_comprehension_free (use := use) rfl hs hc.clos hc.kind hc.names (wGo H h fun v s₁ b₁ l₁ v₁ k₁ H₁ ⟨n, P, hn, I, h0, turn, fin⟩ => ?_)
  obtain ⟨o₀, St, hf, hit, st0, item, done, self⟩ := I.ex
  refine hit s₁ v₁ _ _ H₁ ?_
  have H₂ := H₁.alloc (o := o₀) hf s₁.toks
  generalize s₁.heap.objs.size = Ia at H₂ ⊢
  have H₃ := H₂.alloc (o := LO [] 0) rfl s₁.toks
  refine wpAny_newObj_type (wpAny_newFunctionEnv hc.cell (by intro y hy; cases hy) (fun h₁ hns₁ hsb₁ => ?_) hc.kind)
  dsimp only at hns₁ hsb₁ H₃ ⊢
  have old : ∀ y o, ((s₁.heap.push o₀).push (LO [] 0)).get? y = some o → h₁.get? y = some o := fun y o e => hsb₁.extBut y o (Nat.ne_of_lt (Heap.lt_size e)) (Heap.get?_push_of_some _ e)
  have H₄ := H₃.enter (ns := [x]) (vs := [none]) (h' := h₁) (by
    refine cast ?_ hns₁
    congr 1
    funext y
    show none = lkF [x] [none] y
    simp [lkF]) old (X.ok.big H₃.stays) (s₁.toks + 0)
  dsimp only at H₄
  generalize (s₁.heap.push o₀).objs.size = Da at H₄ ⊢
  generalize ((s₁.heap.push o₀).push (LO [] 0)).objs.size = Ca at H₄ ⊢
  have loop : ∀ s₃ : Shared, Holds X.am b₁ ((Da, LO [] 0) :: (Ia, o₀) :: l₁) ((X.compC hc Ca v₁).fs [none]) s₃ → codeAny (model pw X.am.w) X.A (.compLoop (.ListComp elt [⟨.Name x px, iter, [], 0⟩] scope pos) 0 (.ref Ia) (.ref Da) (compEnvC scope cl Ca X.env))
      (compPost (model pw X.am.w) X.A (fun _ _ => False) use QQ (.ref Da) Ca) s₃ := by
    intro s₃ H₅
    refine codeAny_compLoop_list (fun m s => ∃ i o b₂ l₂ ys k cv, m = n + 1 - i ∧ i ≤ n ∧ Le b₁ b₂ ∧ Holds X.am b₂ ((Da, LO ys k) :: (Ia, o) :: l₂) ((X.compC hc Ca v₁).fs [cv]) s ∧ St Ia i o ∧ Inv i b₂ l₂ ys ∧ ys.length = i) ?_ (n + 1)
      ⟨0, o₀, b₁, l₁, [], 0, none, rfl, Nat.zero_le _, .rfl, H₅, st0 _, h0, rfl⟩ (ht _)
    rintro m s ⟨i, o, b₂, l₂, ys, k, cv, rfl, hi, k₂, Hs, st, hI, hlen⟩
    have D := Hs.ld (Ia, o) (.tail _ (.head _))
    have nb : b₁ Ia = none := by
      cases q : b₁ Ia with
      | none => rfl
      | some o₂ => have := k₂ _ _ q; rw [D.2] at this; cases this
    by_cases hlt : i < n
    · refine item i s _ o _ _ hlt (fun x o e => Hs.base _ _ (k₂ _ _ e)) D.1 nb st fun w h' o' tk hP st' e' hk => ?_
      have H₆ := Hs.put (.there .here) hk e' tk
      refine wGoE (X := X.compC hc Ca v₁) H₆ (wAsName (Q := fun _ b' l' v' => b' = b₂ ∧ l' = (Da, LO ys k) :: (Ia, o') :: l₂ ∧ v' = [some w]) .here ⟨rfl, rfl, rfl⟩) fun _ s₇ b₇ l₇ v₇ k₇ H₇ q₇ => ?_
      obtain ⟨rfl, rfl, rfl⟩ := q₇
      refine wGoE (X := X.compC hc Ca v₁) H₇ (turn Ca i _ l₂ w _ _ ys hlt k₂ hP hI) fun y s₈ b₈ l₈ v₈ k₈ H₈ q₈ => ?_
      obtain ⟨rfl, l₅, rfl, hI'⟩ := q₈
      refine wGoE (X := X.compC hc Ca v₁) H₈ (wAppend (Q := fun _ b' l' v' => b' = b₈ ∧ (∃ k', l' = (Da, LO (ys ++ [y]) k') :: (Ia, o') :: l₅) ∧ v' = [some w]) .here (by rw [hlen]; simp [sizeLine]; omega) fun k' => ⟨rfl, ⟨k', rfl⟩, rfl⟩) fun _ s₉ b₉ l₉ v₉ k₉ H₉ q₉ => ?_
      obtain ⟨rfl, ⟨k', rfl⟩, rfl⟩ := q₉
      exact ⟨n + 1 - (i + 1), by omega, i + 1, o', _, l₅, ys ++ [y], k', some w, rfl, hlt, k₂.trans k₈, H₉, st', hI', by simp [hlen]⟩
    · obtain rfl : i = n := Nat.le_antisymm hi (Nat.not_lt.mp hlt)
      refine done s _ o _ _ (fun x o e => Hs.base _ _ (k₂ _ _ e)) D.1 nb st fun h' tk hk => ?_
      have H₆ := (Hs.perm (List.Perm.swap _ _ _)).letgo hk tk
      exact fin _ _ _ _ _ _ _ _ (k₁.trans k₂) k₂ hI hlen H₆
  exact codeAny_compStart_list (loop _ H₄) (self rfl 0 _ _ _ _ _ (H₄.ld (Ia, o₀) (.tail _ (.head _))).1 (st0 _) (loop _ H₄))
section
variable {S : Sc} {X : Cx S} {b : Base} {led : Led} {vs : Vs}
theorem wListCompC {elt iter : Expr} {x : PySem.Str} {px : Pos} {scope : PySem.Scope} {cl : List (PySem.Str × Addr)} {pos : Pos} {gs : List (PySem.Str × Value)} {Q : Post Value} (Inv : Nat → Base → Led → List Value → Prop) (hc : CompScC X scope cl ⟨[x], gs⟩)
    (hs : ∀ x, foldedSetIterable iter X.env x = pure x) (ht : ∀ it v, letOwnedTupleGo (.Name x px) it v = pure ())
    (h : Wp X (eval iter X.env) b led vs fun v b₁ l₁ v₁ => ∃ n P, n ≤ 100000 ∧ Its X b₁ l₁ v n P true ∧ Inv 0 b₁ l₁ [] ∧
      (∀ C i b₂ l₂ w p q ys, i < n → Le b₁ b₂ → P i w → Inv i b₂ l₂ ys → Wp (X.compC hc C v₁) (eval elt (X.compC hc C v₁).env) b₂ (q :: p :: l₂) [some w] fun y b₄ l₄ v₄ => v₄ = [some w] ∧ ∃ l₅, l₄ = q :: p :: l₅ ∧ Inv (i + 1) b₄ l₅ (ys ++ [y])) ∧
      (∀ b₂ l₂ ys D k, Le b₁ b₂ → Inv n b₂ l₂ ys → ys.length = n → Q (.ref D) b₂ ((D, LO ys k) :: l₂) v₁)) :
    Wp X (eval (.ListComp elt [⟨.Name x px, iter, [], 0⟩] scope pos) X.env) b led vs Q := .mk fun s H => by
  rw [eval_ListComp]
  refine compCore none Inv hc hs ht H (wMono h fun v b₁ l₁ v₁ l ⟨n, P, hn, I, h0, turn, fin⟩ => ⟨n, P, hn, I, h0, turn, fun b₂ l₂ ys D C cv k s' lb lb1 hI hl H' => ?_⟩)
  exact ⟨_, (H'.frs _ (.head _)).1, fun h'' hs'' => ⟨b₂, _, v₁, lb, H'.lose hs''.extBut _, fin _ _ _ _ _ lb1 hI hl⟩⟩
theorem aAssignComp {elt iter : Expr} {x y : PySem.Str} {px py : Pos} {scope : PySem.Scope} {cl : List (PySem.Str × Addr)} {pos spos : Pos} {gs : List (PySem.Str × Value)} {rest : List Stmt} {Q : Post Flow} (Inv : Nat → Base → Led → List Value → Prop) (hc : CompScC X scope cl ⟨[x], gs⟩)
    (hsw : swapsWith (.ListComp elt [⟨.Name x px, iter, [], 0⟩] scope pos) (some (.Name y py)) spos.line X.env = pure true)
    (hs : ∀ x, foldedSetIterable iter X.env x = pure x) (ht : ∀ it v, letOwnedTupleGo (.Name x px) it v = pure ())
    (h : Wp X (eval iter X.env) b led vs fun v b₁ l₁ v₁ => ∃ n P, n ≤ 100000 ∧ Its X b₁ l₁ v n P true ∧ Inv 0 b₁ l₁ [] ∧
      (∀ C i b₂ l₂ w p q ys, i < n → Le b₁ b₂ → P i w → Inv i b₂ l₂ ys → Wp (X.compC hc C v₁) (eval elt (X.compC hc C v₁).env) b₂ (q :: p :: l₂) [some w] fun y b₄ l₄ v₄ => v₄ = [some w] ∧ ∃ l₅, l₄ = q :: p :: l₅ ∧ Inv (i + 1) b₄ l₅ (ys ++ [y])) ∧
      (∀ b₂ l₂ ys D k, Le b₁ b₂ → Inv n b₂ l₂ ys → ys.length = n → ∃ v₂, LocSet S.ns v₁ y (.ref D) v₂ ∧ Wp X (execs rest X.env) b₂ ((D, LO ys k) :: l₂) v₂ Q)) :
    Wp X (execs (.Assign [.Name y py] (.ListComp elt [⟨.Name x px, iter, [], 0⟩] scope pos) spos :: rest) X.env) b led vs Q := wSeq (.mk fun s H => by
  rw [exec_Assign_Name_used _ _ _ _ hsw]
  refine wpAny_bind (wpAny_standAt (wpAny_bind ?_))
  show wpAny _ X.A (do let _ ← comprehension (.ListComp elt [⟨.Name x px, iter, [], 0⟩] scope pos) scope X.env _ (newList []) false (eval iter X.env) (some (assign (.Name y py) X.env))) _ _ s
  refine wpAny_bind (wpAny_mono (compCore (some (assign (.Name y py) X.env)) (QQ := fun _ s' => ∃ b' led' vs', Le b b' ∧ Holds X.am b' led' (X.fs vs') s' ∧ Wp X (execs rest X.env) b' led' vs' Q) Inv hc hs ht H (wMono h fun v b₁ l₁ v₁ l ⟨n, P, hn, I, h0, turn, fin⟩ => ⟨n, P, hn, I, h0, turn, fun b₂ l₂ ys D C cv k s' lb lb1 hI hl H' => ?_⟩)) (fun _ s' hq => wpAny_pure (wpAny_pure hq)) fun _ _ e => e)
  obtain ⟨v₂, hset, q⟩ := fin b₂ l₂ ys D k lb1 hI hl
  show wpAny _ X.A (assign (.Name y py) X.env (.ref D)) _ _ s'
  have H'' := H'.swapF
  refine wpAny_assign_Name (wpAny_storeName_local (X.kof hset.mem) (H''.frs _ (.head _)).1 (fun h₂ hn₂ hs₂ => ?_) (by rw [X.kind]; rfl))
  have H3 := (H''.store (f := ⟨X.L, S.ns, v₁⟩) hs₂.extBut ((hset.lk X.nd) ▸ hn₂) (s'.toks + 1)).swapF
  exact ⟨_, (H3.frs _ (.head _)).1, fun h₃ hs₃ => ⟨b₂, _, v₂, lb, H3.lose hs₃.extBut _, q⟩⟩)
theorem gsC_of {gs : List (PySem.Str × Value)} (h : gsQ gs = true) : ∀ y ∈ gs, y ∈ globTab ∨ y ∈ biTab := fun y hy => by
  have := List.all_eq_true.mp h y hy
  rcases Bool.or_eq_true_iff.mp this with q | q
  · exact .inl (tabQ_of q)
  · exact .inr (tabQ_of q)
end
/-! a loop that unpacks a list's tuples -/
section
variable {S : Sc} {X : Cx S} {b : Base} {led : Led} {vs : Vs}
theorem wForTL {elts k tpos iter body pos} (Inv : Nat → Base → Led → Vs → Prop) {Q : Post Flow}
    (h : Wp X (eval iter X.env) b led vs fun v b₁ l₁ v₁ => ∃ (x : Addr) (o : Obj) (us : List Value), v = .ref x ∧ b₁ x = some o ∧ IsLO us o ∧ (∀ u ∈ us, ∃ T, u = .ref T) ∧ Inv 0 b₁ l₁ v₁ ∧
      (∀ i b₂ l₂ v₂ w p, us[i]? = some w → Le b₁ b₂ → Inv i b₂ l₂ v₂ → Wp X (assign (.Tuple elts k tpos) X.env w) b₂ (p :: l₂) v₂ fun _ b₃ l₃ v₃ => Wp X (execs body X.env) b₃ l₃ v₃ fun f b₄ l₄ v₄ => match f with
        | .next | .cont => ∃ l₅, l₄ = p :: l₅ ∧ Inv (i + 1) b₄ l₅ v₄
        | .brk => Q .next b₄ l₄ v₄
        | .ret r => Q (.ret r) b₄ l₄ v₄) ∧
      (∀ b₂ l₂ v₂, Le b₁ b₂ → Inv us.length b₂ l₂ v₂ → Q .next b₂ l₂ v₂))
    (hs : ∀ x, foldedSetIterable iter X.env x = pure x) : Wp X (exec (.For (.Tuple elts k tpos) iter body [] pos) X.env) b led vs Q := .mk fun s H => by
  refine wpAny_For (wGo H h fun v s₁ b₁ l₁ v₁ k₁ H₁ ⟨x, o₀, us, ev, hx, ho, hT, h0, turn, fin⟩ => ?_) hs
  subst ev
  refine wpAny_pyIter_list (Has.list (.inl hx) ho H₁) ?_
  have H₂ := H₁.alloc (o := { cls := .type "list_iterator", data := .fields #[.ref x, .int 0 0] }) rfl s₁.toks
  generalize s₁.heap.objs.size = I at H₂ ⊢
  refine codeAny_forLoop_any (fun m s => ∃ (i : Nat) (o : Obj) (b₂ : Base) (l₂ : Led) (v₂ : Vs), m = us.length + 1 - i ∧ i ≤ us.length ∧ Le b₁ b₂ ∧ Holds X.am b₂ ((I, o) :: l₂) (X.fs v₂) s ∧ (o.cls = .type "list_iterator" ∧ o.data = .fields #[.ref x, .int i 0]) ∧ Inv i b₂ l₂ v₂) ?_ (us.length + 1) ⟨0, _, b₁, l₁, v₁, rfl, Nat.zero_le _, .rfl, H₂, ⟨rfl, rfl⟩, h0⟩
  rintro m s ⟨i, o, b₂, l₂, v₂, rfl, hi, k₂, Hs, st, hI⟩
  have D := Hs.ld _ (.head _)
  have hl : s.heap.IsList x us.toArray := ⟨o₀, Hs.base _ _ (k₂ _ _ hx), ho⟩
  by_cases hlt : i < us.length
  · refine wpAny_pyNext_list_item (i := i) (x := us[i]) ⟨_, D.1, st.1, st.2⟩ hl (by simp [hlt]) fun h' ⟨o', e', st'⟩ hs => ?_
    have H₃ := Hs.put .here hs.extBut e' s.toks
    have hw : us[i]? = some us[i] := List.getElem?_eq_getElem hlt
    obtain ⟨T, eT⟩ := hT us[i] (List.getElem_mem hlt)
    rw [eT] at hw ⊢
    refine wpAny_letOwnedTupleGo_listiter ⟨o', e', st'.1, st'.2⟩ ?_
    refine wGoE H₃ (turn i b₂ l₂ v₂ _ _ hw k₂ hI) fun _ s₃ b₃ l₃ v₃ k₃ H₃ q₃ => ?_
    refine wGoE H₃ q₃ fun f s₄ b₄ l₄ v₄ k₄ H₄ q₄ => ?_
    cases f with
    | next => obtain ⟨l₅, rfl, hI'⟩ := q₄; exact ⟨us.length + 1 - (i + 1), by omega, i + 1, o', b₄, l₅, v₄, rfl, hlt, (k₂.trans k₃).trans k₄, H₄, st', hI'⟩
    | cont => obtain ⟨l₅, rfl, hI'⟩ := q₄; exact ⟨us.length + 1 - (i + 1), by omega, i + 1, o', b₄, l₅, v₄, rfl, hlt, (k₂.trans k₃).trans k₄, H₄, st', hI'⟩
    | brk => exact ⟨b₄, l₄, v₄, ((k₁.trans k₂).trans k₃).trans k₄, H₄, q₄⟩
    | ret r => exact ⟨b₄, l₄, v₄, ((k₁.trans k₂).trans k₃).trans k₄, H₄, q₄⟩
  · obtain rfl : i = us.length := Nat.le_antisymm hi (Nat.not_lt.mp hlt)
    refine wpAny_pyNext_list_end (i := us.length) X.hh ⟨_, D.1, st.1, st.2⟩ hl (by simp) fun h' hs => ?_
    have H₃ := Hs.letgo hs s.toks
    exact wpAny_execs_nil ⟨b₂, l₂, v₂, k₁.trans k₂, H₃, fin _ _ _ k₂ hI⟩
theorem aForTL {elts k tpos iter body pos rest} (Inv : Nat → Base → Led → Vs → Prop) {Q : Post Flow} (hs : ∀ x, foldedSetIterable iter X.env x = pure x)
    (h : Wp X (eval iter X.env) b led vs fun v b₁ l₁ v₁ => ∃ (x : Addr) (o : Obj) (us : List Value), v = .ref x ∧ b₁ x = some o ∧ IsLO us o ∧ (∀ u ∈ us, ∃ T, u = .ref T) ∧ Inv 0 b₁ l₁ v₁ ∧
      (∀ i b₂ l₂ v₂ w p, us[i]? = some w → Le b₁ b₂ → Inv i b₂ l₂ v₂ → Wp X (assign (.Tuple elts k tpos) X.env w) b₂ (p :: l₂) v₂ fun _ b₃ l₃ v₃ => Wp X (execs body X.env) b₃ l₃ v₃ fun f b₄ l₄ v₄ => match f with
        | .next | .cont => ∃ l₅, l₄ = p :: l₅ ∧ Inv (i + 1) b₄ l₅ v₄
        | .brk => After X rest X.env Q .next b₄ l₄ v₄
        | .ret r => After X rest X.env Q (.ret r) b₄ l₄ v₄) ∧
      (∀ b₂ l₂ v₂, Le b₁ b₂ → Inv us.length b₂ l₂ v₂ → Wp X (execs rest X.env) b₂ l₂ v₂ Q)) : Wp X (execs (.For (.Tuple elts k tpos) iter body [] pos :: rest) X.env) b led vs Q := wSeq (wForTL Inv h hs)
theorem wTruthyT {x : Addr} {us : List Value} {n : Nat} {Q : Post Bool} (hx : Has b led x (TO us n)) (hz : us.length ≤ 100000) (q : Q (!us.isEmpty) b led vs) : Wp X (truthy (.ref x)) b led vs Q := .mk fun s H =>
  truthy_tuple (hx.tup H) (by simp; omega) (by
    rw [show (!us.toArray.isEmpty) = !us.isEmpty by simp]
    exact Rest.of (H.tk (s.toks + 1 + 1)) q)
end

/-! widths -/
noncomputable def wnum (c : Int) : Int := if c = 97 then 500 else if c = 98 then 1250 else 300
theorem b_width_in (Y : Cx f_width_in.sc) {b : Base} {led : Led} {rx tx wx : Addr} {ro wo : Obj} {k1 k2 k3 k4 kc kd : Tok} {n : Nat} {c : Int} (hr : b rx = some ro) (hro : IsLO [.ref tx] ro) (ht : b tx = some (TO [.int 97 k1, .int 98 k2, .ref wx] n))
    (hw : b wx = some wo) (hwo : IsLO [.int 500 k3, .int 1250 k4] wo) :
    Wp Y (execs (bodyOf f_width_in.st) Y.env) b led [some (.ref rx), some (.int c kc), some (.int 300 kd), none, none, none] (fun fl b' led' _ => led' = led ∧ ∃ t, retOf fl = .int (wnum c) t) := by
  refine wFz ?_
  walk_at "body"
  refine aForTL (fun i b' l' v' => l' = led ∧ (i = 1 → ¬ (c = 97 ∨ c = 98)) ∧ ∃ c1 c2 c3, v' = [some (.ref rx), some (.int c kc), some (.int 300 kd), c1, c2, c3]) (fun _ => rfl) ?_
  repeat' (walk_at "s")
  refine ⟨rx, ro, _, rfl, hr, hro, ?_, ⟨rfl, fun h => (by cases h), _, _, _, rfl⟩, ?_, ?_⟩
  · intro u hu; rw [List.mem_singleton.mp hu]; exact ⟨_, rfl⟩
  · rintro i b2 l2 v2 w p hi lb ⟨rfl, _, c1, c2, c3, rfl⟩
    have hi0 : i = 0 := by
      cases i with
      | zero => rfl
      | succ i => simp at hi
    subst hi0
    simp at hi
    subst hi
    have ht := lb _ _ ht
    have hw := lb _ _ hw
    refine wAsTup3 (.inl ht) (by walk_at "loc") (by walk_at "loc") (by walk_at "loc") ?_
    refine aIf ?_
    refine wChain (by kernel_rfl) ?_
    repeat' (walk_at "s")
    refine wLink ?_
    repeat' (walk_at "s")
    refine ite_of (fun h1 => ?_) (fun h1 => ?_)
    · refine wLast ?_
      repeat' (walk_at "s")
      have h1 := of_decide_eq_true h1
      refine ite_of (fun h2 => ?_) (fun h2 => ?_)
      · have h2 := of_decide_eq_true h2
        repeat' (walk_at "s")
        refine wLenL (.inl hw) hwo (by show 2 < 2 ^ 62; decide) fun _ => ?_
        repeat' (walk_at "s")
        have hc : c = 97 ∨ c = 98 := by omega
        refine wItemL (v := .int (wnum c) (if c = 97 then k3 else k4)) (.inl hw) hwo (by omega) (by omega) ?_ rfl ?_
        · rcases hc with rfl | rfl <;> rfl
        · exact .drop (.done ⟨rfl, _, rfl⟩)
      · have h2 := of_decide_eq_false h2
        repeat' (walk_at "s")
        exact ⟨_, rfl, rfl, fun _ => by omega, _, _, _, rfl⟩
    · have h1 := of_decide_eq_false h1
      repeat' (walk_at "s")
      exact ⟨_, rfl, rfl, fun _ => by omega, _, _, _, rfl⟩
  · rintro b2 l2 v2 lb ⟨rfl, hc, c1, c2, c3, rfl⟩
    have hc := hc rfl
    repeat' (walk_at "s")
    refine .done ⟨rfl, kd, ?_⟩
    show Value.int 300 kd = _
    rw [show wnum c = 300 by unfold wnum; rw [if_neg (fun h => hc (.inl h)), if_neg (fun h => hc (.inr h))]]
section
variable {S : Sc} {X : Cx S} {b : Base} {led : Led} {vs : Vs} {Q : Post Value}
theorem s_width_in {rx tx wx : Addr} {ro wo : Obj} {k1 k2 k3 k4 kc kd : Tok} {n : Nat} {c : Int} (h0 : Room X 1) (hr : b rx = some ro) (hro : IsLO [.ref tx] ro) (ht : b tx = some (TO [.int 97 k1, .int 98 k2, .ref wx] n))
    (hw : b wx = some wo) (hwo : IsLO [.int 500 k3, .int 1250 k4] wo) (q : ∀ t b', Le b b' → Q (.int (wnum c) t) b' led vs) : Wp X (call (.ref 737) [.ref rx, .int c kc, .int 300 kd]) b led vs Q :=
  wDef (G := f_width_in) X.hh (f_width_in_ok X.ok) h0.d (by kernel_rfl) fun L => wMono (b_width_in _ hr hro ht hw hwo) fun fl b' led' _ l ⟨e, t, e'⟩ => by rw [e, e']; exact q _ _ l
end
/-! the law's font -/
inductive FontAt (w : World) (b : Base) (v : Value) : Prop
  | mk (t1 : _) (t2 : _) (t3 : _) (t4 : _) (t5 : _) (t6 : _) (t7 : _) (nx : _) (nob : _) (nt : _) (un : _) (rx : _) (rob : _) (tx : _) (wx : _) (wob : _) (k1 : _) (k2 : _) (k3 : _) (k4 : _) (k5 : _) (n : _) (uv : _) (stx : _) (stn : _) (s1 : _) (s2 : _) (spv : _) (chx : _) (cho : _) (a1 : _) (a2 : _) (c1 : _) (c2 : _) (h1_ : IA w.params b v 787 [("names", t1, .ref nx), ("cutting", t2, .none), ("unicode", t3, un), ("rows", t4, .ref rx), ("default", t5, .int 300 k5), ("unit", t6, uv), ("standard", t7, .ref stx)]) (h2_ : b nx = some nob) (h3_ : IsLO (List.replicate 256 (.str (PySem.Str.ofString "") nt)) nob) (h4_ : b rx = some rob) (h5_ : IsLO [.ref tx] rob) (h6_ : b tx = some (TO [.int 97 k1, .int 98 k2, .ref wx] n)) (h7_ : b wx = some wob) (h8_ : IsLO [.int 500 k3, .int 1250 k4] wob) (h9_ : DecAt w.params b uv ⟨1, 3⟩) (h10_ : b stx = some (TO [] stn)) (h11_ : IA w.params b un 650 [("spaces", s1, spv), ("chars", s2, .ref chx)]) (h12_ : b chx = some cho) (h13_ : TD w b chx [([1, 32], a1, .str (PySem.Str.ofString " ") c1), ([1, 97], a2, .str (PySem.Str.ofString "x") c2)] cho) : FontAt w b v
theorem FontAt.mono {w : World} {b b' : Base} {v : Value} (h : FontAt w b v) (l : Le b b') : FontAt w b' v :=
  let ⟨t1, t2, t3, t4, t5, t6, t7, nx, nob, nt, un, rx, rob, tx, wx, wob, k1, k2, k3, k4, k5, n, uv, stx, stn, s1, s2, spv, chx, cho, a1, a2, c1, c2, h1, h2, h3, h4, h5, h6, h7, h8, h9, h10, h11, h12, h13⟩ := h
  ⟨t1, t2, t3, t4, t5, t6, t7, nx, nob, nt, un, rx, rob, tx, wx, wob, k1, k2, k3, k4, k5, n, uv, stx, stn, s1, s2, spv, chx, cho, a1, a2, c1, c2, h1.mono l, l _ _ h2, h3, l _ _ h4, h5, l _ _ h6, l _ _ h7, h8, h9.mono l, l _ _ h10, h11.mono l, l _ _ h12, h13.mono l⟩
inductive FontIA (w : World) (b : Base) (v : Value) : Prop
  | mk (t1 t2 t3 t4 t5 t6 t7 : Nat) (v1 v2 v3 v4 v5 v6 v7 : Value) (h : IA w.params b v 787 [("names", t1, v1), ("cutting", t2, v2), ("unicode", t3, v3), ("rows", t4, v4), ("default", t5, v5), ("unit", t6, v6), ("standard", t7, v7)]) : FontIA w b v
theorem FontAt.ia {w : World} {b : Base} {v : Value} (h : FontAt w b v) : FontIA w b v :=
  let ⟨t1, t2, t3, t4, t5, t6, t7, _, _, _, _, _, _, _, _, _, _, _, _, _, _, _, _, _, _, _, _, _, _, _, _, _, _, _, h1, _, _, _, _, _, _, _, _, _, _, _, _⟩ := h
  ⟨t1, t2, t3, t4, t5, t6, t7, _, _, _, _, _, _, _, h1⟩
/-- a code of one octet -/
inductive CodeAt (b : Base) (v : Value) (c : Int) : Prop
  | mk (r : _) (t1 : _) (t2 : _) (k : _) (h1_ : v = .ref r) (h2_ : b r = some (TO [.int 1 t1, .int c t2] k)) : CodeAt b v c
theorem CodeAt.mono {b b' : Base} {v : Value} {c : Int} (h : CodeAt b v c) (l : Le b b') : CodeAt b' v c := let ⟨r, t1, t2, k, e, h⟩ := h; ⟨r, t1, t2, k, e, l _ _ h⟩
noncomputable def wid (c : Int) : Dc := Dc.times ⟨wnum c, 0⟩ ⟨1, 3⟩
theorem wnum_sz (c : Int) : Sz 11 0 ⟨wnum c, 0⟩ := by
  refine ⟨?_, Nat.le_refl _⟩
  show (wnum c).natAbs < 2 ^ 11
  unfold wnum
  split
  · decide
  · split <;> decide
theorem unit_sz : Sz 1 3 ⟨1, 3⟩ := ⟨by decide, Nat.le_refl _⟩
theorem wid_sz (c : Int) : Sz 12 3 (wid c) := (wnum_sz c).times unit_sz
theorem b_fwidth (Y : Cx f_Font_width.sc) {b : Base} {led : Led} {v p : Value} {c : Int} (h0 : Room Y 4) (hv : FontAt Y.am.w b v) (hp : CodeAt b p c) :
    Wp Y (execs (bodyOf f_Font_width.st) Y.env) b led [some v, some p, none] (fun fl b' led' _ => led' = led ∧ DecAt Y.am.w.params b' (retOf fl) (wid c)) := by
  obtain ⟨t1, t2, t3, t4, t5, t6, t7, nx, nob, nt, un, rx, rob, tx, wx, wob, k1, k2, k3, k4, k5, n, uv, stx, stn, s1, s2, spv, chx, cho, a1, a2, c1, c2, h1, h2, h3, h4, h5, h6, h7, h8, h9, h10, h11, h12, h13⟩ := hv
  obtain ⟨r, q1, q2, kk, rfl, hp⟩ := hp
  have hu : handedIn uv = true := let ⟨_, _, _, _, q⟩ := h9.ia; q.handed
  walk_at "body"
  repeat' (walk_at "s")
  refine wTruthyT (.inl h10) (by simp) ?_
  repeat' (walk_at "s")
  refine wItemT (.inl hp) (by decide) (by decide) rfl rfl ?_
  repeat' (walk_at "s")
  refine s_width_in (h0.le (by decide)) h4 h5 h6 h7 h8 fun t b1 l1 => ?_
  repeat' (walk_at "s")
  refine s_decimal_of (n := .int (wnum c)) (h0.le (by decide)) ⟨_, rfl⟩ fun r1 b2 l2 d1 => ?_
  have h1 := h1.mono (l1.trans l2)
  repeat' (walk_at "s")
  refine s_times (y := .dec ⟨1, 3⟩) h0 d1 (h9.mono (l1.trans l2)) ((wnum_sz c).mono (by decide) (by decide)) (unit_sz.mono (by decide) (by decide)) fun r2 b3 l3 d2 => ?_
  exact ⟨rfl, d2⟩
noncomputable def cds (os : List UInt8) : List Int := os.map fun c => (c.toNat : Int)
theorem cds_take {os : List UInt8} {i : Nat} {c : UInt8} (h : os[i]? = some c) : cds (os.take (i + 1)) = cds (os.take i) ++ [(c.toNat : Int)] := by
  unfold cds
  rw [List.take_add_one, h, List.map_append]; rfl
theorem b_codes (Y : Cx f_Font_codes.sc) {b : Base} {led : Led} {v : Value} {os : List UInt8} {t : Tok} (hv : FontAt Y.am.w b v) (hz : os.length ≤ 1000) :
    Wp Y (execs (bodyOf f_Font_codes.st) Y.env) b led [some v, some (.bytes os.toArray t)] (fun fl b' led' _ => led' = led ∧ ∃ r o us, retOf fl = .ref r ∧ b' r = some o ∧ IsLO us o ∧ All2 (CodeAt b') us (cds os)) := by
  obtain ⟨t1, t2, t3, t4, t5, t6, t7, nx, nob, nt, un, rx, rob, tx, wx, wob, k1, k2, k3, k4, k5, n, uv, stx, stn, s1, s2, spv, chx, cho, a1, a2, c1, c2, h1, h2, h3, h4, h5, h6, h7, h8, h9, h10, h11, h12, h13⟩ := hv
  refine wFz ?_
  walk_at "body"
  repeat' (walk_at "s")
  refine wListCompC (gs := []) (fun i b' l' ys => l' = led ∧ All2 (CodeAt b') ys (cds (os.take i))) (CompSc.toC (CompSc.of Y.ok (by kernel_rfl) (by intro y hy; cases hy))) (fun _ => rfl) (fun _ _ => rfl) ?_
  repeat' (walk_at "s")
  refine ⟨os.length, _, by omega, its_bytes, ⟨rfl, .nil⟩, ?_, ?_⟩
  · rintro C i b2 l2 w p q ys hi lb ⟨c, u, hc, rfl⟩ ⟨rfl, ha⟩
    refine wFzL ?_; intro _
    repeat' (walk_at "s")
    refine .freeze fun b3 l3 h3 => .done ⟨rfl, _, rfl, rfl, ?_⟩
    rw [cds_take hc]
    exact (ha.mono fun _ _ h => h.mono l3).app (.cons ⟨_, _, _, _, rfl, h3⟩ .nil)
  · rintro b2 l2 ys D k lb ⟨rfl, ha⟩ hl
    rw [List.take_length] at ha
    exact .freeze fun b3 l3 h3 => .done ⟨rfl, _, _, _, rfl, h3, .mk, ha.mono fun _ _ h => h.mono l3⟩
section
variable {S : Sc} {X : Cx S} {b : Base} {led : Led} {vs : Vs} {Q : Post Value}
theorem mo_fwidth (P : Params) : methOk P 787 777 (PySem.Str.ofString "width") = true := by kernel_rfl
theorem mo_fcodes (P : Params) : methOk P 787 770 (PySem.Str.ofString "codes") = true := by kernel_rfl
theorem mo_ftext (P : Params) : methOk P 787 784 (PySem.Str.ofString "text") = true := by kernel_rfl
theorem wMethFont {v : Value} {f : Addr} {n : String} {pl : Sem Bool} {Q : Post (Value × List Value)} (hx : FontAt X.am.w b v) (hf : methOk X.am.w.params 787 f (PySem.Str.ofString n) = true) (hl : ∀ y ∈ ["names", "cutting", "unicode", "rows", "default", "unit", "standard"], y ≠ n) (q : Q (.ref f, [v]) b led vs) : Wp X (getMethod v (PySem.Str.ofString n) pl) b led vs Q := by
  obtain ⟨_, _, _, _, _, _, _, _, _, _, _, _, _, _, h⟩ := hx.ia
  exact wMethI h (fun y hy => hl _ (List.mem_map_of_mem (f := fun y : String × Nat × Value => y.1) hy)) hf q
theorem s_fwidth {v p : Value} {c : Int} (h0 : Room X 5) (hv : FontAt X.am.w b v) (hp : CodeAt b p c) (q : ∀ r b', Le b b' → DecAt X.am.w.params b' r (wid c) → Q r b' led vs) : Wp X (call (.ref 777) [v, p]) b led vs Q :=
  wDef (G := f_Font_width) X.hh (f_Font_width_ok X.ok) h0.d (by kernel_rfl) fun L => wMono (b_fwidth _ h0.sub hv hp) fun fl b' led' _ l ⟨e, h⟩ => by rw [e]; exact q _ _ l h
theorem s_codes {v : Value} {os : List UInt8} {t : Tok} (h0 : Room X 1) (hv : FontAt X.am.w b v) (hz : os.length ≤ 1000) (q : ∀ r o us b', Le b b' → b' r = some o → IsLO us o → All2 (CodeAt b') us (cds os) → Q (.ref r) b' led vs) : Wp X (call (.ref 770) [v, .bytes os.toArray t]) b led vs Q :=
  wDef (G := f_Font_codes) X.hh (f_Font_codes_ok X.ok) h0.d (by kernel_rfl) fun L => wMono (b_codes _ hv hz) fun fl b' led' _ l ⟨e, r, o, us, e', h1, h2, h3⟩ => by rw [e, e']; exact q _ _ _ _ l h1 h2 h3
end
local macro_rules | `(tactic| walk_at "at") => `(tactic| first | (refine FontAt.mono (by assumption) ?_; walk_at "sub") | (refine CodeAt.mono (by assumption) ?_; walk_at "sub") | fail "no")
local macro_rules | `(tactic| walk_at "s") => `(tactic| first
  | ((with_reducible refine' wMethFont ?h ?hf ?hl ?_); (case h => walk_at "at"); (case hf => first | with_reducible exact mo_fwidth _ | with_reducible exact mo_fcodes _ | with_reducible exact mo_ftext _); (case hl => decide)) | fail "no")
/-! defs with one cell -/
noncomputable def FnR.envC (F : FnR) (L : Addr) : Env := envOfC (PySem.Str.ofString F.qual) F.scope L F.f (.ref F.cd)
structure FnR.OkC (F : FnR) (a : Am) (x : PySem.Str) : Prop where
  obj : a.h₀.get? F.f = some F.obj
  code : a.h₀.CodeRec (.ref F.cd) (PySem.Str.ofString F.qual)
  kind : F.scope.kind = .function
  co : F.scope.isCoroutine = false
  gen : F.scope.isGenerator = false
  cell : F.scope.names.lookup x = some .cell
  cells : ∀ n, cellsFrom n F.scope.names [] = [(x, n)]
  nd : F.sc.ns.Nodup
  loc : ∀ x ∈ F.sc.ns, F.scope.names.lookup x = some .local
  ndb : ∀ x ∈ F.sc.ns, x ≠ "__debug__"
  glo : ∀ y ∈ F.sc.gs, F.scope.names.lookup y.1 = some .globalImplicit ∧ y.1 ≠ "__debug__"
  val : ∀ y ∈ F.sc.gs, a.mg y.1 = some y.2 ∨ (a.mg y.1 = none ∧ a.mb y.1 = some y.2)
noncomputable def FnR.chkC (F : FnR) (x : PySem.Str) : Bool :=
  (match F.scope.kind with | .function => true | _ => false) && !F.scope.isCoroutine && !F.scope.isGenerator && (match kindQ F.scope.names x with | some .cell => true | _ => false) &&
  nodupQ F.sc.ns && F.sc.ns.all (fun x => kindIs (kindQ F.scope.names x) 0) && F.sc.ns.all (fun x => !PySem.W.Fast.sEq x "__debug__") && F.sc.gs.all (fun y => kindIs (kindQ F.scope.names y.1) 1 && !PySem.W.Fast.sEq y.1 "__debug__" && !PySem.W.Fast.sEq y.1 "__name__")
theorem FnR.OkC.of {F : FnR} {a : Am} {x : PySem.Str} (A : a.Ok) (h1 : (Mine.K a.w.params).lookup F.f = some F.obj) (h2 : codeIn (Mine.K a.w.params) (.ref F.cd) (PySem.Str.ofString F.qual) = true) (h3 : F.chkC x = true) (h5 : ∀ n, cellsFrom n F.scope.names [] = [(x, n)])
    (h4 : ∀ y ∈ F.sc.gs, y ∈ globTab ∨ nsIn (Mine.K a.w.params) mainGlobals y.1 = some (some y.2) ∨ y ∈ biTab) : F.OkC a x := by
  unfold FnR.chkC at h3
  simp only [Bool.and_eq_true] at h3
  obtain ⟨⟨⟨⟨⟨⟨⟨k1, k2⟩, k3⟩, k4⟩, k5⟩, k6⟩, k8⟩, k7⟩ := h3
  refine ⟨A.K _ _ h1, codeRec_of A.K h2, ?_, by simpa using k2, by simpa using k3, ?_, h5, nodupQ_of k5, fun x hx => ?_, fun x hx e => ?_, fun y hy => ?_, fun y hy => ?_⟩
  · revert k1; cases F.scope.kind <;> simp
  · rw [kindQ_eq] at k4
    revert k4
    cases F.scope.names.lookup x with
    | none => intro h; cases h
    | some k => cases k <;> first | (intro _; rfl) | (intro h; cases h)
  · have := List.all_eq_true.mp k6 x hx
    rw [kindQ_eq] at this
    exact kindIs0 this
  · have := List.all_eq_true.mp k8 x hx
    rw [e, (PySem.W.Fast.sEq_iff).mpr rfl] at this; cases this
  · have := List.all_eq_true.mp k7 y hy
    simp only [Bool.and_eq_true, kindQ_eq] at this
    obtain ⟨⟨t1, t2⟩, _⟩ := this
    refine ⟨kindIs1 t1, fun e => ?_⟩
    rw [e, (PySem.W.Fast.sEq_iff).mpr rfl] at t2; cases t2
  · rcases h4 y hy with q | q | q
    · refine .inl ?_
      have := List.all_eq_true.mp (glob_K a.w.params) y q
      exact mg_of A.K A.g (beq_iff_eq.mp this)
    · exact .inl (mg_of A.K A.g q)
    · refine .inr ⟨?_, A.bl _ _ q⟩
      have := List.all_eq_true.mp (bi_K a.w.params) y q
      exact mg_none_of A.K A.g (beq_iff_eq.mp (Bool.and_eq_true_iff.mp this).1)
@[reducible] noncomputable def Cx.subC {S : Sc} (X : Cx S) (G : FnR) {x : PySem.Str} (hG : G.OkC X.am x) (A : Around) (hh : A.handled = none) (L : Addr) (vs : Vs) : Cx G.sc := ⟨X.am, A.deeper (G.envC L), G.envC L, X.fs vs, X.ok, hh, hG.kind, rfl, rfl, hG.nd, fun x hx => ⟨hG.loc x hx, hG.ndb x hx⟩, fun y hy => ⟨(hG.glo y hy).1, (hG.glo y hy).2, hG.val y hy⟩⟩
theorem Holds_adopt {a : Am} {b : Base} {led : Led} {fs : List Fm} {s : Shared} (H : Holds a b led fs s) {x : Addr} {o : Obj} (hx : s.heap.get? x = some o) (hb : b x = none) (h1 : ∀ p ∈ led, p.1 ≠ x) (h2 : ∀ f ∈ fs, f.L ≠ x) : Le b (put b x o) ∧ Holds a (put b x o) led fs s := by
  have k : ∀ y, y ≠ x → put b x o y = b y := fun y h => if_neg h
  refine ⟨le_put hb, fun y o' e => ?_, fun y o' e => le_put hb _ _ (H.old y o' e), fun p hp => ⟨(H.ld p hp).1, ?_⟩, fun f hf => ⟨(H.frs f hf).1, ?_, (H.frs f hf).2.2⟩, H.nd, H.gens, H.os⟩
  · by_cases q : y = x
    · subst q; rw [put_self] at e; cases e; exact hx
    · rw [k y q] at e; exact H.base y o' e
  · rw [k _ (h1 p hp)]; exact (H.ld p hp).2
  · rw [k _ (h2 f hf)]; exact (H.frs f hf).2.1
theorem lkF_none : ∀ (ns : List PySem.Str) (k : Nat), lkF ns (List.replicate k none) = fun _ => none := by
  intro ns
  induction ns with
  | nil => intro k; funext x; cases k <;> rfl
  | cons n ns ih =>
    intro k
    funext x
    cases k with
    | zero => rfl
    | succ k => simp only [List.replicate_succ, lkF, ih k]; split <;> rfl
section
variable {S : Sc} {G : FnR} {X : Cx S} {b : Base} {led : Led} {vs : Vs}
theorem wDefC {x : PySem.Str} (hA : X.A.handled = none) (hG : G.OkC X.am x) {v : Value} {Q : Post Value} (hroom : X.A.depth < recursionLimit)
    (hb : bindArgs G.fd ⟨[v], []⟩ = pure [(x, v)])
    (h : ∀ L b' o, Le b b' → b' (L + 1) = some o → o.data = .cell (some v) → Wp (X.subC G hG X.A hA L vs) (execs (bodyOf G.st) (G.envC L)) b' led (List.replicate G.sc.ns.length none) fun fl b'' led' _ => Q (retOf fl) b'' led' vs) :
    Wp X (call (.ref G.f) [v]) b led vs Q := .mk fun s H => by
  refine wpAny_call (codeAny_call_function (fd := G.fd) (body := bodyOf G.st) hroom (H.stays _ _ hG.obj) rfl hG.co hG.gen rfl (hG.code.keeps H.stays) (BindsTo.of_eq hb _ _ _ _ ?_))
  refine wpAny_newFunctionEnv_cells hG.kind (fun y hy => .inr ?_) fun env he s' x' => ?_
  · rw [List.mem_singleton.mp hy]
    refine ⟨hG.cell, ?_⟩
    show ((cellsFrom _ G.scope.names []).lookup x).isSome = true
    rw [hG.cells]
    simp [List.lookup]
  have e : env = G.envC s.heap.objs.size := he
  subst e
  have hcl : (G.envC s.heap.objs.size).cells.lookup x = some (s.heap.objs.size + 1) := by
    show (cellsFrom _ G.scope.names []).lookup x = _
    rw [hG.cells]
    simp [List.lookup]
  have hkx : (G.envC s.heap.objs.size).kindOf x = some .cell := hG.cell
  have hcell := x'.cell _ _ hcl
  have hm : bindC (G.envC s.heap.objs.size).kindOf [(x, v)] (fun _ => none) x = some v := by
    unfold bindC bindC
    rw [if_neg (by rw [hkx]; decide)]
    exact if_pos rfl
  rw [hm] at hcell
  obtain ⟨o, ho, hd⟩ := hcell
  obtain ⟨h₁, tk, rfl⟩ := x'.toInCall.same
  have hk := x'.toInCall.keep
  have hns := x'.toInCall.ns
  have hl : bindL (G.envC s.heap.objs.size).kindOf [(x, v)] (fun _ => none) = lkF G.sc.ns (List.replicate G.sc.ns.length none) := by
    rw [lkF_none]
    unfold bindL bindL
    rw [if_neg (by rw [hkx]; decide)]
  rw [hl] at hns
  have H1 := H.enter hns hk (X.ok.big H.stays) tk
  have hnew : ∀ y o, s.heap.get? y = some o → y ≠ s.heap.objs.size + 1 := fun y o e => Nat.ne_of_lt (Nat.lt_succ_of_lt (Heap.lt_size e))
  obtain ⟨l, H2⟩ := Holds_adopt H1 (x := s.heap.objs.size + 1) ho (by
    cases q : b (s.heap.objs.size + 1) with
    | none => rfl
    | some o' => exact absurd rfl (hnew _ _ (H.base _ _ q))) (fun p hp => hnew _ _ (H.ld p hp).1) (fun f hf => by
    rcases List.mem_cons.mp hf with rfl | hf
    · exact Nat.ne_of_lt (Nat.lt_succ_self _)
    · obtain ⟨o', e'⟩ := Ns_lt (H.frs f hf).1
      exact hnew _ _ e')
  refine ⟨(X.ok.lim.keeps H.stays).keeps hk, codeAny_func ?_⟩
  refine wpAny_mono ((h s.heap.objs.size _ o l put_self hd).go _ H2) (fun fl s' ⟨b', led', vs', l', H', q⟩ => ?_) fun _ _ e => e.elim
  exact ⟨b', led', vs, l.trans l', H'.pop, q⟩
/-- a name that is a cell -/
theorem wCellName {x : PySem.Str} {pos : Pos} {c : Addr} {o : Obj} {v : Value} {Q : Post Value} (hk : X.env.kindOf x = some .cell) (hc : X.env.cells.lookup x = some c) (ho : b c = some o) (hd : o.data = .cell (some v)) (hn : (x == ("__debug__" : PySem.Str)) = false) (q : Q v b led vs) :
    Wp X (eval (.Name x pos) X.env) b led vs Q := .mk fun s H => wpAny_Name (wpAny_loadName_cell X.kind hk hc ⟨o, H.base _ _ ho, hd⟩ (Rest.of H q)) hn
end
/-! texts -/
section
variable {S : Sc} {X : Cx S} {b : Base} {led : Led} {vs : Vs}
theorem wMethSplit {x : PySem.Str} {t : Tok} {pl : Sem Bool} {Q : Post (Value × List Value)} (q : Q (.builtin "str.split", [.str x t]) b led vs) : Wp X (getMethod (.str x t) (PySem.Str.ofString "split") pl) b led vs Q := .mk fun s H => GM.split (Rest.of H q)
theorem wMethJoin {x : PySem.Str} {t : Tok} {pl : Sem Bool} {Q : Post (Value × List Value)} (q : Q (.builtin "str.join", [.str x t]) b led vs) : Wp X (getMethod (.str x t) (PySem.Str.ofString "join") pl) b led vs Q := .mk fun s H => GM.join (Rest.of H q)
theorem wMethLower {x : PySem.Str} {t : Tok} {pl : Sem Bool} {Q : Post (Value × List Value)} (q : Q (.builtin "str.lower", [.str x t]) b led vs) : Wp X (getMethod (.str x t) (PySem.Str.ofString "lower") pl) b led vs Q := .mk fun s H => GM.lower (Rest.of H q)
open PySem.Builtin PySem.Builtin.Str in
theorem wSplit0 {x : PySem.Str} {t : Tok} {Q : Post Value} (hsz : x.length ≤ sizeLine) (hsz2 : (spaceWords x (x.length + 1)).length ≤ sizeLine) (q : ∀ r us k, StrsAre us (Txt.words x) → Q (.ref r) b ((r, LO us k) :: led) vs) : Wp X (call (.builtin "str.split") [.str x t]) b led vs Q := .mk fun s H => by
  refine call_meets F.slot_str_split (typeIs_str _ _ _) F.entry_str_split (F.args_str_split_1 _) (meets_str_split_space x t hsz hsz2) ?_
  cases hw : spaceWords x (x.length + 1) == [(0, x.length)]
  · simp only [Bool.false_eq_true, if_false]
    rw [strsFrom_eq]
    have H1 := H.alloc (o := LO (strValues (numbered s.toks (PySem.wordsOf x))) 0) rfl
    have e : (numbered s.toks (PySem.wordsOf x)).map (·.1) = Txt.words x := (numbered_texts _ _).trans (if_neg (ne_true_of_eq_false hw)).symm
    refine Rest.of (H1 _) (q _ _ 0 ?_)
    rw [← e]
    exact strsAre_map
  · simp only [if_true]
    have H1 := H.alloc (o := LO (strValues [(x, t)]) 0) rfl s.toks
    have e : Txt.words x = [x] := if_pos hw
    refine Rest.of H1 (q _ _ 0 ?_)
    rw [e]; exact .cons _ _ .nil
open PySem.Builtin PySem.Builtin.Str in
theorem wJoin {x : PySem.Str} {t : Tok} {D : Addr} {o : Obj} {us : List Value} {ys : List PySem.Str} {Q : Post Value} (hx : Has b led D o) (ho : IsLO us o) (hs : StrsAre us ys) (hok : JoinOk x ys = true) (q : ∀ t', Q (.str (Txt.join x ys) t') b led vs) :
    Wp X (call (.builtin "str.join") [.str x t, .ref D]) b led vs Q := .mk fun s H => by
  have : ∃ l : List (PySem.Str × Tok), us = strValues l ∧ l.map (·.1) = ys := by
    clear hok q ho
    induction hs with
    | nil => exact ⟨[], rfl, rfl⟩
    | cons y t _ ih => obtain ⟨l, e1, e2⟩ := ih; exact ⟨(y, t) :: l, by rw [e1]; rfl, by rw [← e2]; rfl⟩
  obtain ⟨l, rfl, e2⟩ := this
  exact SC.join (hx.list ho H) e2 hok fun t' k => Rest.of (H.tk _) (q t')
open PySem.Builtin PySem.Builtin.Str in
theorem wLower {x : PySem.Str} {t : Tok} {Q : Post Value} (hf : tooLong (Txt.lower x).length = false) (q : ∀ t, Q (.str (Txt.lower x) t) b led vs) : Wp X (call (.builtin "str.lower") [.str x t]) b led vs Q := .mk fun s H =>
  SC.lower hf (Rest.of (H.tk _) (q _))
theorem wChr {i : Int} {t : Tok} {Q : Post Value} (h0 : 0 ≤ i) (h1 : i ≤ 1114111) (q : ∀ t, Q (.str ⟨#[i.toNat]⟩ t) b led vs) : Wp X (call (.builtin "chr") [.int i t]) b led vs Q := .mk fun s H =>
  chr_of_range h0 h1 (Rest.of (H.tk _) (q _))
open PySem.Builtin PySem.Builtin.Str in
theorem wSliceNs {value : Expr} {j : Int} {k : Nat} {p p' pos : Pos} {Q : Post Value} (hv : ∀ o r, letTemporaryGo value o r = pure ()) (h : Wp X (eval value X.env) b led vs fun v b₁ l₁ v₁ => ∃ x t, v = .str x t ∧ x.length ≤ sizeLine ∧ ∀ t' r, Q (.str (Txt.slice x none (some j)) t') b₁ (r :: l₁) v₁) :
    Wp X (eval (.Subscript value (.Slice none (some (.Constant (.int j) k p')) none p) pos) X.env) b led vs Q := .mk fun s H => by
  refine wpAny_Subscript_str_slice (wGo H h fun v s₁ b₁ l₁ v₁ k₁ H₁ ⟨x, t, ev, hz, q⟩ => ?_) hv
  refine wGoE H₁ (wPartNone (Q := fun w b' l' v' => w = .none ∧ b' = b₁ ∧ l' = l₁ ∧ v' = v₁) ⟨rfl, rfl, rfl, rfl⟩) fun vl s₂ b₂ l₂ v₂ k₂ H₂ ⟨e1, e2, e3, e4⟩ => ?_
  subst e1 e2 e3 e4
  refine wGoE H₂ (wPartInt (i := j) (k := k) (pos := p') (Q := fun w b' l' v' => (∃ u, w = .int j u) ∧ b' = _ ∧ l' = _ ∧ v' = _) fun u => ⟨⟨u, rfl⟩, rfl, rfl, rfl⟩) fun vu s₃ b₃ l₃ v₃ k₃ H₃ ⟨⟨u, e1⟩, e2, e3, e4⟩ => ?_
  subst e1 e2 e3 e4
  refine ⟨x, t, none, some (j, u), ev, rfl, rfl, post_val_or_str ⟨Nat.le_trans (Txt.slice_le x _ _) hz, fun t' tk => ?_⟩⟩
  have H4 := H₃.alloc (o := { cls := .type "slice", data := .fields #[.none, .int j u, .none] }) rfl tk
  exact ⟨_, _, _, k₁, H4, q t' _⟩
end
theorem gs_cons {P : Params} {x : PySem.Str} {v : Value} {gs : List (PySem.Str × Value)} (h : (x, v) ∈ globTab ∨ nsIn (Mine.K P) mainGlobals x = some (some v) ∨ (x, v) ∈ biTab) (k : ∀ y ∈ gs, y ∈ globTab ∨ nsIn (Mine.K P) mainGlobals y.1 = some (some y.2) ∨ y ∈ biTab) :
    ∀ y ∈ (x, v) :: gs, y ∈ globTab ∨ nsIn (Mine.K P) mainGlobals y.1 = some (some y.2) ∨ y ∈ biTab := fun y hy => by
  rcases List.mem_cons.mp hy with rfl | hy
  · exact h
  · exact k y hy
theorem f_ascii_names_ok {a : Am} (A : a.Ok) : f_ascii_names.Ok a := .of A (by kernel_rfl) (by kernel_rfl) (by kernel_rfl) (gs_cons (.inr (.inr (tabQ_of (by kernel_rfl)))) (gs_cons (.inr (.inl (gs_LOW_NAMES _))) (gs_cons (.inr (.inl (gs_MIDDLE_NAMES _))) (gs_cons (.inr (.inl (gs_HIGH_NAMES _))) (fun _ h => by cases h)))))
theorem f_latin_names_ok {a : Am} (A : a.Ok) : f_latin_names.Ok a := .of A (by kernel_rfl) (by kernel_rfl) (by kernel_rfl) (gs_cons (.inr (.inl (gs_LATIN_NAMES _))) (fun _ h => by cases h))
theorem f_known_code_ok {a : Am} (A : a.Ok) : f_known_code.Ok a := .of A (by kernel_rfl) (by kernel_rfl) (by kernel_rfl) (gsQ_of (by kernel_rfl))
@[reducible] noncomputable def f_part2 : FnR := ⟨725, 724, "part_text", "part_text", kstm 67, .none, Mine.ks "paperhold.encodings" 1146, ⟨[PySem.Str.ofString "code", PySem.Str.ofString "codes"], [(PySem.Str.ofString "known_code", .ref 720), (PySem.Str.ofString "len", .builtin "len")]⟩⟩
theorem f_part2_ok {a : Am} (A : a.Ok) : f_part2.OkC a (PySem.Str.ofString "part") := .of A (by kernel_rfl) (by kernel_rfl) (by kernel_rfl) (fun n => by kernel_rfl) (gsQ_of (by kernel_rfl))
/-- texts of which none is empty -/
noncomputable def NoEmp (us : List Value) : Prop := ∃ ys, StrsAre us ys ∧ (ys.any (· == PySem.Str.ofString "")) = false
theorem strs_app {us ws : List Value} {ys zs : List PySem.Str} (h : StrsAre us ys) (k : StrsAre ws zs) : StrsAre (us ++ ws) (ys ++ zs) := by
  induction h with
  | nil => exact k
  | cons y t _ ih => exact .cons y t ih
theorem NoEmp.app {us ws : List Value} (h : NoEmp us) (k : NoEmp ws) : NoEmp (us ++ ws) := by
  obtain ⟨ys, h1, h2⟩ := h
  obtain ⟨zs, k1, k2⟩ := k
  exact ⟨ys ++ zs, strs_app h1 k1, by rw [List.any_append, h2, k2]; rfl⟩
theorem NoEmp.one {y : PySem.Str} {t : Tok} (h : (y == PySem.Str.ofString "") = false) : NoEmp [.str y t] := ⟨[y], .cons _ _ .nil, by rw [List.any_cons, h]; rfl⟩
theorem NoEmp.nil : NoEmp [] := ⟨[], .nil, rfl⟩
theorem chr_ne {n : Nat} : ((⟨#[n]⟩ : PySem.Str) == PySem.Str.ofString "") = false := by
  rw [beq_eq_false_iff_ne]
  intro e
  have := congrArg (fun x : PySem.Str => x.cps.size) e
  rw [show (PySem.Str.ofString "").cps.size = 0 by kernel_rfl] at this
  cases this
noncomputable abbrev sLOW : PySem.Str := PySem.Str.ofString "space exclam quotedbl numbersign dollar percent ampersand quotesingle parenleft parenright asterisk plus comma hyphen period slash zero one two three four five six seven eight nine colon semicolon less equal greater question at"
noncomputable def cLOW : List Nat := [115, 112, 97, 99, 101, 32, 101, 120, 99, 108, 97, 109, 32, 113, 117, 111, 116, 101, 100, 98, 108, 32, 110, 117, 109, 98, 101, 114, 115, 105, 103, 110, 32, 100, 111, 108, 108, 97, 114, 32, 112, 101, 114, 99, 101, 110, 116, 32, 97, 109, 112, 101, 114, 115, 97, 110, 100, 32, 113, 117, 111, 116, 101, 115, 105, 110, 103, 108, 101, 32, 112, 97, 114, 101, 110, 108, 101, 102, 116, 32, 112, 97, 114, 101, 110, 114, 105, 103, 104, 116, 32, 97, 115, 116, 101, 114, 105, 115, 107, 32, 112, 108, 117, 115, 32, 99, 111, 109, 109, 97, 32, 104, 121, 112, 104, 101, 110, 32, 112, 101, 114, 105, 111, 100, 32, 115, 108, 97, 115, 104, 32, 122, 101, 114, 111, 32, 111, 110, 101, 32, 116, 119, 111, 32, 116, 104, 114, 101, 101, 32, 102, 111, 117, 114, 32, 102, 105, 118, 101, 32, 115, 105, 120, 32, 115, 101, 118, 101, 110, 32, 101, 105, 103, 104, 116, 32, 110, 105, 110, 101, 32, 99, 111, 108, 111, 110, 32, 115, 101, 109, 105, 99, 111, 108, 111, 110, 32, 108, 101, 115, 115, 32, 101, 113, 117, 97, 108, 32, 103, 114, 101, 97, 116, 101, 114, 32, 113, 117, 101, 115, 116, 105, 111, 110, 32, 97, 116]
theorem e_LOW : sLOW = ⟨cLOW.toArray⟩ := by
  unfold sLOW
  rw [PySem.Str.ofString_eq_toList, show ("space exclam quotedbl numbersign dollar percent ampersand quotesingle parenleft parenright asterisk plus comma hyphen period slash zero one two three four five six seven eight nine colon semicolon less equal greater question at" : String).toList = ['s', 'p', 'a', 'c', 'e', ' ', 'e', 'x', 'c', 'l', 'a', 'm', ' ', 'q', 'u', 'o', 't', 'e', 'd', 'b', 'l', ' ', 'n', 'u', 'm', 'b', 'e', 'r', 's', 'i', 'g', 'n', ' ', 'd', 'o', 'l', 'l', 'a', 'r', ' ', 'p', 'e', 'r', 'c', 'e', 'n', 't', ' ', 'a', 'm', 'p', 'e', 'r', 's', 'a', 'n', 'd', ' ', 'q', 'u', 'o', 't', 'e', 's', 'i', 'n', 'g', 'l', 'e', ' ', 'p', 'a', 'r', 'e', 'n', 'l', 'e', 'f', 't', ' ', 'p', 'a', 'r', 'e', 'n', 'r', 'i', 'g', 'h', 't', ' ', 'a', 's', 't', 'e', 'r', 'i', 's', 'k', ' ', 'p', 'l', 'u', 's', ' ', 'c', 'o', 'm', 'm', 'a', ' ', 'h', 'y', 'p', 'h', 'e', 'n', ' ', 'p', 'e', 'r', 'i', 'o', 'd', ' ', 's', 'l', 'a', 's', 'h', ' ', 'z', 'e', 'r', 'o', ' ', 'o', 'n', 'e', ' ', 't', 'w', 'o', ' ', 't', 'h', 'r', 'e', 'e', ' ', 'f', 'o', 'u', 'r', ' ', 'f', 'i', 'v', 'e', ' ', 's', 'i', 'x', ' ', 's', 'e', 'v', 'e', 'n', ' ', 'e', 'i', 'g', 'h', 't', ' ', 'n', 'i', 'n', 'e', ' ', 'c', 'o', 'l', 'o', 'n', ' ', 's', 'e', 'm', 'i', 'c', 'o', 'l', 'o', 'n', ' ', 'l', 'e', 's', 's', ' ', 'e', 'q', 'u', 'a', 'l', ' ', 'g', 'r', 'e', 'a', 't', 'e', 'r', ' ', 'q', 'u', 'e', 's', 't', 'i', 'o', 'n', ' ', 'a', 't'] from String.toList_ofList]
  kernel_rfl
theorem l_LOW : sLOW.length = 227 := by
  rw [e_LOW]
  kernel_rfl
noncomputable abbrev sMID : PySem.Str := PySem.Str.ofString "bracketleft backslash bracketright asciicircum underscore grave"
noncomputable def cMID : List Nat := [98, 114, 97, 99, 107, 101, 116, 108, 101, 102, 116, 32, 98, 97, 99, 107, 115, 108, 97, 115, 104, 32, 98, 114, 97, 99, 107, 101, 116, 114, 105, 103, 104, 116, 32, 97, 115, 99, 105, 105, 99, 105, 114, 99, 117, 109, 32, 117, 110, 100, 101, 114, 115, 99, 111, 114, 101, 32, 103, 114, 97, 118, 101]
theorem e_MID : sMID = ⟨cMID.toArray⟩ := by
  unfold sMID
  rw [PySem.Str.ofString_eq_toList, show ("bracketleft backslash bracketright asciicircum underscore grave" : String).toList = ['b', 'r', 'a', 'c', 'k', 'e', 't', 'l', 'e', 'f', 't', ' ', 'b', 'a', 'c', 'k', 's', 'l', 'a', 's', 'h', ' ', 'b', 'r', 'a', 'c', 'k', 'e', 't', 'r', 'i', 'g', 'h', 't', ' ', 'a', 's', 'c', 'i', 'i', 'c', 'i', 'r', 'c', 'u', 'm', ' ', 'u', 'n', 'd', 'e', 'r', 's', 'c', 'o', 'r', 'e', ' ', 'g', 'r', 'a', 'v', 'e'] from String.toList_ofList]
  kernel_rfl
theorem l_MID : sMID.length = 63 := by
  rw [e_MID]
  kernel_rfl
noncomputable abbrev sHIGH : PySem.Str := PySem.Str.ofString "braceleft bar braceright asciitilde"
noncomputable def cHIGH : List Nat := [98, 114, 97, 99, 101, 108, 101, 102, 116, 32, 98, 97, 114, 32, 98, 114, 97, 99, 101, 114, 105, 103, 104, 116, 32, 97, 115, 99, 105, 105, 116, 105, 108, 100, 101]
theorem e_HIGH : sHIGH = ⟨cHIGH.toArray⟩ := by
  unfold sHIGH
  rw [PySem.Str.ofString_eq_toList, show ("braceleft bar braceright asciitilde" : String).toList = ['b', 'r', 'a', 'c', 'e', 'l', 'e', 'f', 't', ' ', 'b', 'a', 'r', ' ', 'b', 'r', 'a', 'c', 'e', 'r', 'i', 'g', 'h', 't', ' ', 'a', 's', 'c', 'i', 'i', 't', 'i', 'l', 'd', 'e'] from String.toList_ofList]
  kernel_rfl
theorem l_HIGH : sHIGH.length = 35 := by
  rw [e_HIGH]
  kernel_rfl
noncomputable abbrev sLAT : PySem.Str := PySem.Str.ofString "exclamdown cent sterling currency yen brokenbar section dieresis copyright ordfeminine guillemotleft logicalnot hyphen registered macron degree plusminus twosuperior threesuperior acute mu paragraph periodcentered cedilla onesuperior ordmasculine guillemotright onequarter onehalf threequarters questiondown Agrave Aacute Acircumflex Atilde Adieresis Aring AE Ccedilla Egrave Eacute Ecircumflex Edieresis Igrave Iacute Icircumflex Idieresis Eth Ntilde Ograve Oacute Ocircumflex Otilde Odieresis multiply Oslash Ugrave Uacute Ucircumflex Udieresis Yacute Thorn germandbls"
noncomputable def cLAT : List Nat := [101, 120, 99, 108, 97, 109, 100, 111, 119, 110, 32, 99, 101, 110, 116, 32, 115, 116, 101, 114, 108, 105, 110, 103, 32, 99, 117, 114, 114, 101, 110, 99, 121, 32, 121, 101, 110, 32, 98, 114, 111, 107, 101, 110, 98, 97, 114, 32, 115, 101, 99, 116, 105, 111, 110, 32, 100, 105, 101, 114, 101, 115, 105, 115, 32, 99, 111, 112, 121, 114, 105, 103, 104, 116, 32, 111, 114, 100, 102, 101, 109, 105, 110, 105, 110, 101, 32, 103, 117, 105, 108, 108, 101, 109, 111, 116, 108, 101, 102, 116, 32, 108, 111, 103, 105, 99, 97, 108, 110, 111, 116, 32, 104, 121, 112, 104, 101, 110, 32, 114, 101, 103, 105, 115, 116, 101, 114, 101, 100, 32, 109, 97, 99, 114, 111, 110, 32, 100, 101, 103, 114, 101, 101, 32, 112, 108, 117, 115, 109, 105, 110, 117, 115, 32, 116, 119, 111, 115, 117, 112, 101, 114, 105, 111, 114, 32, 116, 104, 114, 101, 101, 115, 117, 112, 101, 114, 105, 111, 114, 32, 97, 99, 117, 116, 101, 32, 109, 117, 32, 112, 97, 114, 97, 103, 114, 97, 112, 104, 32, 112, 101, 114, 105, 111, 100, 99, 101, 110, 116, 101, 114, 101, 100, 32, 99, 101, 100, 105, 108, 108, 97, 32, 111, 110, 101, 115, 117, 112, 101, 114, 105, 111, 114, 32, 111, 114, 100, 109, 97, 115, 99, 117, 108, 105, 110, 101, 32, 103, 117, 105, 108, 108, 101, 109, 111, 116, 114, 105, 103, 104, 116, 32, 111, 110, 101, 113, 117, 97, 114, 116, 101, 114, 32, 111, 110, 101, 104, 97, 108, 102, 32, 116, 104, 114, 101, 101, 113, 117, 97, 114, 116, 101, 114, 115, 32, 113, 117, 101, 115, 116, 105, 111, 110, 100, 111, 119, 110, 32, 65, 103, 114, 97, 118, 101, 32, 65, 97, 99, 117, 116, 101, 32, 65, 99, 105, 114, 99, 117, 109, 102, 108, 101, 120, 32, 65, 116, 105, 108, 100, 101, 32, 65, 100, 105, 101, 114, 101, 115, 105, 115, 32, 65, 114, 105, 110, 103, 32, 65, 69, 32, 67, 99, 101, 100, 105, 108, 108, 97, 32, 69, 103, 114, 97, 118, 101, 32, 69, 97, 99, 117, 116, 101, 32, 69, 99, 105, 114, 99, 117, 109, 102, 108, 101, 120, 32, 69, 100, 105, 101, 114, 101, 115, 105, 115, 32, 73, 103, 114, 97, 118, 101, 32, 73, 97, 99, 117, 116, 101, 32, 73, 99, 105, 114, 99, 117, 109, 102, 108, 101, 120, 32, 73, 100, 105, 101, 114, 101, 115, 105, 115, 32, 69, 116, 104, 32, 78, 116, 105, 108, 100, 101, 32, 79, 103, 114, 97, 118, 101, 32, 79, 97, 99, 117, 116, 101, 32, 79, 99, 105, 114, 99, 117, 109, 102, 108, 101, 120, 32, 79, 116, 105, 108, 100, 101, 32, 79, 100, 105, 101, 114, 101, 115, 105, 115, 32, 109, 117, 108, 116, 105, 112, 108, 121, 32, 79, 115, 108, 97, 115, 104, 32, 85, 103, 114, 97, 118, 101, 32, 85, 97, 99, 117, 116, 101, 32, 85, 99, 105, 114, 99, 117, 109, 102, 108, 101, 120, 32, 85, 100, 105, 101, 114, 101, 115, 105, 115, 32, 89, 97, 99, 117, 116, 101, 32, 84, 104, 111, 114, 110, 32, 103, 101, 114, 109, 97, 110, 100, 98, 108, 115]
theorem e_LAT : sLAT = ⟨cLAT.toArray⟩ := by
  unfold sLAT
  rw [PySem.Str.ofString_eq_toList, show ("exclamdown cent sterling currency yen brokenbar section dieresis copyright ordfeminine guillemotleft logicalnot hyphen registered macron degree plusminus twosuperior threesuperior acute mu paragraph periodcentered cedilla onesuperior ordmasculine guillemotright onequarter onehalf threequarters questiondown Agrave Aacute Acircumflex Atilde Adieresis Aring AE Ccedilla Egrave Eacute Ecircumflex Edieresis Igrave Iacute Icircumflex Idieresis Eth Ntilde Ograve Oacute Ocircumflex Otilde Odieresis multiply Oslash Ugrave Uacute Ucircumflex Udieresis Yacute Thorn germandbls" : String).toList = ['e', 'x', 'c', 'l', 'a', 'm', 'd', 'o', 'w', 'n', ' ', 'c', 'e', 'n', 't', ' ', 's', 't', 'e', 'r', 'l', 'i', 'n', 'g', ' ', 'c', 'u', 'r', 'r', 'e', 'n', 'c', 'y', ' ', 'y', 'e', 'n', ' ', 'b', 'r', 'o', 'k', 'e', 'n', 'b', 'a', 'r', ' ', 's', 'e', 'c', 't', 'i', 'o', 'n', ' ', 'd', 'i', 'e', 'r', 'e', 's', 'i', 's', ' ', 'c', 'o', 'p', 'y', 'r', 'i', 'g', 'h', 't', ' ', 'o', 'r', 'd', 'f', 'e', 'm', 'i', 'n', 'i', 'n', 'e', ' ', 'g', 'u', 'i', 'l', 'l', 'e', 'm', 'o', 't', 'l', 'e', 'f', 't', ' ', 'l', 'o', 'g', 'i', 'c', 'a', 'l', 'n', 'o', 't', ' ', 'h', 'y', 'p', 'h', 'e', 'n', ' ', 'r', 'e', 'g', 'i', 's', 't', 'e', 'r', 'e', 'd', ' ', 'm', 'a', 'c', 'r', 'o', 'n', ' ', 'd', 'e', 'g', 'r', 'e', 'e', ' ', 'p', 'l', 'u', 's', 'm', 'i', 'n', 'u', 's', ' ', 't', 'w', 'o', 's', 'u', 'p', 'e', 'r', 'i', 'o', 'r', ' ', 't', 'h', 'r', 'e', 'e', 's', 'u', 'p', 'e', 'r', 'i', 'o', 'r', ' ', 'a', 'c', 'u', 't', 'e', ' ', 'm', 'u', ' ', 'p', 'a', 'r', 'a', 'g', 'r', 'a', 'p', 'h', ' ', 'p', 'e', 'r', 'i', 'o', 'd', 'c', 'e', 'n', 't', 'e', 'r', 'e', 'd', ' ', 'c', 'e', 'd', 'i', 'l', 'l', 'a', ' ', 'o', 'n', 'e', 's', 'u', 'p', 'e', 'r', 'i', 'o', 'r', ' ', 'o', 'r', 'd', 'm', 'a', 's', 'c', 'u', 'l', 'i', 'n', 'e', ' ', 'g', 'u', 'i', 'l', 'l', 'e', 'm', 'o', 't', 'r', 'i', 'g', 'h', 't', ' ', 'o', 'n', 'e', 'q', 'u', 'a', 'r', 't', 'e', 'r', ' ', 'o', 'n', 'e', 'h', 'a', 'l', 'f', ' ', 't', 'h', 'r', 'e', 'e', 'q', 'u', 'a', 'r', 't', 'e', 'r', 's', ' ', 'q', 'u', 'e', 's', 't', 'i', 'o', 'n', 'd', 'o', 'w', 'n', ' ', 'A', 'g', 'r', 'a', 'v', 'e', ' ', 'A', 'a', 'c', 'u', 't', 'e', ' ', 'A', 'c', 'i', 'r', 'c', 'u', 'm', 'f', 'l', 'e', 'x', ' ', 'A', 't', 'i', 'l', 'd', 'e', ' ', 'A', 'd', 'i', 'e', 'r', 'e', 's', 'i', 's', ' ', 'A', 'r', 'i', 'n', 'g', ' ', 'A', 'E', ' ', 'C', 'c', 'e', 'd', 'i', 'l', 'l', 'a', ' ', 'E', 'g', 'r', 'a', 'v', 'e', ' ', 'E', 'a', 'c', 'u', 't', 'e', ' ', 'E', 'c', 'i', 'r', 'c', 'u', 'm', 'f', 'l', 'e', 'x', ' ', 'E', 'd', 'i', 'e', 'r', 'e', 's', 'i', 's', ' ', 'I', 'g', 'r', 'a', 'v', 'e', ' ', 'I', 'a', 'c', 'u', 't', 'e', ' ', 'I', 'c', 'i', 'r', 'c', 'u', 'm', 'f', 'l', 'e', 'x', ' ', 'I', 'd', 'i', 'e', 'r', 'e', 's', 'i', 's', ' ', 'E', 't', 'h', ' ', 'N', 't', 'i', 'l', 'd', 'e', ' ', 'O', 'g', 'r', 'a', 'v', 'e', ' ', 'O', 'a', 'c', 'u', 't', 'e', ' ', 'O', 'c', 'i', 'r', 'c', 'u', 'm', 'f', 'l', 'e', 'x', ' ', 'O', 't', 'i', 'l', 'd', 'e', ' ', 'O', 'd', 'i', 'e', 'r', 'e', 's', 'i', 's', ' ', 'm', 'u', 'l', 't', 'i', 'p', 'l', 'y', ' ', 'O', 's', 'l', 'a', 's', 'h', ' ', 'U', 'g', 'r', 'a', 'v', 'e', ' ', 'U', 'a', 'c', 'u', 't', 'e', ' ', 'U', 'c', 'i', 'r', 'c', 'u', 'm', 'f', 'l', 'e', 'x', ' ', 'U', 'd', 'i', 'e', 'r', 'e', 's', 'i', 's', ' ', 'Y', 'a', 'c', 'u', 't', 'e', ' ', 'T', 'h', 'o', 'r', 'n', ' ', 'g', 'e', 'r', 'm', 'a', 'n', 'd', 'b', 'l', 's'] from String.toList_ofList]
  kernel_rfl
theorem l_LAT : sLAT.length = 570 := by
  rw [e_LAT]
  kernel_rfl
theorem sw_len (x : PySem.Str) : (PySem.Builtin.Str.spaceWords x (x.length + 1)).length ≤ x.length + 1 := by
  have h := (StrLaws.sw_weight x).1
  have : ∀ l : List (Nat × Nat), l.length ≤ StrLaws.wsum l := by
    intro l
    induction l with
    | nil => exact Nat.le_refl _
    | cons p r ih => unfold StrLaws.wsum; rw [List.length_cons]; omega
  exact Nat.le_trans (this _) h
theorem ne_of_len {y : PySem.Str} (h : 1 ≤ y.length) : (y == PySem.Str.ofString "") = false := by
  rw [beq_eq_false_iff_ne]
  intro e
  rw [e, show (PySem.Str.ofString "").length = 0 by kernel_rfl] at h
  omega
theorem words_ne {x : PySem.Str} {us : List Value} (h : StrsAre us (Txt.words x)) : NoEmp us := ⟨_, h, by
  rw [List.any_eq_false]
  intro y hy
  rw [ne_of_len (StrLaws.words_pos x y hy)]; decide⟩
theorem words_cnt {x : PySem.Str} {us : List Value} (h : StrsAre us (Txt.words x)) : us.length ≤ x.length + 1 := by
  rw [strs_len h]
  have := fact_words x
  omega
theorem w_LAT : (Txt.words sLAT).length = 63 ∧ ∀ y ∈ Txt.words sLAT, ∀ c ∈ y.cps.toList, c < 128 := by
  have h : ((fun w : List PySem.Str => w.length == 63 && w.all (fun y => y.cps.toList.all (fun c => decide (c < 128)))) (KWd.fin (KWd.scan ⟨cLAT.toArray⟩))) = true := by
    kernel_rfl
  rw [← e_LAT, ← KWd.words_scan] at h
  simp only [Bool.and_eq_true, beq_iff_eq] at h
  refine ⟨h.1, fun y hy c hc => ?_⟩
  have := List.all_eq_true.mp h.2 y hy
  exact of_decide_eq_true (List.all_eq_true.mp this c hc)
theorem swaps_comp {S : Sc} {X : Cx S} {elt : Expr} {gens : List Comprehension} {scope : PySem.Scope} {pos py : Pos} {y : PySem.Str} {l : Nat} {vs vs' : Vs} {v : Value} (hy : LocSet S.ns vs y v vs') (hl : (py.line == pos.line) = true) (hn : (scope.names.any fun x => x.1 == y && (x.2 == .local || x.2 == .cell)) = false) :
    swapsWith (.ListComp elt gens scope pos) (some (.Name y py)) l X.env = pure true := by
  show (pure (X.env.blockKind == .function && X.env.kindOf y == some .local && py.line == pos.line && !(scope.names.any fun x => x.1 == y && (x.2 == .local || x.2 == .cell))) : Sem Bool) = _
  rw [hl, hn, X.kof hy.mem]
  have : X.env.blockKind = .function := by unfold Env.blockKind; rw [X.kind]; rfl
  rw [this]; rfl
theorem b_ascii (Y : Cx f_ascii_names.sc) {b : Base} {led : Led} : Wp Y (execs (bodyOf f_ascii_names.st) Y.env) b led [none, none] (fun fl b' led' _ => led' = led ∧ ∃ r o us, retOf fl = .ref r ∧ b' r = some o ∧ IsLO us o ∧ NoEmp us) := by
  refine wFz ?_
  walk_at "body"
  refine aAssignComp (gs := [(PySem.Str.ofString "chr", .builtin "chr")]) (fun i b' l' ys => l' = led ∧ NoEmp ys) (CompSc.toC (CompSc.of Y.ok (by kernel_rfl) (gsC_of (by kernel_rfl)))) (swaps_comp (vs := [none, none]) (v := .none) .here rfl (by kernel_rfl)) (fun _ => rfl) (fun _ _ => rfl) (wFz ?_)
  repeat' (walk_at "s")
  refine wRange2 fun rx _ _ _ => ?_
  refine .freeze fun b1 l1 h1 => .done ⟨26, _, by decide, its_range (.inl h1) (by decide) (by decide), ⟨rfl, .nil⟩, ?_, ?_⟩
  · rintro C i b2 l2 w p q ys hi lb ⟨k, rfl⟩ ⟨rfl, hn⟩
    repeat' (walk_at "s")
    refine wChr (by omega) (by omega) fun t => ?_
    exact ⟨rfl, _, rfl, rfl, hn.app (.one chr_ne)⟩
  rintro b2 l2 ys D k lb ⟨rfl, hn1⟩ hl1
  repeat' (walk_at "s")
  refine aAssignComp (gs := [(PySem.Str.ofString "chr", .builtin "chr")]) (fun i b' l' ys' => l' = (D, LO ys k) :: l2 ∧ NoEmp ys') (CompSc.toC (CompSc.of Y.ok (by kernel_rfl) (gsC_of (by kernel_rfl)))) (swaps_comp (vs := [none, none]) (v := .none) (.there .here) rfl (by kernel_rfl)) (fun _ => rfl) (fun _ _ => rfl) (wFz ?_)
  repeat' (walk_at "s")
  refine wRange2 fun rx _ _ _ => ?_
  refine .freeze fun b1 l1 h1 => .done ⟨26, _, by decide, its_range (.inl h1) (by decide) (by decide), ⟨rfl, .nil⟩, ?_, ?_⟩
  · rintro C i b2 l2' w p q ys' hi lb' ⟨k', rfl⟩ ⟨rfl, hn⟩
    repeat' (walk_at "s")
    refine wChr (by omega) (by omega) fun t => ?_
    exact ⟨rfl, _, rfl, rfl, hn.app (.one chr_ne)⟩
  rintro b2 l2' ys' D' k' lb ⟨rfl, hn2⟩ hl2
  repeat' (walk_at "s")
  refine wMethSplit ?_
  repeat' (walk_at "s")
  refine wSplit0 (x := sLOW) (by rw [l_LOW]; simp [sizeLine]) (Nat.le_trans (sw_len _) (by rw [l_LOW]; simp [sizeLine])) fun r1 u1 k1 s1 => ?_
  have c1 := words_cnt s1
  rw [l_LOW] at c1
  repeat' (walk_at "s")
  refine wAddL (.inr (.head _)) .mk (.inr (.tail _ (.tail _ (.head _)))) .mk (by simp [sizeLine]; omega) fun r2 => ?_
  repeat' (walk_at "s")
  refine wMethSplit ?_
  repeat' (walk_at "s")
  refine wSplit0 (x := sMID) (by rw [l_MID]; simp [sizeLine]) (Nat.le_trans (sw_len _) (by rw [l_MID]; simp [sizeLine])) fun r3 u3 k3 s3 => ?_
  have c3 := words_cnt s3
  rw [l_MID] at c3
  repeat' (walk_at "s")
  refine wAddL (.inr (.tail _ (.head _))) .mk (.inr (.head _)) .mk (by simp [sizeLine]; omega) fun r4 => ?_
  repeat' (walk_at "s")
  refine wAddL (.inr (.head _)) .mk (.inr (.tail _ (.tail _ (.tail _ (.tail _ (.head _)))))) .mk (by simp [sizeLine]; omega) fun r5 => ?_
  repeat' (walk_at "s")
  refine wMethSplit ?_
  repeat' (walk_at "s")
  refine wSplit0 (x := sHIGH) (by rw [l_HIGH]; simp [sizeLine]) (Nat.le_trans (sw_len _) (by rw [l_HIGH]; simp [sizeLine])) fun r6 u6 k6 s6 => ?_
  have c6 := words_cnt s6
  rw [l_HIGH] at c6
  repeat' (walk_at "s")
  refine wAddL (.inr (.tail _ (.head _))) .mk (.inr (.head _)) .mk (by simp [sizeLine]; omega) fun r7 => ?_
  exact .freeze fun b3 l3 h3 => .drop (.drop (.drop (.drop (.drop (.drop (.drop (.drop (.done ⟨rfl, _, _, _, rfl, h3, .mk, ((((words_ne s1).app hn1).app (words_ne s3)).app hn2).app (words_ne s6)⟩))))))))
local macro_rules | `(tactic| walk_at "s") => `(tactic| first
  | (with_reducible refine' wMethSplit ?_)
  | (with_reducible refine' wMethJoin ?_)
  | (with_reducible refine' wMethLower ?_) | fail "no")
/-! latin names, a text's own code -/
theorem strs_drop {us : List Value} {ys : List PySem.Str} (h : StrsAre us ys) (n : Nat) : StrsAre (us.drop n) (ys.drop n) := by
  induction h generalizing n with
  | nil => simpa using StrsAre.nil
  | cons y t hh ih =>
    cases n with
    | zero => exact .cons _ _ hh
    | succ n => exact ih n
theorem strs_take {us : List Value} {ys : List PySem.Str} (h : StrsAre us ys) (n : Nat) : StrsAre (us.take n) (ys.take n) := by
  induction h generalizing n with
  | nil => simpa using StrsAre.nil
  | cons y t hh ih =>
    cases n with
    | zero => exact .nil
    | succ n => exact .cons _ _ (ih n)
theorem strs_set {us : List Value} {ys : List PySem.Str} (h : StrsAre us ys) (n : Nat) (y : PySem.Str) (t : Tok) : StrsAre (us.set n (.str y t)) (ys.set n y) := by
  induction h generalizing n with
  | nil => exact .nil
  | cons y' t' hh ih =>
    cases n with
    | zero => exact .cons _ _ hh
    | succ n => exact .cons _ _ (ih n)
theorem NoEmp.set {us : List Value} (h : NoEmp us) (n : Nat) {y : PySem.Str} {t : Tok} (hy : (y == PySem.Str.ofString "") = false) : NoEmp (us.set n (.str y t)) := by
  obtain ⟨ys, h1, h2⟩ := h
  refine ⟨_, strs_set h1 n y t, ?_⟩
  rw [List.any_eq_false] at h2 ⊢
  intro z hz
  rcases List.mem_or_eq_of_mem_set hz with hz | rfl
  · exact h2 z hz
  · rw [hy]; decide
theorem lower_ne {y : PySem.Str} (h : ∀ c ∈ y.cps.toList, c < 128) (h1 : 1 ≤ y.length) : (Txt.lower y == PySem.Str.ofString "") = false := by
  apply ne_of_len
  rw [lower_ascii h]
  show 1 ≤ (y.cps.map lo1).size
  rw [Array.size_map]; exact h1
theorem b_latin (Y : Cx f_latin_names.sc) {b : Base} {led : Led} : Wp Y (execs (bodyOf f_latin_names.st) Y.env) b led [none, none] (fun fl b' led' _ => led' = led ∧ ∃ r o us, retOf fl = .ref r ∧ b' r = some o ∧ IsLO us o ∧ NoEmp us) := by
  refine wFz ?_
  walk_at "body"
  repeat' (walk_at "s")
  refine wSplit0 (x := sLAT) (by rw [l_LAT]; simp [sizeLine]) (Nat.le_trans (sw_len _) (by rw [l_LAT]; simp [sizeLine])) fun r1 u1 k1 s1 => ?_
  have c1 := strs_len s1
  rw [w_LAT.1] at c1
  repeat' (walk_at "s")
  refine aAssignComp (gs := []) (fun i b' l' ys => l' = (r1, LO u1 k1) :: led ∧ NoEmp ys) (CompSc.toC (CompSc.of Y.ok (by kernel_rfl) (gsC_of (by kernel_rfl)))) (swaps_comp (vs := [none, none]) (v := .none) (.there .here) rfl (by kernel_rfl)) (fun _ => rfl) (fun _ _ => rfl) (wFz ?_)
  refine wSliceL (vl := .none) (vu := .none) (us := u1) (lo := some 31) (hi := some 62) (v := .ref r1) (by walk_at "loc") (fun s H => ⟨_, _, rfl, (H.ld _ (.head _)).1, .mk⟩) (by omega) (fun R hR => wPartInt fun t => ⟨rfl, rfl, rfl, wPartInt fun t' => ⟨rfl, rfl, rfl, hR _ _ (.int _ _) (.int _ _)⟩⟩) fun r2 o2 => ?_
  have hp : (slicePick u1.toArray (some 31) (some 62) none).toList = (u1.drop 31).take 31 := congrArg Array.toList (slicePick_run u1.toArray 31 62 (by rw [List.size_toArray]; omega) (by decide))
  have sp : StrsAre ((u1.drop 31).take 31) (((Txt.words sLAT).drop 31).take 31) := strs_take (strs_drop s1 31) 31
  have lp : ((u1.drop 31).take 31).length = 31 := by rw [List.length_take, List.length_drop, c1]; decide
  refine .freeze fun b1 l1 h1 => ?_
  rw [hp] at h1
  refine .drop (.done ⟨_, _, Nat.le_trans (Nat.le_of_eq lp) (by decide), its_list h1 .mk, ⟨rfl, .nil⟩, ?_, ?_⟩)
  · rintro C i b2 l2 w p q ys hi lb hw ⟨rfl, hn⟩
    obtain ⟨y, t, hy, rfl⟩ := strs_get sp hw
    have hm : y ∈ Txt.words sLAT := List.mem_of_mem_drop (List.mem_of_mem_take (List.mem_of_getElem? hy))
    repeat' (walk_at "s")
    refine wLower (fit_lower ?_) fun t' => ?_
    · have := word_short hm
      rw [l_LAT] at this; omega
    exact ⟨rfl, _, rfl, rfl, hn.app (.one (lower_ne (w_LAT.2 y hm) (StrLaws.words_pos _ y hm)))⟩
  rintro b2 l2' ys' D' k' lb ⟨rfl, hn2⟩ hl2
  replace hl2 : ys'.length = 31 := hl2.trans lp
  repeat' (walk_at "s")
  refine wSetItemL .here .mk (by decide) (by decide) (by omega) fun o' ho' => ?_
  repeat' (walk_at "s")
  refine wAddL (.inr (.tail _ (.head _))) .mk (.inr (.head _)) ho' (by rw [List.length_set]; simp [sizeLine]; omega) fun r3 => ?_
  repeat' (walk_at "s")
  refine wAddL (.inr (.tail _ (.head _))) .mk (.inr (.head _)) .mk (by rw [List.length_append, List.length_set]; simp [sizeLine]; omega) fun r4 => ?_
  exact .freeze fun b3 l3 h3 => .drop (.drop (.drop (.drop (.done ⟨rfl, _, _, _, rfl, h3, .mk, ((words_ne s1).app (hn2.set 23 (by kernel_rfl))).app (.one (by kernel_rfl))⟩))))
section
variable {S : Sc} {X : Cx S} {b : Base} {led : Led} {vs : Vs} {Q : Post Value}
theorem s_ascii (hr : Room X 1) (q : ∀ r o us b', Le b b' → b' r = some o → IsLO us o → NoEmp us → Q (.ref r) b' led vs) : Wp X (call (.ref 694) []) b led vs Q :=
  wDef (G := f_ascii_names) X.hh (f_ascii_names_ok X.ok) hr.d (by kernel_rfl) fun L => wMono (b_ascii _) fun fl b' led' _ l ⟨e, r, o, us, e', h1, h2, h3⟩ => by rw [e, e']; exact q _ _ _ _ l h1 h2 h3
theorem s_latin (hr : Room X 1) (q : ∀ r o us b', Le b b' → b' r = some o → IsLO us o → NoEmp us → Q (.ref r) b' led vs) : Wp X (call (.ref 699) []) b led vs Q :=
  wDef (G := f_latin_names) X.hh (f_latin_names_ok X.ok) hr.d (by kernel_rfl) fun L => wMono (b_latin _) fun fl b' led' _ l ⟨e, r, o, us, e', h1, h2, h3⟩ => by rw [e, e']; exact q _ _ _ _ l h1 h2 h3
theorem wInNo {x : Addr} {o : Obj} {us : List Value} {t : Tok} {Q : Post Value} (hx : Has b led x o) (ho : IsLO us o) (hn : NoEmp us) (q : Q (.bool false) b led vs) : Wp X (compareOp .In (.str (PySem.Str.ofString "") t) (.ref x)) b led vs Q := by
  obtain ⟨ys, h1, h2⟩ := hn
  refine wInLs hx ho h1 ?_
  rw [h2]; exact q
end
theorem keys_lit (P : Params) (l : List (String × Nat × Value)) : KeysLit P (l.map fun x => ke P x.1 x.2.1 x.2.2) := by
  induction l with
  | nil => exact trivial
  | cons x l ih => exact ⟨⟨_, _, rfl, rfl⟩, ih⟩
noncomputable def otherL : List (String × Nat × Value) := [("Euro", 1156, .int 8364 1157), ("quotesinglbase", 1159, .int 8218 1160), ("florin", 1162, .int 402 1163), ("quotedblbase", 1165, .int 8222 1166), ("ellipsis", 1168, .int 8230 1169), ("dagger", 1171, .int 8224 1172), ("daggerdbl", 1174, .int 8225 1175), ("circumflex", 1177, .int 710 1178), ("perthousand", 1180, .int 8240 1181), ("Scaron", 1183, .int 352 1184), ("guilsinglleft", 1186, .int 8249 1187), ("OE", 1189, .int 338 1190), ("Zcaron", 1192, .int 381 1193), ("quoteleft", 1195, .int 8216 1196), ("quoteright", 1198, .int 8217 1199), ("quotedblleft", 1201, .int 8220 1202), ("quotedblright", 1204, .int 8221 1205), ("bullet", 1207, .int 8226 1208), ("endash", 1210, .int 8211 1211), ("emdash", 1213, .int 8212 1214), ("tilde", 1216, .int 732 1217), ("trademark", 1219, .int 8482 1220), ("scaron", 1222, .int 353 1223), ("guilsinglright", 1225, .int 8250 1226), ("oe", 1228, .int 339 1229), ("zcaron", 1231, .int 382 1232), ("Ydieresis", 1234, .int 376 1235), ("fraction", 1237, .int 8260 1238), ("fi", 1240, .int 64257 1241), ("fl", 1243, .int 64258 1244), ("breve", 1246, .int 728 1247), ("dotaccent", 1249, .int 729 1250), ("ring", 1252, .int 730 1253), ("hungarumlaut", 1255, .int 733 1256), ("ogonek", 1258, .int 731 1259), ("caron", 1260, .int 711 1261), ("Lslash", 1262, .int 321 1263), ("lslash", 1264, .int 322 1265), ("dotlessi", 1266, .int 305 1267)]
theorem K_686 (P : Params) : (K P).lookup 686 = some ⟨.type "dict", none, .dict (otherL.map fun x => ke P x.1 x.2.1 x.2.2).toArray 39, #[]⟩ := by kernel_rfl
theorem K_686n (P : Params) : nsIn (K P) 686 (PySem.Str.ofString "") = some none := by
  rw [nsQ_eq]
  kernel_rfl
section
variable {S : Sc} {X : Cx S} {b : Base} {led : Led} {vs : Vs} {Q : Post Value}
theorem wInOther {t : Tok} (q : Q (.bool false) b led vs) : Wp X (compareOp .In (.str (PySem.Str.ofString "") t) (.ref 686)) b led vs Q := .mk fun s H => by
  have hm := mapOf_K (prog := pw) (w := X.am.w) (X.ok.K.keeps H.stays) (K_686 _) (by rw [List.toList_toArray]; exact keys_lit _ _)
  refine wpAny_in_of (strKind_is _ _ (PySem.Str.ofString "") t) (by decide) hm ?_
  rw [find_K (K_686 _) (K_686n _)]
  exact Rest.of (H.tk _) q
end
theorem b_known (Y : Cx f_known_code.sc) {b : Base} {led : Led} {t : Tok} (hr : Room Y 1) : Wp Y (execs (bodyOf f_known_code.st) Y.env) b led [some (.str (PySem.Str.ofString "") t), none] (fun fl b' led' _ => led' = led ∧ ∃ t, retOf fl = .int (-1) t) := by
  walk_at "body"
  repeat' (walk_at "s")
  refine wInOther ?_
  repeat' (walk_at "s")
  refine s_ascii hr fun r o us b1 l1 h1 h2 h3 => ?_
  repeat' (walk_at "s")
  refine wInNo (.inl h1) h2 h3 ?_
  repeat' (walk_at "s")
  refine s_latin hr fun r2 o2 us2 b2 l2 h4 h5 h6 => ?_
  repeat' (walk_at "s")
  refine wInNo (.inl h4) h5 h6 ?_
  repeat' (walk_at "s")
  refine wNeg fun _ => ?_
  exact ⟨rfl, _, rfl⟩
theorem emp_len : (PySem.Str.ofString "").length = 0 := by kernel_rfl
theorem emp_le : (PySem.Str.ofString "").length ≤ sizeLine := by rw [emp_len]; exact Nat.zero_le _
section
variable {S : Sc} {X : Cx S} {b : Base} {led : Led} {vs : Vs} {Q : Post Value}
theorem s_known {t : Tok} (hr : Room X 2) (q : ∀ t b', Le b b' → Q (.int (-1) t) b' led vs) : Wp X (call (.ref 720) [.str (PySem.Str.ofString "") t]) b led vs Q :=
  wDef (G := f_known_code) X.hh (f_known_code_ok X.ok) hr.d (by kernel_rfl) fun L => wMono (b_known _ hr.sub) fun fl b' led' _ l ⟨e, t, h⟩ => by rw [e, h]; exact q _ _ l
theorem Room.subC {n : Nat} {G : FnR} {x : PySem.Str} {hG : G.OkC X.am x} {L : Addr} (h : Room X (n + 1)) : Room (X.subC G hG X.A X.hh L vs) n := by
  obtain ⟨h1, h2⟩ := h
  exact ⟨by show X.A.depth + 1 + 3 * n < _; omega, by show X.A.units + 3 + 8 * n < _; omega⟩
local macro_rules | `(tactic| walk_at "s") => `(tactic| first | (with_reducible refine' wSliceNs (fun _ _ => rfl) ?_) | fail "no")
theorem s_part {t : Tok} (hr : Room X 3) (q : ∀ t b', Le b b' → Q (.str (PySem.Str.ofString "") t) b' led vs) : Wp X (call (.ref 725) [.str (PySem.Str.ofString "") t]) b led vs Q := by
  refine wDefC (G := f_part2) X.hh (f_part2_ok X.ok) hr.d (by kernel_rfl) fun L b1 o l1 hc hd => wFz ?_
  change Wp _ _ _ _ [none, none] _
  have nm : ∀ {b' : Base} {led' : Led} {vs' : Vs} {pos : Pos} {Q : Post Value}, Le b1 b' → Q (.str (PySem.Str.ofString "") t) b' led' vs' → Wp (X.subC f_part2 (f_part2_ok X.ok) X.A X.hh L vs) (eval (.Name (PySem.Str.ofString "part") pos) (X.subC f_part2 (f_part2_ok X.ok) X.A X.hh L vs).env) b' led' vs' Q := fun l q =>
    wCellName (c := L + 1) (f_part2_ok X.ok).cell (by
      show (cellsFrom _ f_part2.scope.names []).lookup _ = _
      rw [(f_part2_ok X.ok).cells]
      simp [List.lookup]) (l _ _ hc) hd (by kernel_rfl) q
  walk_at "body"
  refine aAssignB rfl ?_
  repeat' (walk_at "s")
  refine nm .rfl ?_
  repeat' (walk_at "s")
  refine s_known hr.subC fun t1 b2 l2 => ?_
  repeat' (walk_at "s")
  refine nm l2 ⟨_, _, rfl, emp_le, fun t2 r2 => ?_⟩
  rw [show Txt.slice (PySem.Str.ofString "") none (some 3) = PySem.Str.ofString "" by kernel_rfl]
  repeat' (walk_at "s")
  try rw [show (PySem.Str.ofString "" == PySem.Str.ofString "uni") = false by kernel_rfl]
  repeat' (walk_at "s")
  refine nm l2 ⟨_, _, rfl, emp_le, fun t2 r2 => ?_⟩
  rw [show Txt.slice (PySem.Str.ofString "") none (some 1) = PySem.Str.ofString "" by kernel_rfl]
  repeat' (walk_at "s")
  try rw [show (PySem.Str.ofString "" == PySem.Str.ofString "u") = false by kernel_rfl]
  repeat' (walk_at "s")
  exact .drop (.drop (.done (q _ _ (l1.trans l2))))
end
section
variable {S : Sc} {X : Cx S} {b : Base} {led : Led} {vs : Vs} {Q : Post Value}
open PySem.Builtin PySem.Builtin.Str in
theorem wSplitE {x y : PySem.Str} {t u : Tok} (h1 : (decide (x.length < y.length) || decide (strKind x < strKind y)) = true) (q : ∀ r k, Q (.ref r) b ((r, LO [.str x t] k) :: led) vs) : Wp X (call (.builtin "str.split") [.str x t, .str y u]) b led vs Q := .mk fun s H => by
  refine call_meets F.slot_str_split (typeIs_str _ _ _) F.entry_str_split (F.args_str_split_2 _ _) (meets_str_split_cannot_occur x y t u h1) ?_
  exact Rest.of (H.alloc (o := LO [.str x t] 0) rfl s.toks) (q _ _)
end
theorem b_glyph_text (Y : Cx f_glyph_text.sc) {b : Base} {led : Led} {t : Tok} (hr : Room Y 3) : Wp Y (execs (bodyOf f_glyph_text.st) Y.env) b led [some (.str (PySem.Str.ofString "") t)] (fun fl b' led' _ => led' = led ∧ ∃ t, retOf fl = .str (PySem.Str.ofString "") t) := by
  refine wFz ?_
  walk_at "body"
  repeat' (walk_at "s")
  refine wListCompC (gs := [(PySem.Str.ofString "part_text", .ref 725)]) (fun i b' l' ys => l' = led ∧ StrsAre ys (List.replicate i (PySem.Str.ofString ""))) (CompSc.toC (CompSc.of Y.ok (by kernel_rfl) (gsC_of (by kernel_rfl)))) (fun _ => rfl) (fun _ _ => rfl) (wFz ?_)
  repeat' (walk_at "s")
  refine wSplitE (by kernel_rfl) fun r1 k1 => ?_
  repeat' (walk_at "s")
  refine wItemL (.inr (.head _)) .mk (by decide) (by decide) rfl rfl ?_
  repeat' (walk_at "s")
  refine wSplitE (by kernel_rfl) fun r2 k2 => ?_
  refine .freeze fun b1 l1 h1 => .drop (.done ⟨_, _, by simp, its_list h1 .mk, ⟨rfl, .nil⟩, ?_, ?_⟩)
  · rintro C i b2 l2 w p q ys hi lb hw ⟨rfl, hn⟩
    have hi : i = 0 := by simpa using hi
    subst hi
    simp at hw
    subst hw
    repeat' (walk_at "s")
    refine s_part hr fun t b3 l3 => ?_
    refine ⟨rfl, _, rfl, rfl, ?_⟩
    exact strs_app hn (.cons _ _ .nil)
  · rintro b2 l2 ys D k lb ⟨rfl, hn⟩ hl
    repeat' (walk_at "s")
    refine wJoin (.inr (.head _)) .mk hn (by kernel_rfl) fun t' => ?_
    rw [show Txt.join (PySem.Str.ofString "") (List.replicate [Value.str (PySem.Str.ofString "") t].length (PySem.Str.ofString "")) = PySem.Str.ofString "" by kernel_rfl]
    exact .drop (.done ⟨rfl, _, rfl⟩)
noncomputable def txt (c : Int) : PySem.Str := if c = 32 then PySem.Str.ofString " " else if c = 97 then PySem.Str.ofString "x" else PySem.Str.ofString ""
section
variable {S : Sc} {X : Cx S} {b : Base} {led : Led} {vs : Vs} {Q : Post Value}
theorem s_glyph_text {t : Tok} (hr : Room X 4) (q : ∀ t b', Le b b' → Q (.str (PySem.Str.ofString "") t) b' led vs) : Wp X (call (.ref 730) [.str (PySem.Str.ofString "") t]) b led vs Q :=
  wDef (G := f_glyph_text) X.hh (f_glyph_text_ok X.ok) hr.d (by kernel_rfl) fun L => wMono (b_glyph_text _ hr.sub) fun fl b' led' _ l ⟨e, t, h⟩ => by rw [e, h]; exact q _ _ l
end
theorem b_ftext (Y : Cx f_Font_text.sc) {b : Base} {led : Led} {v p : Value} {c : Int} (h0 : Room Y 4) (hv : FontAt Y.am.w b v) (hp : CodeAt b p c) (hc : 0 ≤ c ∧ c < 256) :
    Wp Y (execs (bodyOf f_Font_text.st) Y.env) b led [some v, some p] (fun fl b' led' _ => led' = led ∧ ∃ t, retOf fl = .str (txt c) t) := by
  obtain ⟨t1, t2, t3, t4, t5, t6, t7, nx, nob, nt, un, rx, rob, tx, wx, wob, k1, k2, k3, k4, k5, n, uv, stx, stn, s1, s2, spv, chx, cho, a1, a2, c1, c2, h1, h2, h3, h4, h5, h6, h7, h8, h9, h10, h11, h12, h13⟩ := hv
  obtain ⟨r, q1, q2, kk, rfl, hp⟩ := hp
  have hu : handedIn un = true := h11.handed
  obtain ⟨ux, udx, uk, rfl, hux, hudx⟩ := id h11
  have hcl : Y.A.units + 1 < cLine := by have := h0.2; omega
  have hk : ItemsAre (intKind pw Y.am.w) [1, c] [.int 1 q1, .int c q2] := .cons (intKind_is _ _ _ _) (.cons (intKind_is _ _ _ _) .nil)
  walk_at "body"
  repeat' (walk_at "s")
  refine wInTD hcl (.inl h12) h13 (.inl hp) hk ?_
  by_cases e32 : c = 32
  · subst e32
    rw [show (atKey [(([1, 32] : List Int), a1, Value.str (PySem.Str.ofString " ") c1), ([1, 97], a2, Value.str (PySem.Str.ofString "x") c2)] [1, 32]).isSome = true from rfl]
    repeat' (walk_at "s")
    refine wItemTD hcl (.inl h12) h13 (.inl hp) hk rfl rfl ?_
    exact ⟨rfl, _, rfl⟩
  by_cases e97 : c = 97
  · subst e97
    rw [show (atKey [(([1, 32] : List Int), a1, Value.str (PySem.Str.ofString " ") c1), ([1, 97], a2, Value.str (PySem.Str.ofString "x") c2)] [1, 97]).isSome = true from rfl]
    repeat' (walk_at "s")
    refine wItemTD hcl (.inl h12) h13 (.inl hp) hk rfl rfl ?_
    exact ⟨rfl, _, rfl⟩
  rw [show (atKey [(([1, 32] : List Int), a1, Value.str (PySem.Str.ofString " ") c1), ([1, 97], a2, Value.str (PySem.Str.ofString "x") c2)] [1, c]).isSome = false by
    unfold atKey
    simp [Ne.symm e32, Ne.symm e97]]
  repeat' (walk_at "s")
  refine wItemT (.inl hp) (by decide) (by decide) rfl rfl ?_
  repeat' (walk_at "s")
  refine wItemL (.inl h2) h3 hc.1 (by omega) (v := .str (PySem.Str.ofString "") nt) (by rw [List.getElem?_replicate, if_pos (by omega)]) rfl ?_
  repeat' (walk_at "s")
  refine s_glyph_text h0 fun t b1 l1 => ?_
  refine ⟨rfl, t, ?_⟩
  show Value.str _ t = _
  unfold txt
  rw [if_neg e32, if_neg e97]
section
variable {S : Sc} {X : Cx S} {b : Base} {led : Led} {vs : Vs} {Q : Post Value}
theorem s_ftext {v p : Value} {c : Int} (h0 : Room X 5) (hv : FontAt X.am.w b v) (hp : CodeAt b p c) (hc : 0 ≤ c ∧ c < 256) (q : ∀ t b', Le b b' → Q (.str (txt c) t) b' led vs) : Wp X (call (.ref 784) [v, p]) b led vs Q :=
  wDef (G := f_Font_text) X.hh (f_Font_text_ok X.ok) h0.d (by kernel_rfl) fun L => wMono (b_ftext _ h0.sub hv hp hc) fun fl b' led' _ l ⟨e, t, h⟩ => by rw [e, h]; exact q _ _ l
end

/-! the text's state -/
structure St where
  ctm : Mx
  font : Bool
  size : Dc
  tc : Dc
  tz : Dc
  ts : Dc
noncomputable def St.init (m : Mx) : St := ⟨m, false, ⟨0, 0⟩, ⟨0, 0⟩, ⟨100, 0⟩, ⟨0, 0⟩⟩
noncomputable def FontV (w : World) (b : Base) (v : Value) : Bool → Prop
  | false => v = .none
  | true => FontAt w b v
theorem FontV.mono {w : World} {b b' : Base} {v : Value} : ∀ {c : Bool}, FontV w b v c → Le b b' → FontV w b' v c
  | false, h, _ => h
  | true, h, l => FontAt.mono h l
theorem FontV.handed {w : World} {b : Base} {v : Value} : ∀ {c : Bool}, FontV w b v c → handedIn v = true
  | false, h => by cases h; rfl
  | true, h => let ⟨_, _, _, _, _, _, _, _, _, _, _, _, _, _, q⟩ := FontAt.ia h; q.handed
noncomputable abbrev stFs (t1 t2 t3 t4 : Nat) (cv fv zv : Value) (sx : Addr) : Fs := [("ctm", t1, cv), ("font", t2, fv), ("size", t3, zv), ("spacing", t4, .ref sx)]
noncomputable def SpD (w : World) (b : Base) (sx : Addr) (so : Obj) (st : St) : Prop := ∃ v1 v2 v3 v4 v5, SD w sx [(PySem.Str.ofString "Tc", v1), (PySem.Str.ofString "Tw", v2), (PySem.Str.ofString "Tz", v3), (PySem.Str.ofString "TL", v4), (PySem.Str.ofString "Ts", v5)] so ∧
  DecAt w.params b v1 st.tc ∧ DecAt w.params b v2 ⟨0, 0⟩ ∧ DecAt w.params b v3 st.tz ∧ DecAt w.params b v4 ⟨0, 0⟩ ∧ DecAt w.params b v5 st.ts
theorem SpD.mono {w : World} {b b' : Base} {sx : Addr} {so : Obj} {st : St} (h : SpD w b sx so st) (l : Le b b') : SpD w b' sx so st :=
  let ⟨v1, v2, v3, v4, v5, h, h1, h2, h3, h4, h5⟩ := h
  ⟨v1, v2, v3, v4, v5, h, h1.mono l, h2.mono l, h3.mono l, h4.mono l, h5.mono l⟩
inductive StL (w : World) (b : Base) (v : Value) (st : St) (dx : Addr) (dob : Obj) (sx : Addr) (so : Obj) : Prop
  | mk (x : _) (t1 : _) (t2 : _) (t3 : _) (t4 : _) (k : _) (cv : _) (fv : _) (zv : _) (h1_ : v = .ref x) (h2_ : b x = some (instObj 505 dx)) (h3_ : dob = dictOf (mkEs w.params (stFs t1 t2 t3 t4 cv fv zv sx)) k) (h4_ : MatAt w.params b cv st.ctm) (h5_ : FontV w b fv st.font) (h6_ : DecAt w.params b zv st.size) (h7_ : SpD w b sx so st) : StL w b v st dx dob sx so
theorem StL.mono {w : World} {b b' : Base} {v : Value} {st : St} {dx : Addr} {dob : Obj} {sx : Addr} {so : Obj} (h : StL w b v st dx dob sx so) (l : Le b b') : StL w b' v st dx dob sx so :=
  let ⟨x, t1, t2, t3, t4, k, cv, fv, zv, e, hx, hd, h1, h2, h3, h4⟩ := h
  ⟨x, t1, t2, t3, t4, k, cv, fv, zv, e, l _ _ hx, hd, h1.mono l, h2.mono l, h3.mono l, h4.mono l⟩
theorem Has.mono {b b' : Base} {led led' : Led} {x : Addr} {o : Obj} (h : Has b led x o) (l : Le b b') (k : ∀ p ∈ led, p ∈ led') : Has b' led' x o := h.imp (l _ _) (k _)
/-- a state that can be read -/
noncomputable def StAt (w : World) (b : Base) (led : Led) (v : Value) (st : St) : Prop := ∃ dx dob sx so, StL w b v st dx dob sx so ∧ Has b led dx dob ∧ Has b led sx so
theorem StAt.mono {w : World} {b b' : Base} {led led' : Led} {v : Value} {st : St} (h : StAt w b led v st) (l : Le b b') (k : ∀ p ∈ led, p ∈ led') : StAt w b' led' v st :=
  let ⟨dx, dob, sx, so, h, h1, h2⟩ := h
  ⟨dx, dob, sx, so, h.mono l, h1.mono l k, h2.mono l k⟩
noncomputable def SpAt (w : World) (b : Base) (led : Led) (v : Value) (st : St) : Prop := ∃ sx so, v = .ref sx ∧ SpD w b sx so st ∧ Has b led sx so
theorem fo_St_ctm (P : Params) : fieldOk P 505 (PySem.Str.ofString "ctm") = true := by kernel_rfl
theorem fo_St_font (P : Params) : fieldOk P 505 (PySem.Str.ofString "font") = true := by kernel_rfl
theorem fo_St_size (P : Params) : fieldOk P 505 (PySem.Str.ofString "size") = true := by kernel_rfl
theorem fo_St_sp (P : Params) : fieldOk P 505 (PySem.Str.ofString "spacing") = true := by kernel_rfl
theorem mo_St_cop (P : Params) : methOk P 505 495 (PySem.Str.ofString "copied") = true := by kernel_rfl
theorem mo_St_str (P : Params) : methOk P 505 502 (PySem.Str.ofString "stretched") = true := by kernel_rfl
theorem mk_St (P : Params) : makeOk P 505 488 = true := by kernel_rfl
theorem MatAt.handed {P : Params} {b : Base} {v : Value} {m : Mx} (h : MatAt P b v m) : handedIn v = true := by
  obtain ⟨x, dx, v1, v2, v3, v4, v5, v6, t1, t2, t3, t4, t5, t6, k, rfl, _⟩ := h; rfl
theorem DecAt.handed {P : Params} {b : Base} {v : Value} {d : Dc} (h : DecAt P b v d) : handedIn v = true := by
  obtain ⟨x, dx, t1, t2, k1, k2, k, rfl, _⟩ := h; rfl
inductive SpF : String → (St → Dc) → Prop
  | tc : SpF "Tc" St.tc
  | tw : SpF "Tw" fun _ => ⟨0, 0⟩
  | tz : SpF "Tz" St.tz
  | tl : SpF "TL" fun _ => ⟨0, 0⟩
  | ts : SpF "Ts" St.ts
section
variable {S : Sc} {X : Cx S} {b : Base} {led : Led} {vs : Vs} {Q : Post Value}
theorem wGetStC {v : Value} {st : St} {e : Bool} (h : StAt X.am.w b led v st) (q : ∀ w, MatAt X.am.w.params b w st.ctm → Q w b led vs) : Wp X (getAttr v (PySem.Str.ofString "ctm") e) b led vs Q := by
  obtain ⟨dx, dob, sx, so, ⟨x, t1, t2, t3, t4, k, cv, fv, zv, rfl, hx, rfl, h1, h2, h3, h4⟩, hd, hs⟩ := h
  exact wGet (.inl hx) hd (fo_St_ctm _) (by walk_at "fld") h1.handed (q _ h1)
theorem wGetStF {v : Value} {st : St} {e : Bool} (h : StAt X.am.w b led v st) (q : ∀ w, FontV X.am.w b w st.font → Q w b led vs) : Wp X (getAttr v (PySem.Str.ofString "font") e) b led vs Q := by
  obtain ⟨dx, dob, sx, so, ⟨x, t1, t2, t3, t4, k, cv, fv, zv, rfl, hx, rfl, h1, h2, h3, h4⟩, hd, hs⟩ := h
  exact wGet (.inl hx) hd (fo_St_font _) (by walk_at "fld") h2.handed (q _ h2)
theorem wGetStZ {v : Value} {st : St} {e : Bool} (h : StAt X.am.w b led v st) (q : ∀ w, DecAt X.am.w.params b w st.size → Q w b led vs) : Wp X (getAttr v (PySem.Str.ofString "size") e) b led vs Q := by
  obtain ⟨dx, dob, sx, so, ⟨x, t1, t2, t3, t4, k, cv, fv, zv, rfl, hx, rfl, h1, h2, h3, h4⟩, hd, hs⟩ := h
  exact wGet (.inl hx) hd (fo_St_size _) (by walk_at "fld") h3.handed (q _ h3)
theorem wGetStS {v : Value} {st : St} {e : Bool} (h : StAt X.am.w b led v st) (q : ∀ w, SpAt X.am.w b led w st → Q w b led vs) : Wp X (getAttr v (PySem.Str.ofString "spacing") e) b led vs Q := by
  obtain ⟨dx, dob, sx, so, ⟨x, t1, t2, t3, t4, k, cv, fv, zv, rfl, hx, rfl, h1, h2, h3, h4⟩, hd, hs⟩ := h
  exact wGet (.inl hx) hd (fo_St_sp _) (by walk_at "fld") rfl (q _ ⟨_, _, rfl, h4, hs⟩)
theorem wItemSp {value slice : Expr} {v : Value} {st : St} {n : String} {g : St → Dc} {t : Tok} (h : SpAt X.am.w b led v st) (hn : SpF n g) (hs : plainSlice slice = true) (q : ∀ w, DecAt X.am.w.params b w (g st) → Q w b led vs) :
    Wp X (subscriptTail value slice v (.str (PySem.Str.ofString n) t)) b led vs Q := by
  obtain ⟨sx, so, rfl, ⟨v1, v2, v3, v4, v5, hd, h1, h2, h3, h4, h5⟩, hx⟩ := h
  cases hn with
  | tc => exact wItemD hx hd (by kernel_rfl) hs (q _ h1)
  | tw => exact wItemD hx hd (by kernel_rfl) hs (q _ h2)
  | tz => exact wItemD hx hd (by kernel_rfl) hs (q _ h3)
  | tl => exact wItemD hx hd (by kernel_rfl) hs (q _ h4)
  | ts => exact wItemD hx hd (by kernel_rfl) hs (q _ h5)
theorem wMethSt {v : Value} {st : St} {f : Addr} {n : String} {pl : Sem Bool} {Q : Post (Value × List Value)} (h : StAt X.am.w b led v st) (hf : methOk X.am.w.params 505 f (PySem.Str.ofString n) = true) (hl : ∀ y ∈ ["ctm", "font", "size", "spacing"], y ≠ n) (q : Q (.ref f, [v]) b led vs) : Wp X (getMethod v (PySem.Str.ofString n) pl) b led vs Q := by
  obtain ⟨dx, dob, sx, so, ⟨x, t1, t2, t3, t4, k, cv, fv, zv, rfl, hx, rfl, h1, h2, h3, h4⟩, hd, hs⟩ := h
  exact wGetMeth (.inl hx) hd hf (fun y hy => hl _ (List.mem_map_of_mem (f := fun y : String × Nat × Value => y.1) hy)) q
end
theorem b_St_init (Y : Cx f_TextState_init.sc) {b : Base} {led : Led} (x dx : Addr) {cv : Value} {m : Mx} (hr : Room Y 1) (hm : MatAt Y.am.w.params b cv m) :
    Wp Y (execs (bodyOf f_TextState_init.st) Y.env) b ((dx, dictOf (mkEs Y.am.w.params []) 0) :: (x, instObj 505 dx) :: led) [some (.ref x), some cv] (fun fl b' led' _ => retOf fl = .none ∧ ∃ dob sx so, led' = (dx, dob) :: (sx, so) :: led ∧ StL Y.am.w b' (.ref x) (St.init m) dx dob sx so) := by
  refine wFz ?_
  walk_at "body"
  repeat' (walk_at "s")
  refine s_Decimal (t := 0) (p := 0) hr fun r1 b1 l1 d1 => ?_
  repeat' (walk_at "s")
  refine wDictS rfl rfl (by decide) (by decide) fun sx => ?_
  repeat' (walk_at "s")
  refine s_Decimal (t := 0) (p := 0) hr fun r2 b2 l2 d2 => ?_
  repeat' (walk_at "s")
  refine s_Decimal (t := 0) (p := 0) hr fun r3 b3 l3 d3 => ?_
  repeat' (walk_at "s")
  refine s_Decimal (t := 100) (p := 0) hr fun r4 b4 l4 d4 => ?_
  repeat' (walk_at "s")
  refine s_Decimal (t := 0) (p := 0) hr fun r5 b5 l5 d5 => ?_
  repeat' (walk_at "s")
  refine s_Decimal (t := 0) (p := 0) hr fun r6 b6 l6 d6 => ?_
  repeat' (walk_at "s")
  refine ⟨[(_, _), (_, _), (_, _), (_, _), (_, _)], _, ⟨strKind_is _ _ _ _, rfl, strKind_is _ _ _ _, rfl, strKind_is _ _ _ _, rfl, strKind_is _ _ _ _, rfl, strKind_is _ _ _ _, rfl, trivial⟩, nodupQ_of (by kernel_rfl), Nat.le_of_ble_eq_true rfl, by walk_at "led", fun o ho => ?_⟩
  repeat' (walk_at "s")
  refine wPerm (.swap _ _ _) ?_
  repeat' (walk_at "s")
  refine .perm (.trans (.cons _ (.swap _ _ _)) (.swap _ _ _)) ?_
  refine .freeze fun b7 l7 h7 => .done ⟨rfl, _, _, _, rfl, x, _, _, _, _, _, _, _, _, rfl, h7, rfl, hm.mono (by walk_at "sub"), rfl, d1.mono (by walk_at "sub"), ?_⟩
  exact ⟨_, _, _, _, _, ho, d2.mono (by walk_at "sub"), d3.mono (by walk_at "sub"), d4.mono (by walk_at "sub"), d5.mono (by walk_at "sub"), d6.mono (by walk_at "sub")⟩
local macro_rules | `(tactic| walk_at "lsub") => `(tactic| first | exact fun _ h => h | exact fun _ h => .tail _ h | exact fun _ h => .tail _ (.tail _ h) | exact fun _ h => .tail _ (.tail _ (.tail _ h)) | exact fun _ h => .tail _ (.tail _ (.tail _ (.tail _ h))) | fail "no")
local macro_rules | `(tactic| walk_at "at") => `(tactic| first | (refine FontV.mono (by assumption) ?_; walk_at "sub") | ((refine StAt.mono (by assumption) ?_ ?_); (focus (walk_at "sub")); (focus (walk_at "lsub"))) | fail "no")
local macro_rules | `(tactic| walk_at "s") => `(tactic| first
  | ((with_reducible refine' wGetStC ?h ?_); (case h => walk_at "at"); intro _ _)
  | ((with_reducible refine' wGetStF ?h ?_); (case h => walk_at "at"); intro _ _)
  | ((with_reducible refine' wGetStZ ?h ?_); (case h => walk_at "at"); intro _ _)
  | ((with_reducible refine' wGetStS ?h ?_); (case h => walk_at "at"); intro _ _)
  | ((with_reducible refine' wItemSp ?h ?hn ?hs ?_); (case h => assumption); (case hn => constructor); (case hs => exact rfl); intro _ _)
  | ((with_reducible refine' wMethSt ?h ?hf ?hl ?_); (case h => walk_at "at"); (case hf => first | with_reducible exact mo_St_cop _ | with_reducible exact mo_St_str _); (case hl => decide)) | fail "no")
section
variable {S : Sc} {X : Cx S} {b : Base} {led : Led} {vs : Vs} {Q : Post Value}
theorem s_TextState {cv : Value} {m : Mx} (hr : Room X 2) (hm : MatAt X.am.w.params b cv m) (q : ∀ v dx dob sx so b', Le b b' → StL X.am.w b' v (St.init m) dx dob sx so → Q v b' ((dx, dob) :: (sx, so) :: led) vs) : Wp X (call (.ref 505) [cv]) b led vs Q :=
  wMake (G := f_TextState_init) (mk_St _) (f_TextState_init_ok X.ok) (by have := hr.1; omega) (fun _ => by kernel_rfl) fun x dx L =>
    wMono (b_St_init _ x dx hr.mk hm) fun fl b' led' _ l ⟨e, dob, sx, so, e', h⟩ => ⟨e, by rw [e']; exact q _ _ _ _ _ _ l h⟩
end
theorem b_copied (Y : Cx f_TextState_copied.sc) {b : Base} {led : Led} {v : Value} {st : St} (hr : Room Y 2) (h : StAt Y.am.w b led v st) :
    Wp Y (execs (bodyOf f_TextState_copied.st) Y.env) b led [some v, none] (fun fl b' led' _ => ∃ dx dob sx so, led' = (dx, dob) :: (sx, so) :: led ∧ StL Y.am.w b' (retOf fl) st dx dob sx so) := by
  refine wFz ?_
  walk_at "body"
  repeat' (walk_at "s")
  refine s_TextState hr (by assumption) fun v1 dx1 d1 sx1 s1 b1 l1 h1 => ?_
  obtain ⟨x1, t1, t2, t3, t4, k, cv, fv, zv, rfl, hx1, rfl, hc1, hf1, hz1, hs1⟩ := h1
  have hi : Has b1 ((dx1, dictOf (mkEs Y.am.w.params (stFs t1 t2 t3 t4 cv fv zv sx1)) k) :: (sx1, s1) :: led) x1 (instObj 505 dx1) := .inl hx1
  repeat' (walk_at "s")
  rename_i spv hsp
  obtain ⟨sx, so, rfl, ⟨v1, v2, v3, v4, v5, hd, g1, g2, g3, g4, g5⟩, hx⟩ := hsp
  refine wCopyD hx hd (by show 5 ≤ 100000; decide) fun y o' ho' => ?_
  repeat' (walk_at "s")
  refine wPerm (.swap _ _ _) ?_
  repeat' (walk_at "s")
  refine .perm (.trans (.cons _ (.swap _ _ _)) (.swap _ _ _)) (.drop (.done ⟨_, _, _, _, rfl, x1, _, _, _, _, _, _, _, _, rfl, hx1, rfl, hc1, ?_, ?_, ?_⟩))
  · exact FontV.mono (by assumption) .rfl
  · walk_at "at"
  · exact ⟨v1, v2, v3, v4, v5, ho', g1, g2, g3, g4, g5⟩
section
variable {S : Sc} {X : Cx S} {b : Base} {led : Led} {vs : Vs} {Q : Post Value}
theorem s_copied {v : Value} {st : St} (hr : Room X 3) (h : StAt X.am.w b led v st) (q : ∀ v dx dob sx so b', Le b b' → StL X.am.w b' v st dx dob sx so → Q v b' ((dx, dob) :: (sx, so) :: led) vs) : Wp X (call (.ref 495) [v]) b led vs Q :=
  wDef (G := f_TextState_copied) X.hh (f_TextState_copied_ok X.ok) hr.d (by kernel_rfl) fun L => wMono (b_copied _ hr.sub h) fun fl b' led' _ l ⟨dx, dob, sx, so, e, h⟩ => by rw [e]; exact q _ _ _ _ _ _ l h
end
/-! advances -/
noncomputable def StOk (st : St) : Prop := Sz 16 1 st.size ∧ Sz 16 1 st.tc ∧ Sz 16 1 st.tz ∧ Sz 16 1 st.ts
noncomputable def St.strd (st : St) (d : Dc) : Dc := (d.times st.tz).times ⟨1, 2⟩
noncomputable def St.adv (st : St) (c : Int) : Dc × Dc :=
  (st.strd (if c = 32 then (((wid c).times st.size).plus st.tc).plus ⟨0, 0⟩ else ((wid c).times st.size).plus st.tc), st.strd ((wid c).times st.size))
theorem b_stretched (Y : Cx f_TextState_stretched.sc) {b : Base} {led : Led} {v w : Value} {st : St} {d : Dc} {B P : Nat} (hr : Room Y 4) (h : StAt Y.am.w b led v st) (hd : DecAt Y.am.w.params b w d) (zd : Sz B P d) (zt : Sz 16 1 st.tz) (hB : B ≤ 100000) (hP : P ≤ 1000) :
    Wp Y (execs (bodyOf f_TextState_stretched.st) Y.env) b led [some v, some w] (fun fl b' led' _ => led' = led ∧ DecAt Y.am.w.params b' (retOf fl) (st.strd d) ∧ Sz (B + 16 + 2) (P + 1 + 2) (st.strd d)) := by
  walk_at "body"
  repeat' (walk_at "s")
  refine s_timesZ hr (by assumption) (by assumption) zd zt (by omega) (by omega) fun r1 b1 l1 d1 z1 => ?_
  repeat' (walk_at "s")
  refine s_Decimal (t := 1) (p := 2) (hr.le (by decide)) fun r2 b2 l2 d2 => ?_
  repeat' (walk_at "s")
  refine s_timesZ (B' := 2) (P' := 2) hr (by walk_at "at") (by walk_at "at") z1 ⟨by decide, by decide⟩ (by omega) (by omega) fun r3 b3 l3 d3 z3 => ?_
  exact ⟨rfl, d3, z3⟩
section
variable {S : Sc} {X : Cx S} {b : Base} {led : Led} {vs : Vs} {Q : Post Value}
theorem s_stretched {v w : Value} {st : St} {d : Dc} {B P : Nat} (hr : Room X 5) (h : StAt X.am.w b led v st) (hd : DecAt X.am.w.params b w d) (zd : Sz B P d) (zt : Sz 16 1 st.tz) (hB : B ≤ 100000) (hP : P ≤ 1000)
    (q : ∀ r b', Le b b' → DecAt X.am.w.params b' r (st.strd d) → Sz (B + 16 + 2) (P + 1 + 2) (st.strd d) → Q r b' led vs) : Wp X (call (.ref 502) [v, w]) b led vs Q :=
  wDef (G := f_TextState_stretched) X.hh (f_TextState_stretched_ok X.ok) hr.d (by kernel_rfl) fun L => wMono (b_stretched _ hr.sub h hd zd zt hB hP) fun fl b' led' _ l ⟨e, h, z⟩ => by rw [e]; exact q _ _ l h z
end
theorem b_advance (Y : Cx f_advance.sc) {b : Base} {led : Led} {v p : Value} {st : St} {c : Int} (hr : Room Y 6) (h : StAt Y.am.w b led v st) (hf : st.font = true) (hp : CodeAt b p c) (ok : StOk st) :
    Wp Y (execs (bodyOf f_advance.st) Y.env) b led [some v, some p, none, none] (fun fl b' led' _ => led' = led ∧ ∃ r w1 w2 k, retOf fl = .ref r ∧ b' r = some (TO [w1, w2] k) ∧ DecAt Y.am.w.params b' w1 (st.adv c).1 ∧ DecAt Y.am.w.params b' w2 (st.adv c).2 ∧ Sz 100 20 (st.adv c).1 ∧ Sz 100 20 (st.adv c).2) := by
  obtain ⟨ok1, ok2, ok3, ok4⟩ := ok
  obtain ⟨r, q1, q2, kk, ep, hp'⟩ := id hp
  refine wFz ?_
  walk_at "body"
  repeat' (walk_at "s")
  rename_i fv hfv
  rw [hf] at hfv
  replace hfv : FontAt Y.am.w b fv := hfv
  repeat' (walk_at "s")
  refine s_fwidth (hr.le (by decide)) hfv hp fun r1 b1 l1 d1 => ?_
  repeat' (walk_at "s")
  refine s_timesZ (hr.le (by decide)) (by walk_at "at") (by walk_at "at") (wid_sz c) ok1 (by omega) (by omega) fun r2 b2 l2 d2 z2 => ?_
  repeat' (walk_at "s")
  refine s_plusZ (hr.le (by decide)) (by walk_at "at") (by walk_at "at") z2 ok2 (by omega) (by omega) fun r3 b3 l3 d3 z3 => ?_
  subst ep
  have e32 : ((1 : Int) == 1 && c == 32) = decide (c = 32) := by
    rw [show ((1 : Int) == 1) = true from rfl, Bool.true_and]; rfl
  repeat' (walk_at "s")
  refine wEqPair (.inl ((l1.trans (l2.trans l3)) _ _ hp')) (.inr (.head _)) (by have := hr.2; omega) ?_
  rw [e32]
  by_cases h32 : c = 32
  · rw [decide_eq_true h32]
    repeat' (walk_at "s")
    refine s_plusZ (hr.le (by decide)) (by walk_at "at") (by assumption) z3 (B' := 16) (P' := 1) ⟨by decide, by decide⟩ (by omega) (by omega) fun r4 b4 l4 d4 z4 => ?_
    repeat' (walk_at "s")
    refine s_stretched (hr.le (by decide)) (by walk_at "at") (by walk_at "at") z4 ok3 (by decide) (by decide) fun r5 b5 l5 d5 z5 => ?_
    repeat' (walk_at "s")
    refine s_stretched (hr.le (by decide)) (by walk_at "at") (by walk_at "at") z2 ok3 (by decide) (by decide) fun r6 b6 l6 d6 z6 => ?_
    repeat' (walk_at "s")
    have e1 : (st.adv c).1 = st.strd ((((wid c).times st.size).plus st.tc).plus ⟨0, 0⟩) := by unfold St.adv; rw [if_pos h32]
    rw [← e1] at d5 z5
    exact .freeze fun b7 l7 h7 => .drop (.done ⟨rfl, _, _, _, _, rfl, h7, d5.mono (by walk_at "sub"), d6.mono (by walk_at "sub"), z5.mono (by decide) (by decide), z6.mono (by decide) (by decide)⟩)
  · rw [decide_eq_false h32]
    repeat' (walk_at "s")
    refine s_stretched (hr.le (by decide)) (by walk_at "at") (by walk_at "at") z3 ok3 (by decide) (by decide) fun r5 b5 l5 d5 z5 => ?_
    repeat' (walk_at "s")
    refine s_stretched (hr.le (by decide)) (by walk_at "at") (by walk_at "at") z2 ok3 (by decide) (by decide) fun r6 b6 l6 d6 z6 => ?_
    repeat' (walk_at "s")
    have e1 : (st.adv c).1 = st.strd (((wid c).times st.size).plus st.tc) := by unfold St.adv; rw [if_neg h32]
    rw [← e1] at d5 z5
    exact .freeze fun b7 l7 h7 => .drop (.done ⟨rfl, _, _, _, _, rfl, h7, d5.mono (by walk_at "sub"), d6.mono (by walk_at "sub"), z5.mono (by decide) (by decide), z6.mono (by decide) (by decide)⟩)
section
variable {S : Sc} {X : Cx S} {b : Base} {led : Led} {vs : Vs} {Q : Post Value}
theorem s_advance {v p : Value} {st : St} {c : Int} (hr : Room X 7) (h : StAt X.am.w b led v st) (hf : st.font = true) (hp : CodeAt b p c) (ok : StOk st)
    (q : ∀ r w1 w2 k b', Le b b' → b' r = some (TO [w1, w2] k) → DecAt X.am.w.params b' w1 (st.adv c).1 → DecAt X.am.w.params b' w2 (st.adv c).2 → Sz 100 20 (st.adv c).1 → Sz 100 20 (st.adv c).2 → Q (.ref r) b' led vs) : Wp X (call (.ref 516) [v, p]) b led vs Q :=
  wDef (G := f_advance) X.hh (f_advance_ok X.ok) hr.d (by kernel_rfl) fun L => wMono (b_advance _ hr.sub h hf hp ok) fun fl b' led' _ l ⟨e, r, w1, w2, k, e2, h, d1, d2, z1, z2⟩ => by rw [e, e2]; exact q _ _ _ _ _ l h d1 d2 z1 z2
end
/-! glyphs shown -/
noncomputable def St.gl (st : St) (onto : Mx) (up gone : Dc) (c : Int) : Gl := ⟨txt c, (onto.app gone st.ts).1, (onto.app gone st.ts).2, (onto.shf (st.adv c).2 ⟨0, 0⟩).1, up⟩
noncomputable def St.turn (st : St) (onto : Mx) (up : Dc) (a : List Gl × Dc) (c : Int) : List Gl × Dc := (a.1 ++ [st.gl onto up a.2 c], a.2.plus (st.adv c).1)
noncomputable def St.shown (st : St) (onto : Mx) (up : Dc) (cs : List Int) : List Gl × Dc := cs.foldl (st.turn onto up) ([], ⟨0, 0⟩)
noncomputable def St.show (st : St) (place : Mx) (os : List UInt8) : List Gl × Dc := st.shown (place.mul st.ctm) ((place.mul st.ctm).shf ⟨0, 0⟩ st.size).2 (cds os)
theorem shown_sz (st : St) (ok : StOk st) (onto : Mx) (up : Dc) (hs : ∀ c, Sz 100 20 (st.adv c).1) : ∀ (cs : List Int), Sz (200 + 100 * cs.length) 20 (st.shown onto up cs).2 := by
  have key : ∀ (cs : List Int) (n : Nat) (a : List Gl × Dc), Sz (200 + 100 * n) 20 a.2 → Sz (200 + 100 * (n + cs.length)) 20 (cs.foldl (st.turn onto up) a).2 := by
    intro cs
    induction cs with
    | nil => intro n a h; exact h
    | cons c cs ih =>
      intro n a h
      rw [List.foldl_cons, List.length_cons, show n + (cs.length + 1) = (n + 1) + cs.length by omega]
      refine ih (n + 1) _ ?_
      exact (h.plus (hs c)).mono (by omega) (by omega)
  intro cs
  have := key cs 0 ([], ⟨0, 0⟩) ⟨Nat.two_pow_pos _, Nat.zero_le _⟩
  rwa [Nat.zero_add] at this
theorem shown_len (st : St) (onto : Mx) (up : Dc) (cs : List Int) : (st.shown onto up cs).1.length = cs.length := by
  have key : ∀ (cs : List Int) (a : List Gl × Dc), (cs.foldl (st.turn onto up) a).1.length = a.1.length + cs.length := by
    intro cs
    induction cs with
    | nil => intro a; rfl
    | cons c cs ih =>
      intro a
      rw [List.foldl_cons, ih]
      simp [St.turn]; omega
  have := key cs ([], ⟨0, 0⟩)
  unfold St.shown
  simpa using this
theorem shown_snoc (st : St) (onto : Mx) (up : Dc) (cs : List Int) (c : Int) : st.shown onto up (cs ++ [c]) = st.turn onto up (st.shown onto up cs) c := by
  unfold St.shown
  rw [List.foldl_append]; rfl
theorem adv_sz {st : St} (ok : StOk st) (c : Int) : Sz 100 20 (st.adv c).1 := by
  obtain ⟨ok1, ok2, ok3, ok4⟩ := ok
  have z2 := (wid_sz c).times ok1
  have z3 := z2.plus ok2
  have u : Sz 2 2 (⟨1, 2⟩ : Dc) := ⟨by decide, by decide⟩
  unfold St.adv St.strd
  by_cases h : c = 32
  · rw [if_pos h]
    exact (((z3.plus (B' := 16) (P' := 1) (y := ⟨0, 0⟩) ⟨by decide, by decide⟩).times ok3).times u).mono (by decide) (by decide)
  · rw [if_neg h]
    exact ((z3.times ok3).times u).mono (by decide) (by decide)
theorem cds_len (os : List UInt8) : (cds os).length = os.length := List.length_map _
theorem cds_rng {os : List UInt8} {c : Int} (h : c ∈ cds os) : 0 ≤ c ∧ c < 256 := by
  obtain ⟨x, _, rfl⟩ := List.mem_map.mp h
  have := x.toNat_lt
  omega
inductive ShownPost (w : World) (pl : Mx) (st : St) (os : List UInt8) (led : Led) (fl : Flow) (b' : Base) (led' : Led) : Prop
  | mk (r gx : Addr) (gw : Value) (k n : Nat) (us : List Value) (h1_ : retOf fl = .ref r) (h2_ : b' r = some (TO [.ref gx, gw] k)) (h3_ : led' = (gx, LO us n) :: led) (h4_ : All2 (GlA w.params b') us (st.show pl os).1) (h5_ : DecAt w.params b' gw (st.show pl os).2) : ShownPost w pl st os led fl b' led'
inductive ShownInv (w : World) (pl : Mx) (st : St) (os : List UInt8) (led : Led) (v pv : Value) (t : Tok) (r1 w2 : Value) (fx : Addr) (i : Nat) (b' : Base) (l' : Led) (v' : Vs) : Prop
  | mk (us : List Value) (n : Nat) (gw : Value) (c1 c2 c3 c4 c5 : Option Value) (h1_ : l' = (fx, LO us n) :: led) (h2_ : v' = [some v, some pv, some (.bytes os.toArray t), some r1, some w2, some gw, some (.ref fx), c1, c2, c3, c4, c5])
      (h3_ : All2 (GlA w.params b') us (st.shown (pl.mul st.ctm) ((pl.mul st.ctm).shf ⟨0, 0⟩ st.size).2 ((cds os).take i)).1) (h4_ : DecAt w.params b' gw (st.shown (pl.mul st.ctm) ((pl.mul st.ctm).shf ⟨0, 0⟩ st.size).2 ((cds os).take i)).2) : ShownInv w pl st os led v pv t r1 w2 fx i b' l' v'
theorem b_shown (Y : Cx f_shown_glyphs.sc) {b : Base} {led : Led} {v pv : Value} {st : St} {pl : Mx} {os : List UInt8} {t : Tok} (hr : Room Y 8) (h : StAt Y.am.w b led v st) (hf : st.font = true) (hp : MatAt Y.am.w.params b pv pl) (ok : StOk st) (hz : os.length ≤ 100)
    (zp : Mz 1000 100 pl) (zc : Mz 8200000 1100 st.ctm) :
    Wp Y (execs (bodyOf f_shown_glyphs.st) Y.env) b led [some v, some pv, some (.bytes os.toArray t), none, none, none, none, none, none, none, none, none] (fun fl b' led' _ => ShownPost Y.am.w pl st os led fl b' led') := by
  obtain ⟨ok1, ok2, ok3, ok4⟩ := id ok
  refine wFz ?_
  walk_at "body"
  repeat' (walk_at "s")
  rename_i fv hfv
  have hne : (fv == Value.none) = false := by
    rw [hf] at hfv
    obtain ⟨_, _, _, _, _, _, _, _, _, _, _, _, _, _, x, dx, k, rfl, _⟩ := FontAt.ia hfv
    rfl
  rw [hne]
  repeat' (walk_at "s")
  refine s_mtimes (hr.le (by decide)) (by walk_at "at") (by walk_at "at") zp zc (by decide) (by decide) fun r1 b1 l1 m1 zm => ?_
  replace zm : Mz 8220000 1200 (pl.mul st.ctm) := ⟨zm.1.mono (by decide) (by decide), zm.2.1.mono (by decide) (by decide), zm.2.2.1.mono (by decide) (by decide), zm.2.2.2.1.mono (by decide) (by decide), zm.2.2.2.2.1.mono (by decide) (by decide), zm.2.2.2.2.2.mono (by decide) (by decide)⟩
  repeat' (walk_at "s")
  refine s_shifted (x := .int 0) (y := .dec st.size) (hr.le (by decide)) (by walk_at "at") ⟨_, rfl⟩ (by walk_at "at") zm (B' := 16) (P' := 1) ⟨by decide, by decide⟩ ok1 (by decide) (by decide) fun r2 w1 w2 k2 b2 l2 h2 d1 d2 z1 z2 => ?_
  repeat' (walk_at "s")
  refine wItemT (.inl h2) (by decide) (by decide) rfl rfl ?_
  repeat' (walk_at "s")
  refine s_Decimal (t := 0) (p := 0) (hr.le (by decide)) fun r3 b3 l3 d3 => ?_
  repeat' (walk_at "s")
  rename_i fx
  have hfa : FontAt Y.am.w b fv := by rw [hf] at hfv; exact hfv
  refine aFor (ShownInv Y.am.w pl st os led v pv t r1 w2 fx) (fun _ => rfl) (fun _ _ => rfl) (wLet ?_)
  intro _
  repeat' (walk_at "s")
  rename_i fv2 hfv2
  have hfa2 : FontAt Y.am.w b3 fv2 := by rw [hf] at hfv2; exact hfv2
  repeat' (walk_at "s")
  refine s_codes (hr.le (by decide)) hfa2 (by omega) fun cx co cus b4 l4 hco hlo hcs => ?_
  refine ⟨cus.length, _, its_list hco hlo, ⟨_, _, _, _, _, _, _, _, rfl, rfl, .nil, d3.mono l4⟩, ?_, ?_⟩
  · rintro i b5 l5 v5 w p hi lb hw ⟨us, n, gw, c1, c2, c3, c4, c5, rfl, rfl, hgs, hgw⟩
    obtain ⟨c, hc, hcw⟩ := hcs.get hw
    replace hcw := hcw.mono lb
    have hcm := List.mem_of_getElem? hc
    have etk : (cds os).take (i + 1) = (cds os).take i ++ [c] := by rw [List.take_add_one, hc]; rfl
    have hil : i < os.length := by rw [hcs.len, cds_len] at hi; exact hi
    have zg := shown_sz st ok (pl.mul st.ctm) ((pl.mul st.ctm).shf ⟨0, 0⟩ st.size).2 (adv_sz ok) ((cds os).take i)
    have htl : ((cds os).take i).length ≤ 100 := by rw [List.length_take, cds_len]; omega
    replace zg : Sz 10200 20 (st.shown (pl.mul st.ctm) ((pl.mul st.ctm).shf ⟨0, 0⟩ st.size).2 ((cds os).take i)).2 := zg.mono (by omega) (by omega)
    have l05 : Le b b5 := (((l1.trans l2).trans l3).trans l4).trans lb
    have l2b : Le b2 b5 := (l3.trans l4).trans lb
    have l25 : Le b1 b5 := ((l2.trans l3).trans l4).trans lb
    walk_at "s"
    refine wFzL ?_; intro _
    repeat' (walk_at "s")
    refine s_advance (hr.le (by decide)) (by refine StAt.mono h ?_ ?_; exact l05; walk_at "lsub") hf hcw ok fun r6 w6 w7 k6 b6 l6 h6 d6 d7 z6 z7 => ?_
    repeat' (walk_at "s")
    refine s_applied (hr.le (by decide)) (by walk_at "at") (by walk_at "at") (by walk_at "at") zm (B' := 10200) (P' := 20) (by assumption) (ok4.mono (by decide) (by decide)) (by decide) (by decide) fun r7 w8 w9 k7 b7 l7 h7 d8 d9 z8 z9 => ?_
    repeat' (walk_at "s")
    refine wMethL slot_list_append type_list_append (.inr (.tail _ (.head _))) ?_
    repeat' (walk_at "s")
    rename_i fv3 hfv3
    have hfa3 : FontAt Y.am.w b7 fv3 := by rw [hf] at hfv3; exact hfv3
    repeat' (walk_at "s")
    refine s_ftext (hr.le (by decide)) hfa3 (by walk_at "at") (cds_rng hcm) fun t8 b8 l8 => ?_
    repeat' (walk_at "s")
    refine s_shifted (x := .dec (st.adv c).2) (y := .int 0) (hr.le (by decide)) (by walk_at "at") (by walk_at "at") ⟨_, rfl⟩ zm (B' := 100) (P' := 20) z7 ⟨by decide, by decide⟩ (by decide) (by decide) fun r9 w10 w11 k9 b9 l9 h9 d10 d11 z10 z11 => ?_
    repeat' (walk_at "s")
    refine wItemT (.inl h9) (by decide) (by decide) rfl rfl ?_
    repeat' (walk_at "s")
    refine s_Glyph (g := st.gl (pl.mul st.ctm) ((pl.mul st.ctm).shf ⟨0, 0⟩ st.size).2 (st.shown (pl.mul st.ctm) ((pl.mul st.ctm).shf ⟨0, 0⟩ st.size).2 ((cds os).take i)).2 c) (hr.le (by decide)) (d8.mono (by walk_at "sub")) (d9.mono (by walk_at "sub")) d10 (DecAt.mono (b := b2) d2 (by walk_at "sub")) fun r10 b10 l10 g10 => ?_
    repeat' (walk_at "s")
    have hul : us.length ≤ 100 := by rw [hgs.len, shown_len]; exact htl
    refine wAppend (by walk_at "led") (by simp [sizeLine]; omega) fun n' => ⟨fun _ h => (by cases h), ?_⟩
    repeat' (walk_at "s")
    refine s_plusZ (hr.le (by decide)) (by walk_at "at") (by walk_at "at") zg z6 (by decide) (by decide) fun r11 b11 l11 d12 z12 => ?_
    repeat' (walk_at "s")
    refine .done ⟨_, rfl, _, _, _, _, _, _, _, _, rfl, rfl, ?_, ?_⟩
    · rw [etk, shown_snoc]
      exact (hgs.mono fun _ _ h => h.mono (by walk_at "sub")).app (.cons (g10.mono l11) .nil)
    · rw [etk, shown_snoc]
      exact d12
  · rintro b5 l5 v5 lb ⟨us, n, gw, c1, c2, c3, c4, c5, rfl, rfl, hgs, hgw⟩
    rw [hcs.len, List.take_length] at hgs hgw
    repeat' (walk_at "s")
    exact .freeze fun b6 l6 h6 => .done ⟨_, _, _, _, _, _, rfl, h6, rfl, hgs.mono fun _ _ h => h.mono l6, hgw.mono l6⟩
section
variable {S : Sc} {X : Cx S} {b : Base} {led : Led} {vs : Vs} {Q : Post Value}
theorem s_shown {v pv : Value} {st : St} {pl : Mx} {os : List UInt8} {t : Tok} (hr : Room X 9) (h : StAt X.am.w b led v st) (hf : st.font = true) (hp : MatAt X.am.w.params b pv pl) (ok : StOk st) (hz : os.length ≤ 100)
    (zp : Mz 1000 100 pl) (zc : Mz 8200000 1100 st.ctm) (q : ∀ r gx gw k n us b', Le b b' → b' r = some (TO [.ref gx, gw] k) → All2 (GlA X.am.w.params b') us (st.show pl os).1 → DecAt X.am.w.params b' gw (st.show pl os).2 → Q (.ref r) b' ((gx, LO us n) :: led) vs) :
    Wp X (call (.ref 530) [v, pv, .bytes os.toArray t]) b led vs Q :=
  wDef (G := f_shown_glyphs) X.hh (f_shown_glyphs_ok X.ok) hr.d (by kernel_rfl) fun L => wMono (b_shown _ hr.sub h hf hp ok hz zp zc) fun fl b' led' _ l ⟨r, gx, gw, k, n, us, e, h, e', hg, hd⟩ => by rw [e, e']; exact q _ _ _ _ _ _ _ l h hg hd
end
section
variable {S : Sc} {X : Cx S} {b : Base} {led : Led} {vs : Vs}
theorem wSetX {x C dx : Addr} {l : Fs} {f : Nat → Fs} {k : Nat} {n : String} {v : Value} {g : Obj → Led} {Q : Post Unit} (hx : Has b led x (instObj C dx)) (hd : LedX led dx (dictOf (mkEs X.am.w.params l) k) g) (hf : fieldOk X.am.w.params C (PySem.Str.ofString n) = true) (hs : FSetF l n v f) (hz : l.length < 1000)
    (q : ∀ t k', Q () b (g (dictOf (mkEs X.am.w.params (f t)) k')) vs) : Wp X (setAttr (.ref x) (PySem.Str.ofString n) v) b led vs Q := by
  obtain ⟨pre, post, h1, h2⟩ := hd.split
  rw [h1] at hx ⊢
  exact wSet hx hf hz (fun t l' k' h => by rw [(h.uniq (hs.at t))]; have := q t k'; rwa [h2] at this) fun t => ⟨_, hs.at t⟩
end
local macro_rules | `(tactic| walk_at "s") => `(tactic| first
  | ((with_reducible refine' wGet ?hx ?hd ?hf ?hl ?hv ?_); (case hx => exact .inl (by assumption)); (case hd => walk_at "has"); (case hl => walk_at "fld"); (case hf => kernel_rfl); (case hv => first | exact rfl | assumption))
  | ((with_reducible refine' wSetX ?h1 ?hd ?hf ?hs ?hz ?_); (case h1 => walk_at "has"); (case hd => walk_at "led"); (case hf => kernel_rfl); (case hs => walk_at "fld"); (case hz => exact of_decide_eq_true (by kernel_rfl)); intro _ _) | fail "no")
local macro_rules | `(tactic| walk_at "has") => `(tactic| first | exact .inl (by assumption) | exact .inr (.head _) | exact .inr (.tail _ (.head _)) | exact .inr (.tail _ (.tail _ (.head _))) | exact .inr (.tail _ (.tail _ (.tail _ (.head _)))) | exact .inr (.tail _ (.tail _ (.tail _ (.tail _ (.head _))))) | exact .inr (.tail _ (.tail _ (.tail _ (.tail _ (.tail _ (.head _)))))) | exact .inr (.tail _ (.tail _ (.tail _ (.tail _ (.tail _ (.tail _ (.head _))))))) | exact .inr (.tail _ (.tail _ (.tail _ (.tail _ (.tail _ (.tail _ (.tail _ (.head _)))))))) | exact .inr (.tail _ (.tail _ (.tail _ (.tail _ (.tail _ (.tail _ (.tail _ (.tail _ (.head _))))))))))
/-! the walk over a sheet: the pure machine -/
inductive SpK where
  | tc
  | tz
  | ts
noncomputable def SpK.word : SpK → String
  | .tc => "Tc"
  | .tz => "Tz"
  | .ts => "Ts"
noncomputable def St.setSp (st : St) (d : Dc) : SpK → St
  | .tc => { st with tc := d }
  | .tz => { st with tz := d }
  | .ts => { st with ts := d }
structure Mc where
  st : St
  row : Option Mx
  place : Option Mx
  pile : List St
  found : List Gl
inductive Op where
  | q
  | Q
  | cm (s : Six)
  | sp (k : SpK) (n : Num)
  | bt
  | td (x y : Num)
  | tj (os : List UInt8)
  | et
  | tf
  | call (g : St → List Gl → Prop)
  | nop
inductive Step : Op → Mc → Mc → Prop
  | q {m : Mc} : m.pile.length ≤ 1000 → Step .q m { m with pile := m.st :: m.pile }
  | Q {m : Mc} {s : St} {p : List St} : m.pile = s :: p → p.length ≤ 1000 → Step .Q m { m with st := s, pile := p }
  | cm {m : Mc} {s : Six} : Mz 16 1 s.mx → Mz 8200000 1100 m.st.ctm → Step (.cm s) m { m with st := { m.st with ctm := s.mx.mul m.st.ctm } }
  | sp {m : Mc} {k : SpK} {n : Num} : Step (.sp k n) m { m with st := m.st.setSp n.dc k }
  | bt {m : Mc} : m.place = none → Step .bt m { m with row := some Mx.one, place := some Mx.one }
  | td {m : Mc} {x y : Num} : m.row = some Mx.one → m.place ≠ none → Sz 16 1 x.dc → Sz 16 1 y.dc → Step (.td x y) m { m with row := some ((Mx.tr x y).mul Mx.one), place := some ((Mx.tr x y).mul Mx.one) }
  | tj {m : Mc} {p : Mx} {os : List UInt8} : m.place = some p → m.st.font = true → StOk m.st → Mz 1000 100 p → Mz 8200000 1100 m.st.ctm → os.length ≤ 100 → m.found.length ≤ 50000 →
      Step (.tj os) m { m with found := m.found ++ (m.st.show p os).1, place := some (p.alg (m.st.show p os).2) }
  | et {m : Mc} : m.place ≠ none → Step .et m { m with row := none, place := none }
  | tf {m : Mc} : Step .tf m { m with st := { m.st with font := true, size := ⟨2, 0⟩ } }
  | call {m : Mc} {g : St → List Gl → Prop} {gs : List Gl} : g m.st gs → gs.length + m.found.length ≤ 50000 → Step (.call g) m { m with found := m.found ++ gs }
  | nop {m : Mc} : Step .nop m m
inductive Run : List Op → Mc → Mc → Prop
  | nil {m : Mc} : Run [] m m
  | cons {o : Op} {os : List Op} {m m' m'' : Mc} : Step o m m' → Run os m' m'' → Run (o :: os) m m''
noncomputable def Mc.start (st : St) : Mc := ⟨st, none, none, [], []⟩
noncomputable def callG (own : Mx) (ops : List Op) (st : St) (gs : List Gl) : Prop := Mz 8200000 1100 st.ctm ∧ ∃ m, Run ops (Mc.start { st with ctm := own.mul st.ctm }) m ∧ gs = m.found
/-! the walk's object -/
noncomputable def RowV (P : Params) (b : Base) (v : Value) : Option Mx → Prop
  | none => v = .none
  | some m => MatAt P b v m
theorem RowV.mono {P : Params} {b b' : Base} {v : Value} : ∀ {r : Option Mx}, RowV P b v r → Le b b' → RowV P b' v r
  | none, h, _ => h
  | some _, h, l => MatAt.mono h l
theorem RowV.handed {P : Params} {b : Base} {v : Value} : ∀ {r : Option Mx}, RowV P b v r → handedIn v = true
  | none, h => by cases h; rfl
  | some _, h => MatAt.handed h
inductive PileL (w : World) (b : Base) : List St → List Value → Led → Prop
  | nil : PileL w b [] [] []
  | push {v : Value} {st : St} {dx : Addr} {dob : Obj} {sx : Addr} {so : Obj} {sts : List St} {us : List Value} {pl : Led} : StL w b v st dx dob sx so → PileL w b sts us pl → PileL w b (st :: sts) (us ++ [v]) ((dx, dob) :: (sx, so) :: pl)
theorem PileL.mono {w : World} {b b' : Base} {sts : List St} {us : List Value} {pl : Led} (h : PileL w b sts us pl) (l : Le b b') : PileL w b' sts us pl := by
  induction h with
  | nil => exact .nil
  | push h _ ih => exact .push (h.mono l) ih
theorem PileL.len {w : World} {b : Base} {sts : List St} {us : List Value} {pl : Led} (h : PileL w b sts us pl) : us.length = sts.length := by
  induction h with
  | nil => rfl
  | push h _ ih => rw [List.length_append, ih]; rfl
noncomputable abbrev toFs (t1 t2 t3 t4 t5 t6 : Nat) (sv stv rv pv : Value) (px gx : Addr) : Fs := [("sheet", t1, sv), ("state", t2, stv), ("pile", t3, .ref px), ("row", t4, rv), ("place", t5, pv), ("found", t6, .ref gx)]
inductive TourL (w : World) (b : Base) (tv sv : Value) (m : Mc) (l led : Led) : Prop
  | mk (tx : _) (td : _) (t1 : _) (t2 : _) (t3 : _) (t4 : _) (t5 : _) (t6 : _) (k : _) (stv : _) (px : _) (pn : _) (us : _) (rv : _) (pv : _) (gx : _) (gn : _) (gs : _) (dx : _) (dob : _) (sx : _) (so : _) (pl : _) (h1_ : tv = .ref tx) (h2_ : b tx = some (instObj 589 td)) (h3_ : led = (td, dictOf (mkEs w.params (toFs t1 t2 t3 t4 t5 t6 sv stv rv pv px gx)) k) :: (px, LO us pn) :: (gx, LO gs gn) :: (dx, dob) :: (sx, so) :: (pl ++ l)) (h4_ : StL w b stv m.st dx dob sx so) (h5_ : RowV w.params b rv m.row) (h6_ : RowV w.params b pv m.place) (h7_ : PileL w b m.pile us pl) (h8_ : All2 (GlA w.params b) gs m.found) (h9_ : handedIn sv = true) : TourL w b tv sv m l led
theorem TourL.mono {w : World} {b b' : Base} {tv sv : Value} {m : Mc} {l led : Led} (h : TourL w b tv sv m l led) (k : Le b b') : TourL w b' tv sv m l led :=
  let ⟨tx, td, t1, t2, t3, t4, t5, t6, kk, stv, px, pn, us, rv, pv, gx, gn, gs, dx, dob, sx, so, pl, e, h1, e2, h2, h3, h4, h5, h6, h7⟩ := h
  ⟨tx, td, t1, t2, t3, t4, t5, t6, kk, stv, px, pn, us, rv, pv, gx, gn, gs, dx, dob, sx, so, pl, e, k _ _ h1, e2, h2.mono k, h3.mono k, h4.mono k, h5.mono k, h6.mono fun _ _ h => h.mono k, h7⟩
theorem StL.handed {w : World} {b : Base} {v : Value} {st : St} {dx : Addr} {dob : Obj} {sx : Addr} {so : Obj} (h : StL w b v st dx dob sx so) : handedIn v = true := by
  obtain ⟨x, t1, t2, t3, t4, k, cv, fv, zv, rfl, _⟩ := h; rfl
theorem perm4 {α : Type} (a c d e : α) (l : List α) : (a :: c :: d :: e :: l).Perm (e :: d :: c :: a :: l) := (List.reverse_perm [a, c, d, e]).symm.append_right l
theorem mk_To (P : Params) : makeOk P 589 551 = true := by kernel_rfl
theorem b_To_init (Y : Cx f_TextWalk_init.sc) {b : Base} {l : Led} (tx td : Addr) {sv stv : Value} {st : St} {dx : Addr} {dob : Obj} {sx : Addr} {so : Obj} (h : StL Y.am.w b stv st dx dob sx so) (hs : handedIn sv = true) :
    Wp Y (execs (bodyOf f_TextWalk_init.st) Y.env) b ((td, dictOf (mkEs Y.am.w.params []) 0) :: (tx, instObj 589 td) :: (dx, dob) :: (sx, so) :: l) [some (.ref tx), some sv, some stv]
      (fun fl b' led' _ => retOf fl = .none ∧ TourL Y.am.w b' (.ref tx) sv (Mc.start st) l led') := by
  refine wFz ?_
  walk_at "body"
  repeat' (walk_at "s")
  exact .perm (perm4 _ _ _ _ _) (.freeze fun b1 l1 h1 => .done ⟨rfl, tx, td, _, _, _, _, _, _, _, _, _, _, _, _, _, _, _, _, _, _, _, _, [], rfl, h1, rfl, h.mono l1, rfl, rfl, .nil, .nil, hs⟩)
section
variable {S : Sc} {X : Cx S} {b : Base} {led : Led} {vs : Vs} {Q : Post Value}
theorem s_Tour {sv stv : Value} {st : St} {dx : Addr} {dob : Obj} {sx : Addr} {so : Obj} (hr : Room X 1) (h : StL X.am.w b stv st dx dob sx so) (hs : handedIn sv = true) (q : ∀ tv led' b', Le b b' → TourL X.am.w b' tv sv (Mc.start st) led led' → Q tv b' led' vs) :
    Wp X (call (.ref 589) [sv, stv]) b ((dx, dob) :: (sx, so) :: led) vs Q :=
  wMake (G := f_TextWalk_init) (mk_To _) (f_TextWalk_init_ok X.ok) (by have := hr.1; omega) (fun _ => by kernel_rfl) fun tx td L =>
    wMono (b_To_init _ tx td h hs) fun fl b' led' _ l ⟨e, ht⟩ => ⟨e, q _ _ _ l ht⟩
end
theorem mo_To_show (P : Params) : methOk P 589 558 (PySem.Str.ofString "show") = true := by kernel_rfl
theorem mo_To_next (P : Params) : methOk P 589 572 (PySem.Str.ofString "next_row") = true := by kernel_rfl
theorem mo_To_set (P : Params) : methOk P 589 586 (PySem.Str.ofString "set_matrix") = true := by kernel_rfl
theorem wMethTo {S : Sc} {X : Cx S} {b : Base} {led : Led} {vs : Vs} {tv sv : Value} {m : Mc} {l : Led} {f : Addr} {n : String} {pl : Sem Bool} {Q : Post (Value × List Value)} (h : TourL X.am.w b tv sv m l led) (hf : methOk X.am.w.params 589 f (PySem.Str.ofString n) = true) (hl : ∀ y ∈ ["sheet", "state", "pile", "row", "place", "found"], y ≠ n) (q : Q (.ref f, [tv]) b led vs) :
    Wp X (getMethod tv (PySem.Str.ofString n) pl) b led vs Q := by
  obtain ⟨tx, td, t1, t2, t3, t4, t5, t6, k, stv, px, pn, us, rv, pv, gx, gn, gs, dx, dob, sx, so, pl, rfl, h1, rfl, h2, h3, h4, h5, h6, h7⟩ := h
  exact wGetMeth (.inl h1) (.inr (.head _)) hf (fun y hy => hl _ (List.mem_map_of_mem (f := fun y : String × Nat × Value => y.1) hy)) q
local macro_rules | `(tactic| walk_at "at") => `(tactic| first | (refine RowV.mono (by assumption) ?_; walk_at "sub") | fail "no")
local macro_rules | `(tactic| walk_at "s") => `(tactic| first
  | ((with_reducible refine' wMethTo ?h ?hf ?hl ?_); (case h => assumption); (case hf => first | with_reducible exact mo_To_show _ | with_reducible exact mo_To_next _ | with_reducible exact mo_To_set _); (case hl => decide)) | fail "no")
theorem tr_sz {x y : Num} (hx : Sz 16 1 x.dc) (hy : Sz 16 1 y.dc) : Mz 16 1 (Mx.tr x y) :=
  have h0 : Sz 16 1 (⟨0, 0⟩ : Dc) := ⟨by decide, by decide⟩
  have h1 : Sz 16 1 (⟨1, 0⟩ : Dc) := ⟨by decide, by decide⟩
  ⟨h1, h0, h0, h1, hx, hy⟩
theorem one_sz : Mz 16 1 Mx.one :=
  have h0 : Sz 16 1 (⟨0, 0⟩ : Dc) := ⟨by decide, by decide⟩
  have h1 : Sz 16 1 (⟨1, 0⟩ : Dc) := ⟨by decide, by decide⟩
  ⟨h1, h0, h0, h1, h0, h0⟩
theorem Mz.mono {B P B' P' : Nat} {m : Mx} (h : Mz B P m) (hb : B ≤ B') (hp : P ≤ P') : Mz B' P' m := ⟨h.1.mono hb hp, h.2.1.mono hb hp, h.2.2.1.mono hb hp, h.2.2.2.1.mono hb hp, h.2.2.2.2.1.mono hb hp, h.2.2.2.2.2.mono hb hp⟩
theorem b_set_matrix (Y : Cx f_TextWalk_set_matrix.sc) {b : Base} {led l : Led} {tv sv v : Value} {m : Mc} {r : Option Mx} (h : TourL Y.am.w b tv sv m l led) (hv : RowV Y.am.w.params b v r) :
    Wp Y (execs (bodyOf f_TextWalk_set_matrix.st) Y.env) b led [some tv, some v] (fun fl b' led' _ => retOf fl = .none ∧ TourL Y.am.w b' tv sv { m with row := r, place := r } l led') := by
  obtain ⟨tx, td, t1, t2, t3, t4, t5, t6, k, stv, px, pn, us, rv, pv, gx, gn, gs, dx, dob, sx, so, pl, rfl, h1, rfl, h2, h3, h4, h5, h6, h7⟩ := h
  walk_at "body"
  repeat' (walk_at "s")
  exact ⟨rfl, tx, td, _, _, _, _, _, _, _, _, _, _, _, _, _, _, _, _, _, _, _, _, pl, rfl, h1, rfl, h2, hv, hv, h5, h6, h7⟩
theorem b_next_row (Y : Cx f_TextWalk_next_row.sc) {b : Base} {led l : Led} {tv sv v w : Value} {m : Mc} {x y : Num} (hr : Room Y 7) (h : TourL Y.am.w b tv sv m l led) (hv : NumAt Y.am.w.params b v x) (hw : NumAt Y.am.w.params b w y) (hm : m.row = some Mx.one) (zx : Sz 16 1 x.dc) (zy : Sz 16 1 y.dc) :
    Wp Y (execs (bodyOf f_TextWalk_next_row.st) Y.env) b led [some tv, some v, some w] (fun fl b' led' _ => retOf fl = .none ∧ TourL Y.am.w b' tv sv { m with row := some ((Mx.tr x y).mul Mx.one), place := some ((Mx.tr x y).mul Mx.one) } l led') := by
  obtain ⟨tx, td, t1, t2, t3, t4, t5, t6, k, stv, px, pn, us, rv, pv, gx, gn, gs, dx, dob, sx, so, pl, rfl, h1, rfl, h2, h3, h4, h5, h6, h7⟩ := h
  have h3h := h3.handed
  rw [hm] at h3
  walk_at "body"
  repeat' (walk_at "s")
  refine s_translation (hr.le (by decide)) hv hw fun r1 b1 l1 m1 => ?_
  have h1' := l1 _ _ h1
  repeat' (walk_at "s")
  refine s_mtimes hr m1 (MatAt.mono h3 l1) (tr_sz zx zy) one_sz (by decide) (by decide) fun r2 b2 l2 m2 z2 => ?_
  have h1'' := l2 _ _ h1'
  have m2h := m2.handed
  repeat' (walk_at "s")
  have l12 := l1.trans l2
  exact ⟨rfl, tx, td, _, _, _, _, _, _, _, _, _, _, _, _, _, _, _, _, _, _, _, _, pl, rfl, h1'', rfl, h2.mono l12, m2, m2, h5.mono l12, h6.mono fun _ _ h => h.mono l12, h7⟩
theorem b_show (Y : Cx f_TextWalk_show.sc) {b : Base} {led l : Led} {tv sv : Value} {m : Mc} {p : Mx} {os : List UInt8} {t : Tok} (hr : Room Y 9) (h : TourL Y.am.w b tv sv m l led) (hm : m.place = some p) (hf : m.st.font = true) (ok : StOk m.st) (zp : Mz 1000 100 p) (zc : Mz 8200000 1100 m.st.ctm) (hz : os.length ≤ 100) (hg : m.found.length ≤ 50000) :
    Wp Y (execs (bodyOf f_TextWalk_show.st) Y.env) b led [some tv, some (.bytes os.toArray t), none, none] (fun fl b' led' _ => retOf fl = .none ∧ TourL Y.am.w b' tv sv { m with found := m.found ++ (m.st.show p os).1, place := some (p.alg (m.st.show p os).2) } l led') := by
  obtain ⟨tx, td, t1, t2, t3, t4, t5, t6, k, stv, px, pn, us, rv, pv, gx, gn, gs, dx, dob, sx, so, pl, rfl, h1, rfl, h2, h3, h4, h5, h6, h7⟩ := h
  have h2h := h2.handed
  have h4h := h4.handed
  rw [hm] at h4
  refine wFz ?_
  walk_at "body"
  repeat' (walk_at "s")
  refine s_shown hr ⟨dx, dob, sx, so, h2, .inr (.tail _ (.tail _ (.tail _ (.head _)))), .inr (.tail _ (.tail _ (.tail _ (.tail _ (.head _)))))⟩ hf h4 ok hz zp zc fun r1 gx1 gw k1 n1 us1 b1 l1 hr1 hg1 hd1 => ?_
  have h1' := l1 _ _ h1
  repeat' (walk_at "s")
  refine wMethL PySem.F.slot_list_extend PySem.F.type_list_extend (.inr (.tail _ (.tail _ (.tail _ (.head _))))) ?_
  repeat' (walk_at "s")
  have e1 : us1.length ≤ 100 := by
    rw [hg1.len]
    show (m.st.shown _ _ (cds os)).1.length ≤ 100
    rw [shown_len, cds_len]; exact hz
  refine wExtend (by walk_at "led") (.inr (.head _)) (by have := h6.len; omega) fun n' => ⟨fun _ h => (by cases h), ?_⟩
  repeat' (walk_at "s")
  have zg : Sz 10200 20 (m.st.show p os).2 := (shown_sz m.st ok _ _ (adv_sz ok) (cds os)).mono (by rw [cds_len]; omega) (by decide)
  refine s_along (hr.le (by decide)) (MatAt.mono h4 l1) hd1 zp zg (by decide) (by decide) (by decide) fun r2 b2 l2 m2 z2 => ?_
  have h1'' := l2 _ _ h1'
  repeat' (walk_at "s")
  have l12 := l1.trans l2
  exact .drop (.done ⟨rfl, tx, td, _, _, _, _, _, _, _, _, _, _, _, _, _, _, _, _, _, _, _, _, pl, rfl, h1'', rfl, h2.mono l12, h3.mono l12, m2, h5.mono l12, (h6.mono fun _ _ h => h.mono l12).app (hg1.mono fun _ _ h => h.mono l2), h7⟩)
section
variable {S : Sc} {X : Cx S} {b : Base} {led : Led} {vs : Vs} {Q : Post Value} {l : Led} {tv sv : Value} {m : Mc}
theorem s_set_matrix {v : Value} {r : Option Mx} (hr : Room X 1) (h : TourL X.am.w b tv sv m l led) (hv : RowV X.am.w.params b v r) (q : ∀ b' led', Le b b' → TourL X.am.w b' tv sv { m with row := r, place := r } l led' → Q .none b' led' vs) : Wp X (call (.ref 586) [tv, v]) b led vs Q :=
  wDef (G := f_TextWalk_set_matrix) X.hh (f_TextWalk_set_matrix_ok X.ok) hr.d (by kernel_rfl) fun L => wMono (b_set_matrix _ h hv) fun fl b' led' _ l ⟨e, h⟩ => by rw [e]; exact q _ _ l h
theorem s_next_row {v w : Value} {x y : Num} (hr : Room X 8) (h : TourL X.am.w b tv sv m l led) (hv : NumAt X.am.w.params b v x) (hw : NumAt X.am.w.params b w y) (hm : m.row = some Mx.one) (zx : Sz 16 1 x.dc) (zy : Sz 16 1 y.dc)
    (q : ∀ b' led', Le b b' → TourL X.am.w b' tv sv { m with row := some ((Mx.tr x y).mul Mx.one), place := some ((Mx.tr x y).mul Mx.one) } l led' → Q .none b' led' vs) : Wp X (call (.ref 572) [tv, v, w]) b led vs Q :=
  wDef (G := f_TextWalk_next_row) X.hh (f_TextWalk_next_row_ok X.ok) hr.d (by kernel_rfl) fun L => wMono (b_next_row _ hr.sub h hv hw hm zx zy) fun fl b' led' _ l ⟨e, h⟩ => by rw [e]; exact q _ _ l h
theorem s_show {p : Mx} {os : List UInt8} {t : Tok} (hr : Room X 10) (h : TourL X.am.w b tv sv m l led) (hm : m.place = some p) (hf : m.st.font = true) (ok : StOk m.st) (zp : Mz 1000 100 p) (zc : Mz 8200000 1100 m.st.ctm) (hz : os.length ≤ 100) (hg : m.found.length ≤ 50000)
    (q : ∀ b' led', Le b b' → TourL X.am.w b' tv sv { m with found := m.found ++ (m.st.show p os).1, place := some (p.alg (m.st.show p os).2) } l led' → Q .none b' led' vs) : Wp X (call (.ref 558) [tv, .bytes os.toArray t]) b led vs Q :=
  wDef (G := f_TextWalk_show) X.hh (f_TextWalk_show_ok X.ok) hr.d (by kernel_rfl) fun L => wMono (b_show _ hr.sub h hm hf ok zp zc hz hg) fun fl b' led' _ l ⟨e, h⟩ => by rw [e]; exact q _ _ l h
end
theorem ite_seq {a : String} {p q : Prop} (k : p) : if (PySem.Str.ofString a == PySem.Str.ofString a) = true then p else q := by rw [if_pos (beq_self_eq_true _)]; exact k
theorem ite_sne {a c : String} {p q : Prop} (h : a ≠ c) (k : q) : if (PySem.Str.ofString a == PySem.Str.ofString c) = true then p else q := by rw [if_neg]; exact k; intro e; exact nm h (beq_iff_eq.mp e)
theorem ite_bne {a c : String} {p q : Prop} (h : a ≠ c) (k : p) : if (PySem.Str.ofString a != PySem.Str.ofString c) = true then p else q := by rw [if_pos]; exact k; exact bne_iff_ne.mpr (nm h)
theorem ite_bse {a : String} {p q : Prop} (k : q) : if (PySem.Str.ofString a != PySem.Str.ofString a) = true then p else q := by rw [if_neg]; exact k; intro e; exact (bne_iff_ne.mp e) rfl
theorem wInTsK {S : Sc} {X : Cx S} {b : Base} {led : Led} {vs : Vs} {x : Addr} {n : Nat} {us : List Value} {ys : List PySem.Str} {k : PySem.Str} {t : Tok} {r : Bool} {Q : Post Value} (hx : (K X.am.w.params).lookup x = some (TO us n)) (hs : StrsAre us ys) (hr : ys.any (· == k) = r) (q : Q (.bool r) b led vs) : Wp X (compareOp .In (.str k t) (.ref x)) b led vs Q := .mk fun s H => by
  refine in_tuple_strs ⟨_, X.ok.K.keeps H.stays _ _ hx, rfl, _, rfl⟩ (by simpa using hs) ?_
  rw [hr]; exact Rest.of H q
theorem K_424 (P : Params) : (K P).lookup 424 = some (TO [ks "Td" 739, ks "TD" 740, ks "T*" 741, ks "Tm" 742, ks "Tj" 743, ks "TJ" 744, ks "'" 745, ks "\"" 746, ks "ET" 747] 0) := by kernel_rfl
theorem K_425 (P : Params) : (K P).lookup 425 = some (TO [ks "Tc" 749, ks "Tw" 750, ks "Tz" 751, ks "TL" 752, ks "Ts" 753] 0) := by kernel_rfl
local macro_rules | `(tactic| walk_at "s") => `(tactic| first
  | (with_reducible refine' ite_seq ?_)
  | ((with_reducible refine' ite_sne ?h ?_); (case h => decide))
  | (with_reducible refine' ite_bse ?_)
  | ((with_reducible refine' ite_bne ?h ?_); (case h => decide)) | fail "no")
/-! words within a text -/
theorem b_fp_td (Y : Cx f_follow_placed.sc) {b : Base} {led l : Led} {tv sv u1 u2 : Value} {m : Mc} {x y : Num} {ol : Addr} {lo : Obj} {t : Tok} (hr : Room Y 8) (h : TourL Y.am.w b tv sv m l led) (ho : b ol = some lo) (hlo : IsLO [u1, u2] lo) (hv : NumAt Y.am.w.params b u1 x) (hw : NumAt Y.am.w.params b u2 y) (hm : m.row = some Mx.one) (hp : m.place ≠ none) (zx : Sz 16 1 x.dc) (zy : Sz 16 1 y.dc) :
    Wp Y (execs (bodyOf f_follow_placed.st) Y.env) b led [some tv, some (.str (PySem.Str.ofString "Td") t), some (.ref ol)] (fun fl b' led' _ => retOf fl = .none ∧ TourL Y.am.w b' tv sv { m with row := some ((Mx.tr x y).mul Mx.one), place := some ((Mx.tr x y).mul Mx.one) } l led') := by
  obtain ⟨p, hp⟩ : ∃ p, m.place = some p := by
    cases e : m.place with
    | none => exact absurd e hp
    | some p => exact ⟨p, rfl⟩
  obtain ⟨tx, td, t1, t2, t3, t4, t5, t6, k, stv, px, pn, us, rv, pv, gx, gn, gs, dx, dob, sx, so, pl, rfl, h1, rfl, h2, h3, h4, h5, h6, h7⟩ := id h
  have h4h := h4.handed
  rw [hp] at h4
  have hne : (pv == Value.none) = false := by
    obtain ⟨x, dx, v1, v2, v3, v4, v5, v6, t1, t2, t3, t4, t5, t6, k, rfl, _⟩ := h4; rfl
  walk_at "body"
  repeat' (walk_at "s")
  rw [hne]
  repeat' (walk_at "s")
  refine wInTs (.inr (.head _)) (ys := ["Td", "TD"].map PySem.Str.ofString) (by walk_at "strs") (wDrop ?_)
  rw [show (["Td", "TD"].map PySem.Str.ofString).any (· == PySem.Str.ofString "Td") = true by kernel_rfl]
  repeat' (walk_at "s")
  refine wItemL (.inl ho) hlo (by decide) (by decide) rfl rfl ?_
  repeat' (walk_at "s")
  refine wItemL (.inl ho) hlo (by decide) (by decide) rfl rfl ?_
  repeat' (walk_at "s")
  refine s_next_row hr h hv hw hm zx zy fun b1 led1 l1 ht => ⟨fun _ h => (by cases h), ?_⟩
  repeat' (walk_at "s")
  exact ⟨rfl, ht⟩
theorem b_fp_et (Y : Cx f_follow_placed.sc) {b : Base} {led l : Led} {tv sv : Value} {m : Mc} {ol : Addr} {t : Tok} (hr : Room Y 8) (h : TourL Y.am.w b tv sv m l led) (hp : m.place ≠ none) :
    Wp Y (execs (bodyOf f_follow_placed.st) Y.env) b led [some tv, some (.str (PySem.Str.ofString "ET") t), some (.ref ol)] (fun fl b' led' _ => retOf fl = .none ∧ TourL Y.am.w b' tv sv { m with row := none, place := none } l led') := by
  obtain ⟨p, hp⟩ : ∃ p, m.place = some p := by
    cases e : m.place with
    | none => exact absurd e hp
    | some p => exact ⟨p, rfl⟩
  obtain ⟨tx, td, t1, t2, t3, t4, t5, t6, k, stv, px, pn, us, rv, pv, gx, gn, gs, dx, dob, sx, so, pl, rfl, h1, rfl, h2, h3, h4, h5, h6, h7⟩ := id h
  have h4h := h4.handed
  rw [hp] at h4
  have hne : (pv == Value.none) = false := by
    obtain ⟨x, dx, v1, v2, v3, v4, v5, v6, t1, t2, t3, t4, t5, t6, k, rfl, _⟩ := h4; rfl
  walk_at "body"
  repeat' (walk_at "s")
  rw [hne]
  repeat' (walk_at "s")
  refine wInTs (.inr (.head _)) (ys := ["Td", "TD"].map PySem.Str.ofString) (by walk_at "strs") (wDrop ?_)
  rw [show (["Td", "TD"].map PySem.Str.ofString).any (· == PySem.Str.ofString "ET") = false by kernel_rfl]
  repeat' (walk_at "s")
  refine s_set_matrix (r := none) (hr.le (by decide)) h rfl fun b1 led1 l1 ht => ⟨fun _ h => (by cases h), ?_⟩
  repeat' (walk_at "s")
  exact ⟨rfl, ht⟩
theorem b_fp_tj (Y : Cx f_follow_placed.sc) {b : Base} {led l : Led} {tv sv u1 : Value} {m : Mc} {p : Mx} {os : List UInt8} {ol : Addr} {lo : Obj} {t : Tok} (hr : Room Y 10) (h : TourL Y.am.w b tv sv m l led) (ho : b ol = some lo) (hlo : IsLO [u1] lo) (hv : StrAt Y.am.w.params b u1 os)
    (hm : m.place = some p) (hf : m.st.font = true) (ok : StOk m.st) (zp : Mz 1000 100 p) (zc : Mz 8200000 1100 m.st.ctm) (hz : os.length ≤ 100) (hg : m.found.length ≤ 50000) :
    Wp Y (execs (bodyOf f_follow_placed.st) Y.env) b led [some tv, some (.str (PySem.Str.ofString "Tj") t), some (.ref ol)] (fun fl b' led' _ => retOf fl = .none ∧ TourL Y.am.w b' tv sv { m with found := m.found ++ (m.st.show p os).1, place := some (p.alg (m.st.show p os).2) } l led') := by
  obtain ⟨tx, td, t1, t2, t3, t4, t5, t6, k, stv, px, pn, us, rv, pv, gx, gn, gs, dx, dob, sx, so, pl, rfl, h1, rfl, h2, h3, h4, h5, h6, h7⟩ := id h
  have h4h := h4.handed
  rw [hm] at h4
  have hne : (pv == Value.none) = false := by
    obtain ⟨x, dx, v1, v2, v3, v4, v5, v6, t1, t2, t3, t4, t5, t6, k, rfl, _⟩ := h4; rfl
  obtain ⟨q1, q2, q3, hv⟩ := hv
  walk_at "body"
  repeat' (walk_at "s")
  rw [hne]
  repeat' (walk_at "s")
  refine wInTs (.inr (.head _)) (ys := ["Td", "TD"].map PySem.Str.ofString) (by walk_at "strs") (wDrop ?_)
  rw [show (["Td", "TD"].map PySem.Str.ofString).any (· == PySem.Str.ofString "Tj") = false by kernel_rfl]
  repeat' (walk_at "s")
  refine wNeg fun _ => ?_
  refine wItemLneg (.inl ho) hlo (by decide) (by show -((1 : Nat) : Int) ≤ -1; decide) (by decide) rfl rfl ?_
  repeat' (walk_at "s")
  refine s_show hr h hm hf ok zp zc hz hg fun b1 led1 l1 ht => ⟨fun _ h => (by cases h), ?_⟩
  repeat' (walk_at "s")
  exact ⟨rfl, ht⟩
section
variable {S : Sc} {X : Cx S} {b : Base} {led : Led} {vs : Vs} {Q : Post Value} {l : Led} {tv sv : Value} {m : Mc}
theorem s_fp_td {u1 u2 : Value} {x y : Num} {ol : Addr} {lo : Obj} {t : Tok} (hr : Room X 9) (h : TourL X.am.w b tv sv m l led) (ho : b ol = some lo) (hlo : IsLO [u1, u2] lo) (hv : NumAt X.am.w.params b u1 x) (hw : NumAt X.am.w.params b u2 y) (hm : m.row = some Mx.one) (hp : m.place ≠ none) (zx : Sz 16 1 x.dc) (zy : Sz 16 1 y.dc)
    (q : ∀ b' led', Le b b' → TourL X.am.w b' tv sv { m with row := some ((Mx.tr x y).mul Mx.one), place := some ((Mx.tr x y).mul Mx.one) } l led' → Q .none b' led' vs) : Wp X (call (.ref 600) [tv, .str (PySem.Str.ofString "Td") t, .ref ol]) b led vs Q :=
  wDef (G := f_follow_placed) X.hh (f_follow_placed_ok X.ok) hr.d (by kernel_rfl) fun L => wMono (b_fp_td _ hr.sub h ho hlo hv hw hm hp zx zy) fun fl b' led' _ l ⟨e, h⟩ => by rw [e]; exact q _ _ l h
theorem s_fp_et {ol : Addr} {t : Tok} (hr : Room X 9) (h : TourL X.am.w b tv sv m l led) (hp : m.place ≠ none)
    (q : ∀ b' led', Le b b' → TourL X.am.w b' tv sv { m with row := none, place := none } l led' → Q .none b' led' vs) : Wp X (call (.ref 600) [tv, .str (PySem.Str.ofString "ET") t, .ref ol]) b led vs Q :=
  wDef (G := f_follow_placed) X.hh (f_follow_placed_ok X.ok) hr.d (by kernel_rfl) fun L => wMono (b_fp_et _ hr.sub h hp) fun fl b' led' _ l ⟨e, h⟩ => by rw [e]; exact q _ _ l h
theorem s_fp_tj {u1 : Value} {p : Mx} {os : List UInt8} {ol : Addr} {lo : Obj} {t : Tok} (hr : Room X 11) (h : TourL X.am.w b tv sv m l led) (ho : b ol = some lo) (hlo : IsLO [u1] lo) (hv : StrAt X.am.w.params b u1 os)
    (hm : m.place = some p) (hf : m.st.font = true) (ok : StOk m.st) (zp : Mz 1000 100 p) (zc : Mz 8200000 1100 m.st.ctm) (hz : os.length ≤ 100) (hg : m.found.length ≤ 50000)
    (q : ∀ b' led', Le b b' → TourL X.am.w b' tv sv { m with found := m.found ++ (m.st.show p os).1, place := some (p.alg (m.st.show p os).2) } l led' → Q .none b' led' vs) : Wp X (call (.ref 600) [tv, .str (PySem.Str.ofString "Tj") t, .ref ol]) b led vs Q :=
  wDef (G := f_follow_placed) X.hh (f_follow_placed_ok X.ok) hr.d (by kernel_rfl) fun L => wMono (b_fp_tj _ hr.sub h ho hlo hv hm hf ok zp zc hz hg) fun fl b' led' _ l ⟨e, h⟩ => by rw [e]; exact q _ _ l h
end
/-! words of the state -/
noncomputable def ShAt (P : Params) (b : Base) (sv : Value) (ov fv mv : Value) (own : Value) : Prop := ∃ t1 t2 t3 t4, IA P b sv 470 [("operations", t1, ov), ("fonts", t2, fv), ("forms", t3, mv), ("own", t4, own)]
inductive FontsAt (w : World) (b : Base) (v : Value) : Prop
  | mk (fx : _) (fo : _) (fv : _) (h1_ : v = .ref fx) (h2_ : b fx = some fo) (h3_ : SD w fx [(PySem.Str.ofString "A", fv)] fo) (h4_ : FontAt w b fv) : FontsAt w b v
theorem ShAt.mono {P : Params} {b b' : Base} {sv ov fv mv own : Value} (h : ShAt P b sv ov fv mv own) (l : Le b b') : ShAt P b' sv ov fv mv own := let ⟨t1, t2, t3, t4, h⟩ := h; ⟨t1, t2, t3, t4, h.mono l⟩
theorem FontsAt.mono {w : World} {b b' : Base} {v : Value} (h : FontsAt w b v) (l : Le b b') : FontsAt w b' v := let ⟨fx, fo, fv, e, h1, h2, h3⟩ := h; ⟨fx, fo, fv, e, l _ _ h1, h2, h3.mono l⟩
theorem FontAt.handed {w : World} {b : Base} {v : Value} (h : FontAt w b v) : handedIn v = true := let ⟨_, _, _, _, _, _, _, _, _, _, _, _, _, _, q⟩ := h.ia; q.handed
theorem b_choose (Y : Cx f_choose_font.sc) {b : Base} {led l : Led} {tv sv ov fv mv own nv : Value} {m : Mc} {ol : Addr} {lo : Obj} {k0 : Tok} (hr : Room Y 2) (h : TourL Y.am.w b tv sv m l led) (hs : ShAt Y.am.w.params b sv ov fv mv own) (hf : FontsAt Y.am.w b fv) (ho : b ol = some lo) (hlo : IsLO [nv, .int 2 k0] lo) (hn : NameAt Y.am.w.params b nv (PySem.Str.ofString "A")) :
    Wp Y (execs (bodyOf f_choose_font.st) Y.env) b led [some tv, some (.ref ol)] (fun fl b' led' _ => retOf fl = .none ∧ TourL Y.am.w b' tv sv { m with st := { m.st with font := true, size := ⟨2, 0⟩ } } l led') := by
  obtain ⟨tx, td, t1, t2, t3, t4, t5, t6, k, stv, px, pn, us, rv, pv, gx, gn, gs, dx, dob, sx, so, pl, rfl, h1, rfl, h2, h3, h4, h5, h6, h7⟩ := id h
  obtain ⟨x, s1, s2, s3, s4, sk, cv, ftv, zv, rfl, hx, rfl, hc, hft, hz, hsp⟩ := h2
  obtain ⟨q1, q2, q3, q4, hs⟩ := hs
  obtain ⟨fx, fo, fv, rfl, hfx, hfd, hfa⟩ := hf
  obtain ⟨n1, n2, hn⟩ := hn
  have hfh := hfa.handed
  walk_at "body"
  repeat' (walk_at "s")
  refine wItemL (.inl ho) hlo (by decide) (by decide) rfl rfl ?_
  repeat' (walk_at "s")
  refine wNotInD (.inl hfx) hfd ?_
  rw [show (valueAt [(PySem.Str.ofString "A", fv)] (PySem.Str.ofString "A")).isSome = true by kernel_rfl]
  repeat' (walk_at "s")
  refine wItemL (.inl ho) hlo (by decide) (by decide) rfl rfl ?_
  repeat' (walk_at "s")
  refine wItemD (.inl hfx) hfd (v := fv) (by kernel_rfl) rfl ?_
  repeat' (walk_at "s")
  refine wItemL (.inl ho) hlo (by decide) (by decide) rfl rfl ?_
  repeat' (walk_at "s")
  refine s_decimal_of (n := .int 2) hr ⟨_, rfl⟩ fun r1 b1 l1 d1 => ?_
  have h1' := l1 _ _ h1
  have hx' := l1 _ _ hx
  repeat' (walk_at "s")
  exact ⟨rfl, tx, td, _, _, _, _, _, _, _, _, _, _, _, _, _, _, _, _, _, _, _, _, pl, rfl, h1', rfl, ⟨x, _, _, _, _, _, cv, fv, r1, rfl, hx', rfl, hc.mono l1, hfa.mono l1, d1, hsp.mono l1⟩, h3.mono l1, h4.mono l1, h5.mono l1, h6.mono fun _ _ h => h.mono l1, h7⟩
theorem perm7 {α : Type} (a c d e f g h : α) (l : List α) : (a :: c :: d :: e :: f :: g :: h :: l).Perm (d :: e :: f :: g :: h :: a :: c :: l) := (List.perm_append_comm (l₁ := [a, c]) (l₂ := [d, e, f, g, h])).append_right l
theorem perm5 {α : Type} (d e f g h : α) (l : List α) : (d :: e :: f :: g :: h :: l).Perm (g :: h :: d :: e :: f :: l) := (List.perm_append_comm (l₁ := [d, e, f]) (l₂ := [g, h])).append_right l
theorem b_fs_q (Y : Cx f_follow_state.sc) {b : Base} {led l : Led} {tv sv w : Value} {m : Mc} {t : Tok} (hr : Room Y 3) (h : TourL Y.am.w b tv sv m l led) (hp : m.pile.length ≤ 1000) :
    Wp Y (execs (bodyOf f_follow_state.st) Y.env) b led [some tv, some (.str (PySem.Str.ofString "q") t), some w] (fun fl b' led' _ => retOf fl = .none ∧ TourL Y.am.w b' tv sv { m with pile := m.st :: m.pile } l led') := by
  obtain ⟨tx, td, t1, t2, t3, t4, t5, t6, k, stv, px, pn, us, rv, pv, gx, gn, gs, dx, dob, sx, so, pl, rfl, h1, rfl, h2, h3, h4, h5, h6, h7⟩ := id h
  have h2h := h2.handed
  refine wFz ?_
  walk_at "body"
  repeat' (walk_at "s")
  refine wMethL slot_list_append type_list_append (.inr (.tail _ (.head _))) ?_
  repeat' (walk_at "s")
  refine wMethSt (st := m.st) ⟨dx, dob, sx, so, h2, .inr (.tail _ (.tail _ (.tail _ (.head _)))), .inr (.tail _ (.tail _ (.tail _ (.tail _ (.head _)))))⟩ (mo_St_cop _) (by decide) ?_
  repeat' (walk_at "s")
  refine s_copied hr ⟨dx, dob, sx, so, h2, .inr (.tail _ (.tail _ (.tail _ (.head _)))), .inr (.tail _ (.tail _ (.tail _ (.tail _ (.head _)))))⟩ fun v2 dx2 d2 sx2 s2 b1 l1 hc => ?_
  repeat' (walk_at "s")
  refine wAppend (by walk_at "led") (by rw [h5.len]; simp [sizeLine]; omega) fun n' => ⟨fun _ h => (by cases h), ?_⟩
  repeat' (walk_at "s")
  refine .perm (perm7 _ _ _ _ _ _ _ _) (.done ⟨rfl, tx, td, _, _, _, _, _, _, _, _, _, _, _, _, _, _, _, _, _, _, _, _, (dx2, d2) :: (sx2, s2) :: pl, rfl, l1 _ _ h1, rfl, h2.mono l1, h3.mono l1, h4.mono l1, .push hc (h5.mono l1), h6.mono fun _ _ h => h.mono l1, h7⟩)
theorem b_fs_Q (Y : Cx f_follow_state.sc) {b : Base} {led l : Led} {tv sv w : Value} {m : Mc} {s' : St} {p : List St} {t : Tok} (h : TourL Y.am.w b tv sv m l led) (hp : m.pile = s' :: p) (hz : p.length ≤ 1000) :
    Wp Y (execs (bodyOf f_follow_state.st) Y.env) b led [some tv, some (.str (PySem.Str.ofString "Q") t), some w] (fun fl b' led' _ => retOf fl = .none ∧ TourL Y.am.w b' tv sv { m with st := s', pile := p } l led') := by
  obtain ⟨tx, td, t1, t2, t3, t4, t5, t6, k, stv, px, pn, us, rv, pv, gx, gn, gs, dx, dob, sx, so, pl, rfl, h1, rfl, h2, h3, h4, h5, h6, h7⟩ := id h
  rw [hp] at h5
  cases h5 with
  | @push v st dx2 d2 sx2 s2 sts us pl hc h5 =>
    have hvh := hc.handed
    have hl := h5.len
    refine wFzL ?_; intro _
    walk_at "body"
    repeat' (walk_at "s")
    refine wLenL (.inr (.tail _ (.head _))) .mk (by simp; omega) fun _ => ?_
    repeat' (walk_at "s")
    rw [show (((us ++ [v]).length : Int) == 0) = false by
      rw [beq_eq_false_iff_ne, List.length_append, List.length_singleton]
      omega]
    repeat' (walk_at "s")
    refine wMethL PySem.F.slot_list_pop PySem.F.type_list_pop (.inr (.tail _ (.head _))) ?_
    repeat' (walk_at "s")
    refine wPop (by walk_at "led") (by omega) fun n' => ?_
    repeat' (walk_at "s")
    refine .perm (perm5 _ _ _ _ _ _) (.drop (.drop (.done ⟨rfl, tx, td, _, _, _, _, _, _, _, _, _, _, _, _, _, _, _, _, _, _, _, _, pl, rfl, h1, rfl, hc, h3, h4, h5, h6, h7⟩)))
theorem b_fs_cm (Y : Cx f_follow_state.sc) {b : Base} {led l : Led} {tv sv w : Value} {m : Mc} {s : Six} {t : Tok} (hr : Room Y 7) (h : TourL Y.am.w b tv sv m l led) (hw : SixAt Y.am.w.params b w s) (zs : Mz 16 1 s.mx) (zc : Mz 8200000 1100 m.st.ctm) :
    Wp Y (execs (bodyOf f_follow_state.st) Y.env) b led [some tv, some (.str (PySem.Str.ofString "cm") t), some w] (fun fl b' led' _ => retOf fl = .none ∧ TourL Y.am.w b' tv sv { m with st := { m.st with ctm := s.mx.mul m.st.ctm } } l led') := by
  obtain ⟨tx, td, t1, t2, t3, t4, t5, t6, k, stv, px, pn, us, rv, pv, gx, gn, gs, dx, dob, sx, so, pl, rfl, h1, rfl, h2, h3, h4, h5, h6, h7⟩ := id h
  obtain ⟨x, s1, s2, s3, s4, sk, cv, ftv, zv, rfl, hx, rfl, hc, hft, hz, hsp⟩ := h2
  have hch := hc.handed
  walk_at "body"
  repeat' (walk_at "s")
  refine s_from_array (hr.le (by decide)) hw fun r1 b1 l1 m1 => ?_
  have h1' := l1 _ _ h1
  have hx' := l1 _ _ hx
  repeat' (walk_at "s")
  refine s_mtimes hr m1 (hc.mono l1) zs zc (by decide) (by decide) fun r2 b2 l2 m2 z2 => ?_
  have h1'' := l2 _ _ h1'
  have hx'' := l2 _ _ hx'
  have hmh := m2.handed
  have l12 := l1.trans l2
  repeat' (walk_at "s")
  exact ⟨rfl, tx, td, _, _, _, _, _, _, _, _, _, _, _, _, _, _, _, _, _, _, _, _, pl, rfl, h1'', rfl, ⟨x, _, _, _, _, _, _, ftv, zv, rfl, hx'', rfl, m2, hft.mono l12, hz.mono l12, hsp.mono l12⟩, h3.mono l12, h4.mono l12, h5.mono l12, h6.mono fun _ _ h => h.mono l12, h7⟩
theorem b_fs_bt (Y : Cx f_follow_state.sc) {b : Base} {led l : Led} {tv sv w : Value} {m : Mc} {t : Tok} (hr : Room Y 4) (h : TourL Y.am.w b tv sv m l led) (hp : m.place = none) :
    Wp Y (execs (bodyOf f_follow_state.st) Y.env) b led [some tv, some (.str (PySem.Str.ofString "BT") t), some w] (fun fl b' led' _ => retOf fl = .none ∧ TourL Y.am.w b' tv sv { m with row := some Mx.one, place := some Mx.one } l led') := by
  obtain ⟨tx, td, t1, t2, t3, t4, t5, t6, k, stv, px, pn, us, rv, pv, gx, gn, gs, dx, dob, sx, so, pl, rfl, h1, rfl, h2, h3, h4, h5, h6, h7⟩ := id h
  rw [hp] at h4
  replace h4 : pv = .none := h4
  subst h4
  walk_at "body"
  repeat' (walk_at "s")
  refine s_identity hr fun r1 b1 l1 m1 => ?_
  repeat' (walk_at "s")
  refine s_set_matrix (r := some Mx.one) (hr.le (by decide)) (h.mono l1) m1 fun b2 led2 l2 ht => ⟨fun _ h => (by cases h), ?_⟩
  repeat' (walk_at "s")
  exact ⟨rfl, ht⟩
theorem b_fs_do (Y : Cx f_follow_state.sc) {b : Base} {led : Led} {tv w : Value} {t : Tok} :
    Wp Y (execs (bodyOf f_follow_state.st) Y.env) b led [some tv, some (.str (PySem.Str.ofString "Do") t), some w] (fun fl b' led' _ => retOf fl = .none ∧ b' = b ∧ led' = led) := by
  walk_at "body"
  repeat' (walk_at "s")
  exact ⟨rfl, rfl, rfl⟩
section
variable {S : Sc} {X : Cx S} {b : Base} {led : Led} {vs : Vs} {Q : Post Value} {l : Led} {tv sv w : Value} {m : Mc} {t : Tok}
theorem s_choose {ov fv mv own nv : Value} {ol : Addr} {lo : Obj} {k0 : Tok} (hr : Room X 3) (h : TourL X.am.w b tv sv m l led) (hs : ShAt X.am.w.params b sv ov fv mv own) (hf : FontsAt X.am.w b fv) (ho : b ol = some lo) (hlo : IsLO [nv, .int 2 k0] lo) (hn : NameAt X.am.w.params b nv (PySem.Str.ofString "A"))
    (q : ∀ b' led', Le b b' → TourL X.am.w b' tv sv { m with st := { m.st with font := true, size := ⟨2, 0⟩ } } l led' → Q .none b' led' vs) : Wp X (call (.ref 607) [tv, .ref ol]) b led vs Q :=
  wDef (G := f_choose_font) X.hh (f_choose_font_ok X.ok) hr.d (by kernel_rfl) fun L => wMono (b_choose _ hr.sub h hs hf ho hlo hn) fun fl b' led' _ l ⟨e, h⟩ => by rw [e]; exact q _ _ l h
theorem s_fs_q (hr : Room X 4) (h : TourL X.am.w b tv sv m l led) (hp : m.pile.length ≤ 1000) (q : ∀ b' led', Le b b' → TourL X.am.w b' tv sv { m with pile := m.st :: m.pile } l led' → Q .none b' led' vs) : Wp X (call (.ref 614) [tv, .str (PySem.Str.ofString "q") t, w]) b led vs Q :=
  wDef (G := f_follow_state) X.hh (f_follow_state_ok X.ok) hr.d (by kernel_rfl) fun L => wMono (b_fs_q _ hr.sub h hp) fun fl b' led' _ l ⟨e, h⟩ => by rw [e]; exact q _ _ l h
theorem s_fs_Q {s' : St} {p : List St} (hr : Room X 1) (h : TourL X.am.w b tv sv m l led) (hp : m.pile = s' :: p) (hz : p.length ≤ 1000) (q : ∀ b' led', Le b b' → TourL X.am.w b' tv sv { m with st := s', pile := p } l led' → Q .none b' led' vs) : Wp X (call (.ref 614) [tv, .str (PySem.Str.ofString "Q") t, w]) b led vs Q :=
  wDef (G := f_follow_state) X.hh (f_follow_state_ok X.ok) hr.d (by kernel_rfl) fun L => wMono (b_fs_Q _ h hp hz) fun fl b' led' _ l ⟨e, h⟩ => by rw [e]; exact q _ _ l h
theorem s_fs_cm {s : Six} (hr : Room X 8) (h : TourL X.am.w b tv sv m l led) (hw : SixAt X.am.w.params b w s) (zs : Mz 16 1 s.mx) (zc : Mz 8200000 1100 m.st.ctm) (q : ∀ b' led', Le b b' → TourL X.am.w b' tv sv { m with st := { m.st with ctm := s.mx.mul m.st.ctm } } l led' → Q .none b' led' vs) : Wp X (call (.ref 614) [tv, .str (PySem.Str.ofString "cm") t, w]) b led vs Q :=
  wDef (G := f_follow_state) X.hh (f_follow_state_ok X.ok) hr.d (by kernel_rfl) fun L => wMono (b_fs_cm _ hr.sub h hw zs zc) fun fl b' led' _ l ⟨e, h⟩ => by rw [e]; exact q _ _ l h
theorem s_fs_bt (hr : Room X 5) (h : TourL X.am.w b tv sv m l led) (hp : m.place = none) (q : ∀ b' led', Le b b' → TourL X.am.w b' tv sv { m with row := some Mx.one, place := some Mx.one } l led' → Q .none b' led' vs) : Wp X (call (.ref 614) [tv, .str (PySem.Str.ofString "BT") t, w]) b led vs Q :=
  wDef (G := f_follow_state) X.hh (f_follow_state_ok X.ok) hr.d (by kernel_rfl) fun L => wMono (b_fs_bt _ hr.sub h hp) fun fl b' led' _ l ⟨e, h⟩ => by rw [e]; exact q _ _ l h
theorem s_fs_do (hr : Room X 1) (q : Q .none b led vs) : Wp X (call (.ref 614) [tv, .str (PySem.Str.ofString "Do") t, w]) b led vs Q :=
  wDef (G := f_follow_state) X.hh (f_follow_state_ok X.ok) hr.d (by kernel_rfl) fun L => wMono (b_fs_do _) fun fl b' led' _ l ⟨e, e1, e2⟩ => by rw [e, e1, e2]; exact q
theorem s_check {kx : Addr} {o : Obj} {kvs : List (PySem.Str × Value)} {v : Value} {wd : PySem.Str} {a : Addr} {lo : Obj} {us : List Value} {ks : List Knd} (hr : Room X 4)
    (hx : b kx = some o) (ho : SD X.am.w kx kvs o) (hk : KV b kvs T7) (hv : OpAt X.am.w.params b v wd a) (hl : b a = some lo) (hlo : IsLO us lo) (hu : All2 (KAt X.am.w.params b) us ks) (hz : ks.length ≤ 100) (hw : atT T7 wd = none ∨ atT T7 wd = some (ks.map Knd.fit))
    (q : ∀ v b', Le b b' → (∀ a, v ≠ .ref a) → Q v b' led vs) : Wp X (call (.ref 537) [.ref kx, v]) b led vs Q :=
  wDef (G := f_check_operands) X.hh (f_check_operands_ok X.ok) hr.d (by kernel_rfl) fun L => wMono (b_check _ hr.sub hx ho hk hv hl hlo hu hz hw) fun fl b' led' _ l e => by rw [e.1, e.2]; exact q _ _ l (fun a h => by cases h)
end
local macro_rules | `(tactic| walk_at "at") => `(tactic| first | (refine ShAt.mono (by assumption) ?_; walk_at "sub") | (refine FontsAt.mono (by assumption) ?_; walk_at "sub") | fail "no")
/-! sheets -/
noncomputable def Op.word : Op → String
  | .q => "q"
  | .Q => "Q"
  | .cm _ => "cm"
  | .sp k _ => k.word
  | .bt => "BT"
  | .td _ _ => "Td"
  | .tj _ => "Tj"
  | .et => "ET"
  | .tf => "Tf"
  | .call _ => "Do"
  | .nop => "Do"
abbrev SRel := Base → Value → Mx → List Op → Prop
noncomputable def ArgsR (w : World) (SR : SRel) (b : Base) (kvs : List (PySem.Str × Value)) (us : List Value) : Op → Prop
  | .q => us = []
  | .Q => us = []
  | .cm s => ∃ v1 v2 v3 v4 v5 v6, us = [v1, v2, v3, v4, v5, v6] ∧ NumAt w.params b v1 s.a ∧ NumAt w.params b v2 s.b ∧ NumAt w.params b v3 s.c ∧ NumAt w.params b v4 s.d ∧ NumAt w.params b v5 s.e ∧ NumAt w.params b v6 s.f
  | .sp _ n => ∃ u, us = [u] ∧ NumAt w.params b u n
  | .bt => us = []
  | .td x y => ∃ u1 u2, us = [u1, u2] ∧ NumAt w.params b u1 x ∧ NumAt w.params b u2 y
  | .tj os => ∃ u, us = [u] ∧ StrAt w.params b u os
  | .et => us = []
  | .tf => ∃ nv k0, us = [nv, .int 2 k0] ∧ NameAt w.params b nv (PySem.Str.ofString "A")
  | .call g => ∃ nv nm u own ops, us = [nv] ∧ NameAt w.params b nv nm ∧ valueAt kvs nm = some u ∧ SR b u own ops ∧ Mz 16 1 own ∧ g = callG own ops
  | .nop => ∃ nv nm, us = [nv] ∧ NameAt w.params b nv nm ∧ valueAt kvs nm = none
inductive OpRep (w : World) (SR : SRel) (b : Base) (kvs : List (PySem.Str × Value)) (v : Value) (o : Op) : Prop
  | mk (a : _) (lo : _) (us : _) (h1_ : OpAt w.params b v (PySem.Str.ofString o.word) a) (h2_ : b a = some lo) (h3_ : IsLO us lo) (h4_ : ArgsR w SR b kvs us o) : OpRep w SR b kvs v o
noncomputable def SheetRep (w : World) : Nat → SRel
  | 0 => fun _ _ _ _ => False
  | n + 1 => fun b v own ops => ∃ ox oo us fv mx mo kvs ownv, ShAt w.params b v (.ref ox) fv (.ref mx) ownv ∧ b ox = some oo ∧ IsLO us oo ∧ FontsAt w b fv ∧ b mx = some mo ∧ SD w mx kvs mo ∧ MatAt w.params b ownv own ∧ All2 (OpRep w (SheetRep w n) b kvs) us ops
theorem ArgsR.mono {w : World} {SR : SRel} {b b' : Base} {kvs : List (PySem.Str × Value)} {us : List Value} {o : Op} (hSR : ∀ v own ops, SR b v own ops → SR b' v own ops) (h : ArgsR w SR b kvs us o) (l : Le b b') : ArgsR w SR b' kvs us o := by
  cases o with
  | q => exact h
  | Q => exact h
  | cm s => obtain ⟨v1, v2, v3, v4, v5, v6, e, h1, h2, h3, h4, h5, h6⟩ := h; exact ⟨v1, v2, v3, v4, v5, v6, e, h1.mono l, h2.mono l, h3.mono l, h4.mono l, h5.mono l, h6.mono l⟩
  | sp k n => obtain ⟨u, e, h⟩ := h; exact ⟨u, e, h.mono l⟩
  | bt => exact h
  | td x y => obtain ⟨u1, u2, e, h1, h2⟩ := h; exact ⟨u1, u2, e, h1.mono l, h2.mono l⟩
  | tj os => obtain ⟨u, e, h⟩ := h; exact ⟨u, e, h.mono l⟩
  | et => exact h
  | tf => obtain ⟨u, k0, e, h⟩ := h; exact ⟨u, k0, e, h.mono l⟩
  | call g => obtain ⟨nv, nm, u, own, ops, e, h1, h2, h3, h4, h5⟩ := h; exact ⟨nv, nm, u, own, ops, e, h1.mono l, h2, hSR _ _ _ h3, h4, h5⟩
  | nop => obtain ⟨nv, nm, e, h1, h2⟩ := h; exact ⟨nv, nm, e, h1.mono l, h2⟩
theorem OpRep.mono {w : World} {SR : SRel} {b b' : Base} {kvs : List (PySem.Str × Value)} {v : Value} {o : Op} (hSR : ∀ v own ops, SR b v own ops → SR b' v own ops) (h : OpRep w SR b kvs v o) (l : Le b b') : OpRep w SR b' kvs v o :=
  let ⟨a, lo, us, h1, h2, h3, h4⟩ := h
  ⟨a, lo, us, h1.mono l, l _ _ h2, h3, h4.mono hSR l⟩
theorem SheetRep.mono {w : World} {b b' : Base} (l : Le b b') : ∀ (n : Nat) {v : Value} {own : Mx} {ops : List Op}, SheetRep w n b v own ops → SheetRep w n b' v own ops
  | 0, _, _, _, h => h
  | n + 1, v, own, ops, h => by
    obtain ⟨ox, oo, us, fv, mx, mo, kvs, ownv, h1, h2, h3, h4, h5, h6, h7, h8⟩ := h
    exact ⟨ox, oo, us, fv, mx, mo, kvs, ownv, h1.mono l, l _ _ h2, h3, h4.mono l, l _ _ h5, h6, h7.mono l, h8.mono fun _ _ h => h.mono (fun _ _ _ h => SheetRep.mono l n h) l⟩
theorem ArgsR.chk {w : World} {SR : SRel} {b : Base} {kvs : List (PySem.Str × Value)} {us : List Value} {o : Op} (h : ArgsR w SR b kvs us o) :
    ∃ ks, All2 (KAt w.params b) us ks ∧ ks.length ≤ 100 ∧ (atT T7 (PySem.Str.ofString o.word) = none ∨ atT T7 (PySem.Str.ofString o.word) = some (ks.map Knd.fit)) := by
  cases o with
  | q => cases h; exact ⟨[], .nil, by decide, .inl (by kernel_rfl)⟩
  | Q => cases h; exact ⟨[], .nil, by decide, .inl (by kernel_rfl)⟩
  | cm s => obtain ⟨v1, v2, v3, v4, v5, v6, rfl, h1, h2, h3, h4, h5, h6⟩ := h; exact ⟨[.num s.a, .num s.b, .num s.c, .num s.d, .num s.e, .num s.f], .cons h1 (.cons h2 (.cons h3 (.cons h4 (.cons h5 (.cons h6 .nil))))), Nat.le_of_ble_eq_true rfl, .inr (by kernel_rfl)⟩
  | sp k n =>
    obtain ⟨u, rfl, h⟩ := h
    refine ⟨[.num n], .cons h .nil, Nat.le_of_ble_eq_true rfl, .inr ?_⟩
    cases k <;> kernel_rfl
  | bt => cases h; exact ⟨[], .nil, by decide, .inr (by kernel_rfl)⟩
  | td x y => obtain ⟨u1, u2, rfl, h1, h2⟩ := h; exact ⟨[.num x, .num y], .cons h1 (.cons h2 .nil), Nat.le_of_ble_eq_true rfl, .inr (by kernel_rfl)⟩
  | tj os => obtain ⟨u, rfl, h⟩ := h; exact ⟨[.str os], .cons h .nil, Nat.le_of_ble_eq_true rfl, .inr (by kernel_rfl)⟩
  | et => cases h; exact ⟨[], .nil, by decide, .inr (by kernel_rfl)⟩
  | tf => obtain ⟨u, k0, rfl, h⟩ := h; exact ⟨[.nam (PySem.Str.ofString "A"), .num (.int 2)], .cons h (.cons ⟨_, rfl⟩ .nil), Nat.le_of_ble_eq_true rfl, .inr (by kernel_rfl)⟩
  | call g => obtain ⟨nv, nm, u, own, ops, rfl, h1, h2, h3, h4, h5⟩ := h; exact ⟨[.nam nm], .cons h1 .nil, Nat.le_of_ble_eq_true rfl, .inr (by kernel_rfl)⟩
  | nop => obtain ⟨nv, nm, rfl, h1, h2⟩ := h; exact ⟨[.nam nm], .cons h1 .nil, Nat.le_of_ble_eq_true rfl, .inr (by kernel_rfl)⟩
theorem TourL.push {w : World} {b : Base} {tv sv : Value} {m : Mc} {l led : Led} (h : TourL w b tv sv m l led) (p : Addr × Obj) : ∃ led', (p :: led).Perm led' ∧ TourL w b tv sv m (p :: l) led' := by
  obtain ⟨tx, td, t1, t2, t3, t4, t5, t6, kk, stv, px, pn, us, rv, pv, gx, gn, gs, dx, dob, sx, so, pl, e, h1, rfl, h2, h3, h4, h5, h6, h7⟩ := h
  refine ⟨_, ?_, tx, td, t1, t2, t3, t4, t5, t6, kk, stv, px, pn, us, rv, pv, gx, gn, gs, dx, dob, sx, so, pl, e, h1, rfl, h2, h3, h4, h5, h6, h7⟩
  exact (List.perm_middle (l₁ := (td, _) :: (px, LO us pn) :: (gx, LO gs gn) :: (dx, dob) :: (sx, so) :: pl) (l₂ := l) (a := p)).symm
theorem TourL.pull {w : World} {b : Base} {tv sv : Value} {m : Mc} {l led : Led} {p : Addr × Obj} (h : TourL w b tv sv m (p :: l) led) : ∃ led', led.Perm (p :: led') ∧ TourL w b tv sv m l led' := by
  obtain ⟨tx, td, t1, t2, t3, t4, t5, t6, kk, stv, px, pn, us, rv, pv, gx, gn, gs, dx, dob, sx, so, pl, e, h1, rfl, h2, h3, h4, h5, h6, h7⟩ := h
  refine ⟨_, ?_, tx, td, t1, t2, t3, t4, t5, t6, kk, stv, px, pn, us, rv, pv, gx, gn, gs, dx, dob, sx, so, pl, e, h1, rfl, h2, h3, h4, h5, h6, h7⟩
  exact List.perm_middle (l₁ := (td, _) :: (px, LO us pn) :: (gx, LO gs gn) :: (dx, dob) :: (sx, so) :: pl) (l₂ := l) (a := p)

/-! the sheet's glyphs -/
noncomputable def SheetIH (n : Nat) : Prop := ∀ {S : Sc} {X : Cx S} {b : Base} {led : Led} {vs : Vs} {Q : Post Value} {v stv : Value} {own : Mx} {ops : List Op} {st : St} {dx : Addr} {dob : Obj} {sx : Addr} {so : Obj} {m : Mc}, Room X (14 + n) → SheetRep X.am.w n b v own ops → StL X.am.w b stv st dx dob sx so → Run ops (Mc.start st) m →
  (∀ r gs k b', Le b b' → b' r = some (LO gs k) → All2 (GlA X.am.w.params b') gs m.found → m.found.length ≤ 50000 ∨ True → Q (.ref r) b' led vs) → Wp X (call (.ref 621) [v, stv]) b ((dx, dob) :: (sx, so) :: led) vs Q
theorem len_drop {α : Type} {l : List α} {i : Nat} {a : α} (h : l[i]? = some a) : l.drop i = a :: l.drop (i + 1) := by
  obtain ⟨hi, rfl⟩ := List.getElem?_eq_some_iff.mp h
  exact List.drop_eq_getElem_cons hi
theorem SheetRep.sh {w : World} {n : Nat} {b : Base} {v : Value} {own : Mx} {ops : List Op} (h : SheetRep w n b v own ops) : ∃ ov fv mv ownv, ShAt w.params b v ov fv mv ownv ∧ MatAt w.params b ownv own := by
  cases n with
  | zero => exact h.elim
  | succ n => obtain ⟨ox, oo, us, fv, mx, mo, kvs, ownv, h1, h2, h3, h4, h5, h6, h7, h8⟩ := h; exact ⟨_, _, _, _, h1, h7⟩
theorem fz_app {α : Type} {Q : Post α} {v : α} {vs : Vs} {b : Base} {l : Led} : ∀ {pl : Led}, Fz Q v vs b l → Fz Q v vs b (pl ++ l)
  | [], h => h
  | _ :: pl, h => .drop (fz_app (pl := pl) h)
inductive SheetInv (w : World) (ops : List Op) (m : Mc) (tv v stv : Value) (l : Led) (kx : Addr) (i : Nat) (b' : Base) (l' : Led) (v' : Vs) : Prop
  | mk (mi : Mc) (c1 c2 c3 c4 : Option Value) (h1_ : Run (ops.drop i) mi m) (h2_ : TourL w b' tv v mi l l') (h3_ : v' = [some v, some stv, some (.ref kx), some tv, c1, c2, c3, c4]) : SheetInv w ops m tv v stv l kx i b' l' v'
theorem b_sheet {n : Nat} (ih : SheetIH n) (Y : Cx f_sheet_glyphs.sc) {b : Base} {l : Led} {v stv : Value} {own : Mx} {ops : List Op} {st : St} {dx : Addr} {dob : Obj} {sx : Addr} {so : Obj} {m : Mc} (hr : Room Y (14 + n)) (hs : SheetRep Y.am.w (n + 1) b v own ops) (hst : StL Y.am.w b stv st dx dob sx so) (hm : Run ops (Mc.start st) m) :
    Wp Y (execs (bodyOf f_sheet_glyphs.st) Y.env) b ((dx, dob) :: (sx, so) :: l) [some v, some stv, none, none, none, none, none, none] (fun fl b' led' _ => led' = l ∧ ∃ r gs k, retOf fl = .ref r ∧ b' r = some (LO gs k) ∧ All2 (GlA Y.am.w.params b') gs m.found) := by
  have hsn := hs
  obtain ⟨ox, oo, us, fv, mx, mo, kvs, ownv, hsh, hox, hoo, hfo, hmx, hmo, hown, hops⟩ := hs
  have hvh : handedIn v = true := by obtain ⟨t1, t2, t3, t4, q⟩ := hsh; exact q.handed
  refine wFz ?_
  walk_at "body"
  repeat' (walk_at "s")
  refine s_text_kinds (hr.le (by first | exact Nat.le_add_right_of_le (by decide) | omega)) fun kx ko kkvs b1 l1 hko hkk => ?_
  repeat' (walk_at "s")
  refine wMulT (.inr (.head _)) (by decide) (by decide) fun r1 => ?_
  repeat' (walk_at "s")
  have hkl : kkvs.length ≤ 100 := by rw [hkk.len]; exact Nat.le_of_ble_eq_true rfl
  refine wSetItemD (by walk_at "led") hko (by omega) fun ko2 hko2 => ?_
  refine wFrTup ["number", "number", "number", "number", "number", "number"] (by walk_at "strs") fun b2 l2 h2 => wDrop ?_
  replace hkk : KV b2 _ T6 := (hkk.mono l2).put (by kernel_rfl) h2
  repeat' (walk_at "s")
  refine wSetItemD (by walk_at "led") hko2 (by rw [hkk.len]; exact Nat.le_of_ble_eq_true rfl) fun ko3 hko3 => ?_
  refine wFrTup ["name"] (by walk_at "strs") fun b3 l3 h3 => ?_
  replace hkk : KV b3 _ T7 := (hkk.mono l3).put (by kernel_rfl) h3
  refine wFreeze fun b4 l4 hkx => ?_
  replace hkk := hkk.mono l4
  have l14 : Le b b4 := ((l1.trans l2).trans l3).trans l4
  generalize stored (stored kkvs (PySem.Str.ofString "cm") (.ref r1)) (PySem.Str.ofString "Do") _ = kkv at hkk hko3
  repeat' (walk_at "s")
  refine s_Tour (hr.le (by first | exact Nat.le_add_right_of_le (by decide) | omega)) (hst.mono l14) hvh fun tv led1 b5 l5 hT => ?_
  have l05 := l14.trans l5
  replace hsh := hsh.mono l05
  obtain ⟨q1, q2, q3, q4, hsi⟩ := id hsh
  repeat' (walk_at "s")
  refine aFor (SheetInv Y.am.w ops m tv v stv l kx) (fun _ => rfl) (fun _ _ => rfl) (wLet ?_)
  intro _
  repeat' (walk_at "s")
  refine ⟨us.length, _, its_list (l05 _ _ hox) hoo, ⟨_, _, _, _, _, hm, hT, rfl⟩, ?_, ?_⟩
  · rintro i b6 l6 v6 wv p hi lb hw ⟨mi, c1, c2, c3, c4, hrun, hT, rfl⟩
    obtain ⟨o, ho, hor⟩ := hops.get hw
    have l06 := l05.trans lb
    replace hor := hor.mono (fun _ _ _ h => SheetRep.mono l06 n h) l06
    rw [len_drop ho] at hrun
    cases hrun with
    | @cons _ _ _ m' _ hstep hrun =>
      walk_at "s"
      obtain ⟨led2, hp2, hT2⟩ := hT.push p
      refine wPerm hp2 (wFzL ?_)
      intro _
      obtain ⟨a, lo, aus, hop, ha, hlo, hargs⟩ := hor
      obtain ⟨ks, hks, hkz, hkw⟩ := hargs.chk
      obtain ⟨p1, p2, ptk, hopi⟩ := id hop
      repeat' (walk_at "s")
      refine s_check (hr.le (by first | exact Nat.le_add_right_of_le (by decide) | omega)) ((l5.trans lb) _ _ hkx) hko3 (hkk.mono (l5.trans lb)) hop ha hlo hks hkz hkw fun cv b7 l7 hcv => ⟨hcv, ?_⟩
      replace hop := hop.mono l7
      replace hopi := hopi.mono l7
      replace ha := l7 _ _ ha
      replace hargs := hargs.mono (fun _ _ _ h => SheetRep.mono l7 n h) l7
      replace hT2 := hT2.mono l7
      have l07 := l06.trans l7
      repeat' (walk_at "s")
      cases hstep with
      | q hz =>
        refine wInTsK (r := false) (K_424 _) (by walk_at "strs") (by kernel_rfl) ?_
        repeat' (walk_at "s")
        refine wInTsK (r := false) (K_425 _) (by walk_at "strs") (by kernel_rfl) ?_
        repeat' (walk_at "s")
        refine s_fs_q (hr.le (by first | exact Nat.le_add_right_of_le (by decide) | omega)) hT2 hz fun b8 led3 l8 hT3 => ⟨fun _ h => (by cases h), ?_⟩
        repeat' (walk_at "s")
        obtain ⟨l3, hp3, h3⟩ := hT3.pull
        exact .perm hp3 (.done ⟨_, rfl, _, _, _, _, _, hrun, h3, rfl⟩)
      | Q hp' hz =>
        refine wInTsK (r := false) (K_424 _) (by walk_at "strs") (by kernel_rfl) ?_
        repeat' (walk_at "s")
        refine wInTsK (r := false) (K_425 _) (by walk_at "strs") (by kernel_rfl) ?_
        repeat' (walk_at "s")
        refine s_fs_Q (hr.le (by first | exact Nat.le_add_right_of_le (by decide) | omega)) hT2 hp' hz fun b8 led3 l8 hT3 => ⟨fun _ h => (by cases h), ?_⟩
        repeat' (walk_at "s")
        obtain ⟨l3, hp3, h3⟩ := hT3.pull
        exact .perm hp3 (.done ⟨_, rfl, _, _, _, _, _, hrun, h3, rfl⟩)
      | @cm _ s zs zc =>
        obtain ⟨w1, w2, w3, w4, w5, w6, rfl, g1, g2, g3, g4, g5, g6⟩ := hargs
        refine wInTsK (r := false) (K_424 _) (by walk_at "strs") (by kernel_rfl) ?_
        repeat' (walk_at "s")
        refine wInTsK (r := false) (K_425 _) (by walk_at "strs") (by kernel_rfl) ?_
        repeat' (walk_at "s")
        refine s_fs_cm (s := s) (hr.le (by first | exact Nat.le_add_right_of_le (by decide) | omega)) hT2 ⟨a, lo, _, _, _, _, _, _, rfl, ha, hlo, g1, g2, g3, g4, g5, g6⟩ zs zc fun b8 led3 l8 hT3 => ⟨fun _ h => (by cases h), ?_⟩
        repeat' (walk_at "s")
        obtain ⟨l3, hp3, h3⟩ := hT3.pull
        exact .perm hp3 (.done ⟨_, rfl, _, _, _, _, _, hrun, h3, rfl⟩)
      | bt hpl =>
        refine wInTsK (r := false) (K_424 _) (by walk_at "strs") (by kernel_rfl) ?_
        repeat' (walk_at "s")
        refine wInTsK (r := false) (K_425 _) (by walk_at "strs") (by kernel_rfl) ?_
        repeat' (walk_at "s")
        refine s_fs_bt (hr.le (by first | exact Nat.le_add_right_of_le (by decide) | omega)) hT2 hpl fun b8 led3 l8 hT3 => ⟨fun _ h => (by cases h), ?_⟩
        repeat' (walk_at "s")
        obtain ⟨l3, hp3, h3⟩ := hT3.pull
        exact .perm hp3 (.done ⟨_, rfl, _, _, _, _, _, hrun, h3, rfl⟩)
      | @td _ x y hrow hpl zx zy =>
        obtain ⟨w1, w2, rfl, g1, g2⟩ := hargs
        refine wInTsK (r := true) (K_424 _) (by walk_at "strs") (by kernel_rfl) ?_
        repeat' (walk_at "s")
        refine s_fp_td (hr.le (by first | exact Nat.le_add_right_of_le (by decide) | omega)) hT2 ha hlo g1 g2 hrow hpl zx zy fun b8 led3 l8 hT3 => ⟨fun _ h => (by cases h), ?_⟩
        repeat' (walk_at "s")
        obtain ⟨l3, hp3, h3⟩ := hT3.pull
        exact .perm hp3 (.done ⟨_, rfl, _, _, _, _, _, hrun, h3, rfl⟩)
      | @tj _ pm os hpl hf ok zp zc hz hg =>
        obtain ⟨w1, rfl, g1⟩ := hargs
        refine wInTsK (r := true) (K_424 _) (by walk_at "strs") (by kernel_rfl) ?_
        repeat' (walk_at "s")
        refine s_fp_tj (hr.le (by first | exact Nat.le_add_right_of_le (by decide) | omega)) hT2 ha hlo g1 hpl hf ok zp zc hz hg fun b8 led3 l8 hT3 => ⟨fun _ h => (by cases h), ?_⟩
        repeat' (walk_at "s")
        obtain ⟨l3, hp3, h3⟩ := hT3.pull
        exact .perm hp3 (.done ⟨_, rfl, _, _, _, _, _, hrun, h3, rfl⟩)
      | et hpl =>
        refine wInTsK (r := true) (K_424 _) (by walk_at "strs") (by kernel_rfl) ?_
        repeat' (walk_at "s")
        refine s_fp_et (hr.le (by first | exact Nat.le_add_right_of_le (by decide) | omega)) hT2 hpl fun b8 led3 l8 hT3 => ⟨fun _ h => (by cases h), ?_⟩
        repeat' (walk_at "s")
        obtain ⟨l3, hp3, h3⟩ := hT3.pull
        exact .perm hp3 (.done ⟨_, rfl, _, _, _, _, _, hrun, h3, rfl⟩)
      | tf =>
        obtain ⟨nv, k0, rfl, g1⟩ := hargs
        refine wInTsK (r := false) (K_424 _) (by walk_at "strs") (by kernel_rfl) ?_
        repeat' (walk_at "s")
        refine wInTsK (r := false) (K_425 _) (by walk_at "strs") (by kernel_rfl) ?_
        repeat' (walk_at "s")
        refine s_choose (hr.le (by first | exact Nat.le_add_right_of_le (by decide) | omega)) hT2 (hsh.mono (lb.trans l7)) (hfo.mono l07) ha hlo g1 fun b8 led3 l8 hT3 => ⟨fun _ h => (by cases h), ?_⟩
        repeat' (walk_at "s")
        obtain ⟨l3, hp3, h3⟩ := hT3.pull
        exact .perm hp3 (.done ⟨_, rfl, _, _, _, _, _, hrun, h3, rfl⟩)
      | nop =>
        obtain ⟨nv, nm, rfl, ⟨m1, m2, g1⟩, hnone⟩ := hargs
        refine wInTsK (r := false) (K_424 _) (by walk_at "strs") (by kernel_rfl) ?_
        repeat' (walk_at "s")
        refine wInTsK (r := false) (K_425 _) (by walk_at "strs") (by kernel_rfl) ?_
        repeat' (walk_at "s")
        have hsi7 := hsi.mono (lb.trans l7)
        refine wItemL (.inl ha) hlo (by decide) (by decide) rfl rfl ?_
        repeat' (walk_at "s")
        refine wInD (.inl (l07 _ _ hmx)) hmo ?_
        rw [hnone]
        repeat' (walk_at "s")
        refine s_fs_do (hr.le (by first | exact Nat.le_add_right_of_le (by decide) | omega)) ⟨fun _ h => (by cases h), ?_⟩
        repeat' (walk_at "s")
        obtain ⟨l3, hp3, h3⟩ := hT2.pull
        exact .perm hp3 (.done ⟨_, rfl, _, _, _, _, _, hrun, h3, rfl⟩)
      | @sp _ k nn =>
        obtain ⟨u, rfl, g1⟩ := hargs
        obtain ⟨tx, td, y_1, y_2, y_3, y_4, y_5, y_6, yk, stv', px, pn, pus, rv, pv, gx, gn, gs, ex, eob, tx', so', pl, rfl, y1, rfl, y2, y3, y4, y5, y6, y7⟩ := hT2
        obtain ⟨x, s1, s2, s3, s4, sk, cv', ftv, zv, rfl, hx, rfl, hc, hft, hz, ⟨w1, w2, w3, w4, w5, hsd, d1, d2, d3, d4, d5⟩⟩ := y2
        cases k with
        | tc =>
          refine wInTsK (r := false) (K_424 _) (by walk_at "strs") (by kernel_rfl) ?_
          repeat' (walk_at "s")
          refine wInTsK (r := true) (K_425 _) (by walk_at "strs") (by kernel_rfl) ?_
          repeat' (walk_at "s")
          refine wItemL (.inl ha) hlo (by decide) (by decide) rfl rfl ?_
          repeat' (walk_at "s")
          refine s_decimal_of (hr.le (by first | exact Nat.le_add_right_of_le (by decide) | omega)) g1 fun r1 b8 l8 hd => ?_
          have y1' := l8 _ _ y1
          have hx' := l8 _ _ hx
          repeat' (walk_at "s")
          refine wSetItemD (by walk_at "led") hsd (Nat.le_of_ble_eq_true rfl) fun o' ho' => ?_
          rw [show stored [(PySem.Str.ofString "Tc", w1), (PySem.Str.ofString "Tw", w2), (PySem.Str.ofString "Tz", w3), (PySem.Str.ofString "TL", w4), (PySem.Str.ofString "Ts", w5)] (PySem.Str.ofString (Op.sp .tc nn).word) r1 = [(PySem.Str.ofString "Tc", r1), (PySem.Str.ofString "Tw", w2), (PySem.Str.ofString "Tz", w3), (PySem.Str.ofString "TL", w4), (PySem.Str.ofString "Ts", w5)] by kernel_rfl] at ho'
          repeat' (walk_at "s")
          obtain ⟨l3, hp3, h3⟩ := TourL.pull (⟨tx, td, y_1, y_2, y_3, y_4, y_5, y_6, yk, .ref x, px, pn, pus, rv, pv, gx, gn, gs, ex, _, tx', o', pl, rfl, y1', rfl, ⟨x, _, _, _, _, sk, cv', ftv, zv, rfl, hx', rfl, hc.mono l8, hft.mono l8, hz.mono l8, ⟨_, _, _, _, _, ho', hd, d2.mono l8, d3.mono l8, d4.mono l8, d5.mono l8⟩⟩, y3.mono l8, y4.mono l8, y5.mono l8, y6.mono fun _ _ h => h.mono l8, y7⟩ : TourL Y.am.w b8 (.ref tx) v { mi with st := mi.st.setSp nn.dc .tc } (p :: l) _)
          exact .perm hp3 (.done ⟨_, rfl, _, _, _, _, _, hrun, h3, rfl⟩)
        | tz =>
          refine wInTsK (r := false) (K_424 _) (by walk_at "strs") (by kernel_rfl) ?_
          repeat' (walk_at "s")
          refine wInTsK (r := true) (K_425 _) (by walk_at "strs") (by kernel_rfl) ?_
          repeat' (walk_at "s")
          refine wItemL (.inl ha) hlo (by decide) (by decide) rfl rfl ?_
          repeat' (walk_at "s")
          refine s_decimal_of (hr.le (by first | exact Nat.le_add_right_of_le (by decide) | omega)) g1 fun r1 b8 l8 hd => ?_
          have y1' := l8 _ _ y1
          have hx' := l8 _ _ hx
          repeat' (walk_at "s")
          refine wSetItemD (by walk_at "led") hsd (Nat.le_of_ble_eq_true rfl) fun o' ho' => ?_
          rw [show stored [(PySem.Str.ofString "Tc", w1), (PySem.Str.ofString "Tw", w2), (PySem.Str.ofString "Tz", w3), (PySem.Str.ofString "TL", w4), (PySem.Str.ofString "Ts", w5)] (PySem.Str.ofString (Op.sp .tz nn).word) r1 = [(PySem.Str.ofString "Tc", w1), (PySem.Str.ofString "Tw", w2), (PySem.Str.ofString "Tz", r1), (PySem.Str.ofString "TL", w4), (PySem.Str.ofString "Ts", w5)] by kernel_rfl] at ho'
          repeat' (walk_at "s")
          obtain ⟨l3, hp3, h3⟩ := TourL.pull (⟨tx, td, y_1, y_2, y_3, y_4, y_5, y_6, yk, .ref x, px, pn, pus, rv, pv, gx, gn, gs, ex, _, tx', o', pl, rfl, y1', rfl, ⟨x, _, _, _, _, sk, cv', ftv, zv, rfl, hx', rfl, hc.mono l8, hft.mono l8, hz.mono l8, ⟨_, _, _, _, _, ho', d1.mono l8, d2.mono l8, hd, d4.mono l8, d5.mono l8⟩⟩, y3.mono l8, y4.mono l8, y5.mono l8, y6.mono fun _ _ h => h.mono l8, y7⟩ : TourL Y.am.w b8 (.ref tx) v { mi with st := mi.st.setSp nn.dc .tz } (p :: l) _)
          exact .perm hp3 (.done ⟨_, rfl, _, _, _, _, _, hrun, h3, rfl⟩)
        | ts =>
          refine wInTsK (r := false) (K_424 _) (by walk_at "strs") (by kernel_rfl) ?_
          repeat' (walk_at "s")
          refine wInTsK (r := true) (K_425 _) (by walk_at "strs") (by kernel_rfl) ?_
          repeat' (walk_at "s")
          refine wItemL (.inl ha) hlo (by decide) (by decide) rfl rfl ?_
          repeat' (walk_at "s")
          refine s_decimal_of (hr.le (by first | exact Nat.le_add_right_of_le (by decide) | omega)) g1 fun r1 b8 l8 hd => ?_
          have y1' := l8 _ _ y1
          have hx' := l8 _ _ hx
          repeat' (walk_at "s")
          refine wSetItemD (by walk_at "led") hsd (Nat.le_of_ble_eq_true rfl) fun o' ho' => ?_
          rw [show stored [(PySem.Str.ofString "Tc", w1), (PySem.Str.ofString "Tw", w2), (PySem.Str.ofString "Tz", w3), (PySem.Str.ofString "TL", w4), (PySem.Str.ofString "Ts", w5)] (PySem.Str.ofString (Op.sp .ts nn).word) r1 = [(PySem.Str.ofString "Tc", w1), (PySem.Str.ofString "Tw", w2), (PySem.Str.ofString "Tz", w3), (PySem.Str.ofString "TL", w4), (PySem.Str.ofString "Ts", r1)] by kernel_rfl] at ho'
          repeat' (walk_at "s")
          obtain ⟨l3, hp3, h3⟩ := TourL.pull (⟨tx, td, y_1, y_2, y_3, y_4, y_5, y_6, yk, .ref x, px, pn, pus, rv, pv, gx, gn, gs, ex, _, tx', o', pl, rfl, y1', rfl, ⟨x, _, _, _, _, sk, cv', ftv, zv, rfl, hx', rfl, hc.mono l8, hft.mono l8, hz.mono l8, ⟨_, _, _, _, _, ho', d1.mono l8, d2.mono l8, d3.mono l8, d4.mono l8, hd⟩⟩, y3.mono l8, y4.mono l8, y5.mono l8, y6.mono fun _ _ h => h.mono l8, y7⟩ : TourL Y.am.w b8 (.ref tx) v { mi with st := mi.st.setSp nn.dc .ts } (p :: l) _)
          exact .perm hp3 (.done ⟨_, rfl, _, _, _, _, _, hrun, h3, rfl⟩)
      | @call _ g gs hg hz =>
        obtain ⟨nv, nm, u, own', ops', rfl, ⟨m1, m2, g1⟩, hval, hsr, zown, rfl⟩ := hargs
        obtain ⟨zc, mm, hrun2, rfl⟩ := hg
        obtain ⟨uov, ufv, umv, uown, ⟨u1, u2, u3, u4, hsu⟩, huown⟩ := hsr.sh
        have huh := huown.handed
        have hsi7 := hsi.mono (lb.trans l7)
        refine wInTsK (r := false) (K_424 _) (by walk_at "strs") (by kernel_rfl) ?_
        repeat' (walk_at "s")
        refine wInTsK (r := false) (K_425 _) (by walk_at "strs") (by kernel_rfl) ?_
        repeat' (walk_at "s")
        refine wItemL (.inl ha) hlo (by decide) (by decide) rfl rfl ?_
        repeat' (walk_at "s")
        refine wInD (.inl (l07 _ _ hmx)) hmo ?_
        rw [hval]
        repeat' (walk_at "s")
        refine wItemL (.inl ha) hlo (by decide) (by decide) rfl rfl ?_
        repeat' (walk_at "s")
        refine wItemD (.inl (l07 _ _ hmx)) hmo hval rfl ?_
        repeat' (walk_at "s")
        obtain ⟨tx, td, y_1, y_2, y_3, y_4, y_5, y_6, yk, stv', px, pn, pus, rv, pv, gx, gn, gs, ex, eob, tx', so', pl, rfl, y1, rfl, y2, y3, y4, y5, y6, y7⟩ := hT2
        have y2h := y2.handed
        repeat' (walk_at "s")
        refine wMethSt (st := mi.st) ⟨ex, eob, tx', so', y2, .inr (.tail _ (.tail _ (.tail _ (.head _)))), .inr (.tail _ (.tail _ (.tail _ (.tail _ (.head _)))))⟩ (mo_St_cop _) (by decide) ?_
        repeat' (walk_at "s")
        refine s_copied (st := mi.st) (hr.le (by first | exact Nat.le_add_right_of_le (by decide) | omega)) ⟨ex, eob, tx', so', y2, .inr (.tail _ (.tail _ (.tail _ (.head _)))), .inr (.tail _ (.tail _ (.tail _ (.tail _ (.head _)))))⟩ fun iv dx2 d2 sx2 s2 b8 l8 hcp => ?_
        obtain ⟨x2, s1, s2', s3, s4, sk, cv', ftv, zv, rfl, hx2, rfl, hc, hft, hz', hsp⟩ := hcp
        have hch := hc.handed
        have hsu8 := hsu.mono l8
        have hown8 := huown.mono l8
        have y18 := l8 _ _ y1
        repeat' (walk_at "s")
        refine s_mtimes (hr.le (by first | exact Nat.le_add_right_of_le (by decide) | omega)) hown8 hc zown zc (by decide) (by decide) fun r2 b9 l9 m9 z9 => ?_
        have hx29 := l9 _ _ hx2
        have hmh := m9.handed
        have y19 := l9 _ _ y18
        repeat' (walk_at "s")
        refine wMethL PySem.F.slot_list_extend PySem.F.type_list_extend (.inr (.tail _ (.tail _ (.tail _ (.tail _ (.head _)))))) ?_
        repeat' (walk_at "s")
        have l89 := l8.trans l9
        refine ih (m := mm) hr (hsr.mono l89) (st := { mi.st with ctm := own'.mul mi.st.ctm }) ⟨x2, _, _, _, _, _, _, ftv, zv, rfl, hx29, rfl, m9, hft.mono l9, hz'.mono l9, hsp.mono l9⟩ hrun2 fun r3 gs3 k3 b10 l10 hr3 hgs3 _ => ?_
        repeat' (walk_at "s")
        have e6 := y6.len
        have e3 := hgs3.len
        refine wExtend (by walk_at "led") (.inl hr3) (by omega) fun n' => ⟨fun _ h => (by cases h), ?_⟩
        repeat' (walk_at "s")
        have l710 := l89.trans l10
        obtain ⟨l3, hp3, h3⟩ := TourL.pull (⟨tx, td, y_1, y_2, y_3, y_4, y_5, y_6, yk, stv', px, pn, pus, rv, pv, gx, n', gs ++ gs3, ex, eob, tx', so', pl, rfl, l10 _ _ y19, rfl, y2.mono l710, y3.mono l710, y4.mono l710, y5.mono l710, (y6.mono fun _ _ h => h.mono l710).app hgs3, y7⟩ : TourL Y.am.w b10 (.ref tx) v { mi with found := mi.found ++ mm.found } (p :: l) _)
        exact .perm hp3 (.done ⟨_, rfl, _, _, _, _, _, hrun, h3, rfl⟩)
  · rintro b6 l6 v6 lb ⟨mi, c1, c2, c3, c4, hrun, hT, rfl⟩
    rw [hops.len, List.drop_length] at hrun
    cases hrun
    obtain ⟨tx, td, y_1, y_2, y_3, y_4, y_5, y_6, yk, stv', px, pn, pus, rv, pv, gx, gn, gs, ex, eob, tx', so', pl, rfl, y1, rfl, y2, y3, y4, y5, y6, y7⟩ := hT
    repeat' (walk_at "s")
    exact .drop (.drop (.freeze fun b7 l7 h7 => .drop (.drop (fz_app (.done ⟨rfl, _, _, _, rfl, h7, y6.mono fun _ _ h => h.mono l7⟩)))))
theorem sheetIH : ∀ n, SheetIH n
  | 0 => by
    intro hr hs
    exact hs.elim
  | n + 1 => by
    intro hr hs hst hm q
    exact wDef (G := f_sheet_glyphs) (Cx.hh _) (f_sheet_glyphs_ok (Cx.ok _)) hr.d (by kernel_rfl) fun L => wMono (b_sheet (sheetIH n) _ hr.sub hs hst hm) fun fl b' led' _ l ⟨e, r, gs, k, e2, h1, h2⟩ => by rw [e, e2]; exact q _ _ _ _ l h1 h2 (.inr trivial)
theorem b_lay (Y : Cx f_lay_glyphs.sc) {n : Nat} {b : Base} {l : Led} {v : Value} {own : Mx} {ops : List Op} {m : Mc} (hr : Room Y (14 + n)) (hs : SheetRep Y.am.w n b v own ops) (hm : Run ops (Mc.start (St.init own)) m) :
    Wp Y (execs (bodyOf f_lay_glyphs.st) Y.env) b l [some v] (fun fl b' led' _ => led' = l ∧ ∃ r gs k, retOf fl = .ref r ∧ b' r = some (LO gs k) ∧ All2 (GlA Y.am.w.params b') gs m.found) := by
  obtain ⟨ov, fv, mv, ownv, ⟨t1, t2, t3, t4, hsh⟩, hown⟩ := id hs.sh
  have hh := hown.handed
  walk_at "body"
  repeat' (walk_at "s")
  refine s_TextState (hr.le (by first | exact Nat.le_add_right_of_le (by decide) | omega)) hown fun sv dx dob sx so b1 l1 h1 => ?_
  repeat' (walk_at "s")
  refine sheetIH n hr (SheetRep.mono l1 n hs) h1 hm fun r gs k b2 l2 hr2 hg _ => ?_
  exact ⟨rfl, r, gs, k, rfl, hr2, hg⟩
section
variable {S : Sc} {X : Cx S} {b : Base} {led : Led} {vs : Vs} {Q : Post Value}
theorem s_lay {n : Nat} {v : Value} {own : Mx} {ops : List Op} {m : Mc} (hr : Room X (14 + n + 1)) (hs : SheetRep X.am.w n b v own ops) (hm : Run ops (Mc.start (St.init own)) m)
    (q : ∀ r gs k b', Le b b' → b' r = some (LO gs k) → All2 (GlA X.am.w.params b') gs m.found → Q (.ref r) b' led vs) : Wp X (call (.ref 628) [v]) b led vs Q :=
  wDef (G := f_lay_glyphs) X.hh (f_lay_glyphs_ok X.ok) hr.d (by kernel_rfl) fun L => wMono (b_lay _ hr.sub hs hm) fun fl b' led' _ l ⟨e, r, gs, k, e2, h1, h2⟩ => by rw [e, e2]; exact q _ _ _ _ l h1 h2
end
/-! what a list of operations does: the plain law -/
noncomputable def Zk (k : Nat) (m : Mx) : Prop := Mz (16 + 8100 * k) (1 + k) m
noncomputable def StP (st : St) (k : Nat) : Prop := st.font = true ∧ StOk st ∧ Zk k st.ctm
noncomputable def Pre (m : Mc) (k : Nat) : Prop := m.place = none ∧ m.row = none ∧ StP m.st k ∧ m.found.length ≤ 10 * k ∧ m.pile.length ≤ k
noncomputable def Mc.add (m : Mc) (a : St × List Gl) : Mc := { m with st := a.1, found := m.found ++ a.2 }
abbrev SemF := St → St × List Gl
noncomputable def Sem (ops : List Op) (c : Nat) (f : SemF) : Prop :=
  (∀ m k, Pre m k → k + c ≤ 1000 → Run ops m (m.add (f m.st))) ∧ (∀ st k, StP st k → k + c ≤ 1000 → StP (f st).1 (k + c) ∧ (f st).2.length ≤ 10 * c)
theorem Run.app {o1 o2 : List Op} {m m' m'' : Mc} (h : Run o1 m m') (k : Run o2 m' m'') : Run (o1 ++ o2) m m'' := by
  induction h with
  | nil => exact k
  | cons h _ ih => exact .cons h (ih k)
theorem StP.mono {st : St} {k k' : Nat} (h : StP st k) (l : k ≤ k') : StP st k' := ⟨h.1, h.2.1, h.2.2.mono (by lia) (by lia)⟩
theorem StP.big {st : St} {k : Nat} (h : StP st k) (l : k ≤ 1000) : Mz 8200000 1100 st.ctm := h.2.2.mono (by lia) (by lia)
theorem Pre.next {m : Mc} {k c : Nat} {a : St × List Gl} (h : Pre m k) (h1 : StP a.1 (k + c)) (h2 : a.2.length ≤ 10 * c) : Pre (m.add a) (k + c) :=
  ⟨h.1, h.2.1, h1, by show (m.found ++ a.2).length ≤ _; rw [List.length_append]; have := h.2.2.2.1; lia, by have := h.2.2.2.2; show m.pile.length ≤ _; lia⟩
theorem Sem.nil : Sem [] 0 fun st => (st, []) := ⟨fun m k h _ => by
  have : m.add (m.st, []) = m := by unfold Mc.add; rw [List.append_nil]
  rw [this]; exact .nil, fun st k h _ => ⟨h, Nat.le_refl _⟩⟩
noncomputable def SemF.comp (f g : SemF) : SemF := fun st => ((g (f st).1).1, (f st).2 ++ (g (f st).1).2)
theorem Sem.app {o1 o2 : List Op} {c1 c2 : Nat} {f g : SemF} (h : Sem o1 c1 f) (k : Sem o2 c2 g) : Sem (o1 ++ o2) (c1 + c2) (f.comp g) := by
  refine ⟨fun m n hp hn => ?_, fun st n hp hn => ?_⟩
  · obtain ⟨p1, p2⟩ := h.2 m.st n hp.2.2.1 (by lia)
    have r1 := h.1 m n hp (by lia)
    have r2 := k.1 (m.add (f m.st)) (n + c1) (hp.next p1 p2) (by lia)
    have e : (m.add (f m.st)).add (g (m.add (f m.st)).st) = m.add (f.comp g m.st) := by
      unfold Mc.add SemF.comp
      simp [List.append_assoc]
    rw [e] at r2
    exact r1.app r2
  · obtain ⟨p1, p2⟩ := h.2 st n hp (by lia)
    obtain ⟨p3, p4⟩ := k.2 (f st).1 (n + c1) p1 (by lia)
    refine ⟨by have := p3; rwa [Nat.add_assoc] at this, ?_⟩
    show ((f st).2 ++ (g (f st).1).2).length ≤ _
    rw [List.length_append]; lia
theorem mul_zk {m n : Mx} {k : Nat} (hm : Mz 16 1 m) (hn : Zk k n) (hk : k ≤ 1000) : Zk (k + 1) (m.mul n) := by
  obtain ⟨za, zb, zc, zd, ze, zf⟩ := hm
  obtain ⟨ya, yb, yc, yd, ye, yf⟩ := hn
  have t : ∀ {x y z w : Dc}, Sz 16 1 x → Sz (16 + 8100 * k) (1 + k) y → Sz 16 1 z → Sz (16 + 8100 * k) (1 + k) w → Sz (16 + (16 + 8100 * k) + 4 * (1 + (1 + k)) + 2) (1 + (1 + k)) ((x.times y).plus (z.times w)) := fun hx hy hz hw =>
    ((hx.times hy).plus (hz.times hw)).mono (by lia) (by lia)
  have t' : ∀ {x y z w v : Dc}, Sz 16 1 x → Sz (16 + 8100 * k) (1 + k) y → Sz 16 1 z → Sz (16 + 8100 * k) (1 + k) w → Sz (16 + 8100 * k) (1 + k) v → Sz (16 + 8100 * (k + 1)) (1 + (k + 1)) (((y.times x).plus (w.times z)).plus v) := fun hx hy hz hw hv =>
    (((hy.times hx).plus (hw.times hz)).plus hv).mono (by lia) (by lia)
  exact ⟨(t za ya zb yc).mono (by lia) (by lia), (t za yb zb yd).mono (by lia) (by lia), (t zc ya zd yc).mono (by lia) (by lia), (t zc yb zd yd).mono (by lia) (by lia), t' ze ya zf yc ye, t' ze yb zf yd yf⟩
theorem mul_small {m n : Mx} (hm : Mz 16 1 m) (hn : Mz 16 1 n) : Mz 1000 100 (m.mul n) := by
  obtain ⟨za, zb, zc, zd, ze, zf⟩ := hm
  obtain ⟨ya, yb, yc, yd, ye, yf⟩ := hn
  have t : ∀ {x y z w : Dc}, Sz 16 1 x → Sz 16 1 y → Sz 16 1 z → Sz 16 1 w → Sz 1000 100 ((x.times y).plus (z.times w)) := fun hx hy hz hw =>
    ((hx.times hy).plus (hz.times hw)).mono (by lia) (by lia)
  have t' : ∀ {x y z w v : Dc}, Sz 16 1 x → Sz 16 1 y → Sz 16 1 z → Sz 16 1 w → Sz 16 1 v → Sz 1000 100 (((x.times y).plus (z.times w)).plus v) := fun hx hy hz hw hv =>
    (((hx.times hy).plus (hz.times hw)).plus hv).mono (by lia) (by lia)
  exact ⟨t za ya zb yc, t za yb zb yd, t zc ya zd yc, t zc yb zd yd, t' ya ze yc zf ye, t' yb ze yd zf yf⟩
theorem Sem.cm {s : Six} (hs : Mz 16 1 s.mx) : Sem [.cm s] 1 fun st => ({ st with ctm := s.mx.mul st.ctm }, []) := by
  refine ⟨fun m k hp hk => ?_, fun st k hp hk => ⟨⟨hp.1, hp.2.1, mul_zk hs hp.2.2 (by lia)⟩, Nat.zero_le _⟩⟩
  have := Step.cm (m := m) hs (hp.2.2.1.big (by lia))
  have e : m.add ({ m.st with ctm := s.mx.mul m.st.ctm }, []) = { m with st := { m.st with ctm := s.mx.mul m.st.ctm } } := by unfold Mc.add; rw [List.append_nil]
  rw [e]
  exact .cons this .nil
theorem Sem.sp {k : SpK} {n : Num} (hn : Sz 16 1 n.dc) : Sem [.sp k n] 1 fun st => (st.setSp n.dc k, []) := by
  refine ⟨fun m j hp hk => ?_, fun st j hp hk => ⟨?_, Nat.zero_le _⟩⟩
  · have e : m.add (m.st.setSp n.dc k, []) = { m with st := m.st.setSp n.dc k } := by unfold Mc.add; rw [List.append_nil]
    rw [e]
    exact .cons Step.sp .nil
  · obtain ⟨h1, ⟨o1, o2, o3, o4⟩, h3⟩ := hp
    have h3' : Zk (j + 1) st.ctm := h3.mono (by lia) (by lia)
    cases k with
    | tc => exact ⟨h1, ⟨o1, hn, o3, o4⟩, h3'⟩
    | tz => exact ⟨h1, ⟨o1, o2, hn, o4⟩, h3'⟩
    | ts => exact ⟨h1, ⟨o1, o2, o3, hn⟩, h3'⟩
noncomputable def blk (x y : Num) (os : List UInt8) : List Op := [.bt, .td x y, .tj os, .et]
theorem show_len (st : St) (p : Mx) (os : List UInt8) : (st.show p os).1.length = os.length := by
  show (st.shown _ _ (cds os)).1.length = _
  rw [shown_len, cds_len]
theorem Sem.blk {x y : Num} {os : List UInt8} (hx : Sz 16 1 x.dc) (hy : Sz 16 1 y.dc) (ho : os.length ≤ 2) : Sem (Mine.blk x y os) 1 fun st => (st, (st.show ((Mx.tr x y).mul Mx.one) os).1) := by
  refine ⟨fun m k hp hk => ?_, fun st k hp hk => ⟨hp.mono (by lia), by rw [show_len]; lia⟩⟩
  obtain ⟨h1, h2, h3, h4, h5⟩ := hp
  have zt : Mz 1000 100 ((Mx.tr x y).mul Mx.one) := mul_small (tr_sz hx hy) one_sz
  refine .cons (.bt h1) (.cons (.td rfl (by simp) hx hy) (.cons (.tj rfl h3.1 h3.2.1 zt (h3.big (by lia)) (by lia) (by show m.found.length ≤ _; lia)) (.cons (.et (by simp)) ?_)))
  have e : m.add (m.st, (m.st.show ((Mx.tr x y).mul Mx.one) os).1) = ⟨m.st, none, none, m.pile, m.found ++ (m.st.show ((Mx.tr x y).mul Mx.one) os).1⟩ := by
    unfold Mc.add
    rw [h1, h2]
  rw [e]
  exact .nil
theorem Sem.group {ops : List Op} {c : Nat} {f : SemF} (h : Sem ops c f) : Sem ([.q] ++ ops ++ [.Q]) (c + 1) fun st => (st, (f st).2) := by
  refine ⟨fun m k hp hk => ?_, fun st k hp hk => ⟨hp.mono (by lia), by have := (h.2 st k hp (by lia)).2; show (f st).2.length ≤ _; lia⟩⟩
  obtain ⟨h1, h2, h3, h4, h5⟩ := hp
  have r := h.1 { m with pile := m.st :: m.pile } (k + 1) ⟨h1, h2, h3.mono (by lia), by show m.found.length ≤ _; lia, by show (m.st :: m.pile).length ≤ _; rw [List.length_cons]; lia⟩ (by lia)
  refine Run.app (Run.app (.cons (.q (by lia)) .nil) r) (.cons (.Q (s := m.st) (p := m.pile) rfl (by lia)) ?_)
  exact .nil
theorem Sem.call {ops : List Op} {c : Nat} {f : SemF} {own : Mx} (h : Sem ops c f) (ho : Mz 16 1 own) : Sem [.call (callG own ops)] (c + 2) fun st => (st, (f { st with ctm := own.mul st.ctm }).2) := by
  have pre : ∀ st k, StP st k → k + (c + 2) ≤ 1000 → StP { st with ctm := own.mul st.ctm } (k + 1) := fun st k h hk => ⟨h.1, h.2.1, mul_zk ho h.2.2 (by lia)⟩
  refine ⟨fun m k hp hk => ?_, fun st k hp hk => ⟨hp.mono (by lia), by have := (h.2 _ (k + 1) (pre st k hp hk) (by lia)).2; show (f _).2.length ≤ _; lia⟩⟩
  obtain ⟨h1, h2, h3, h4, h5⟩ := hp
  have p := pre m.st k h3 hk
  have r := h.1 (Mc.start { m.st with ctm := own.mul m.st.ctm }) (k + 1) ⟨rfl, rfl, p, Nat.zero_le _, Nat.zero_le _⟩ (by lia)
  have l : (f { m.st with ctm := own.mul m.st.ctm }).2.length ≤ 10 * c := (h.2 _ (k + 1) p (by lia)).2
  refine .cons (.call (gs := (f { m.st with ctm := own.mul m.st.ctm }).2) ⟨h3.big (by lia), _, r, ?_⟩ (by show (f { m.st with ctm := own.mul m.st.ctm }).2.length + m.found.length ≤ 50000; lia)) .nil
  show _ = [] ++ _
  rw [List.nil_append]; rfl
theorem Sem.nop : Sem [.nop] 0 fun st => (st, []) := ⟨fun m k h _ => by
  have : m.add (m.st, []) = m := by unfold Mc.add; rw [List.append_nil]
  rw [this]; exact .cons .nop .nil, fun st k h _ => ⟨h, Nat.le_refl _⟩⟩
theorem Sem.mono {ops : List Op} {c c' : Nat} {f : SemF} (h : Sem ops c f) (l : c ≤ c') : Sem ops c' f :=
  ⟨fun m k hp hk => h.1 m k hp (by lia), fun st k hp hk => ⟨(h.2 st k hp (by lia)).1.mono (by lia), Nat.le_trans (h.2 st k hp (by lia)).2 (by lia)⟩⟩
/-- a form's operations, laid flat -/
theorem Sem.form {ops : List Op} {c : Nat} {f : SemF} {s : Six} (h : Sem ops c f) (hs : Mz 16 1 s.mx) : Sem ([.q, .cm s] ++ ops ++ [.Q]) (c + 2) fun st => (st, (f { st with ctm := s.mx.mul st.ctm }).2) := by
  have := ((Sem.cm hs).app h).group
  have e : [.q] ++ ([.cm s] ++ ops) ++ [.Q] = [.q, .cm s] ++ ops ++ [.Q] := by simp
  rw [e] at this
  exact this.mono (by lia)

/-! normal decimals; the identity -/
noncomputable def Nrm (d : Dc) : Prop := norm d.top d.pl = d
theorem norm_zero : ∀ p, norm 0 p = ⟨0, 0⟩
  | 0 => rfl
  | p + 1 => by rw [norm, if_pos (by decide)]; exact norm_zero p
theorem times_one {d : Dc} (h : Nrm d) : d.times ⟨1, 0⟩ = d := by
  show norm (d.top * 1) (d.pl + 0) = d
  rw [Int.mul_one]; exact h
theorem one_times {d : Dc} (h : Nrm d) : Dc.times ⟨1, 0⟩ d = d := by
  show norm (1 * d.top) (0 + d.pl) = d
  rw [Int.one_mul, Nat.zero_add]; exact h
theorem times_zero (d : Dc) : d.times ⟨0, 0⟩ = ⟨0, 0⟩ := by
  show norm (d.top * 0) (d.pl + 0) = _
  rw [Int.mul_zero]; exact norm_zero _
theorem zero_times (d : Dc) : Dc.times ⟨0, 0⟩ d = ⟨0, 0⟩ := by
  show norm (0 * d.top) (0 + d.pl) = _
  rw [Int.zero_mul]; exact norm_zero _
theorem plus_zero {d : Dc} (h : Nrm d) : d.plus ⟨0, 0⟩ = d := by
  show norm (d.top * 10 ^ (max d.pl 0 - d.pl) + 0 * 10 ^ (max d.pl 0 - 0)) (max d.pl 0) = d
  rw [Nat.max_eq_left (Nat.zero_le _), Nat.sub_self, Int.pow_zero, Int.mul_one, Int.zero_mul, Int.add_zero]; exact h
theorem zero_plus {d : Dc} (h : Nrm d) : Dc.plus ⟨0, 0⟩ d = d := by
  show norm (0 * 10 ^ (max 0 d.pl - 0) + d.top * 10 ^ (max 0 d.pl - d.pl)) (max 0 d.pl) = d
  rw [Nat.max_eq_right (Nat.zero_le _), Nat.sub_self, Int.pow_zero, Int.mul_one, Int.zero_mul, Int.zero_add]; exact h
theorem mul_one_mx {m : Mx} (ha : Nrm m.a) (hb : Nrm m.b) (hc : Nrm m.c) (hd : Nrm m.d) (he : Nrm m.e) (hf : Nrm m.f) : m.mul Mx.one = m := by
  obtain ⟨a, b, c, d, e, f⟩ := m
  dsimp only at ha hb hc hd he hf
  unfold Mx.mul Mx.app Mx.one
  simp only [times_one ha, times_one hb, times_one hc, times_one hd, times_zero, zero_times, one_times he, one_times hf, plus_zero ha, zero_plus hb, plus_zero hc, zero_plus hd, plus_zero he, zero_plus hf, plus_zero hf]
noncomputable def NOk (n : Num) : Prop := Sz 16 1 n.dc ∧ Nrm n.dc
theorem nrm_one (k : Int) : Nrm (norm k 1) := by
  unfold Nrm
  by_cases h : k.fmod 10 = 0
  · rw [show norm k 1 = ⟨k.fdiv 10, 0⟩ by rw [norm, if_pos h]; rfl]; rfl
  · have e : norm k 1 = ⟨k, 1⟩ := by rw [norm, if_neg h]
    rw [e]; exact e
/-! the tape -/
theorem LedX.upd {l : Led} {d : Addr} {o : Obj} {f : Obj → Led} (h : LedX l d o f) (o' : Obj) : LedX (f o') d o' f := by
  induction h with
  | here => exact .here
  | there _ ih => exact .there ih
inductive TapeAt (b : Base) (n A : Nat) (o : Obj) : Prop
  | mk (cx : Addr) (co : Obj) (us : List Value) (at' : Nat) (ta tn : Tok) (h1_ : IsLO [.ref cx, .int (at' : Int) ta, .int (n : Int) tn] o) (h2_ : b cx = some co) (h3_ : IsLO us co) (h4_ : (∀ u ∈ us, ∃ i t, u = .int i t)) (h5_ : us ≠ []) (h6_ : us.length ≤ 100) (h7_ : at' ≤ A) : TapeAt b n A o
theorem TapeAt.mono {b b' : Base} {n A A' : Nat} {o : Obj} (h : TapeAt b n A o) (l : Le b b') (hA : A ≤ A') : TapeAt b' n A' o :=
  let ⟨cx, co, us, a, ta, tn, h1, h2, h3, h4, h5, h6, h7⟩ := h
  ⟨cx, co, us, a, ta, tn, h1, l _ _ h2, h3, h4, h5, h6, Nat.le_trans h7 hA⟩
theorem b_draw (Y : Cx f_law_draw.sc) {b : Base} {led : Led} {tp : Addr} {o : Obj} {f : Obj → Led} {n A : Nat} {lim : Int} {tl : Tok} (hx : LedX led tp o f) (ht : TapeAt b n A o) (hA : A ≤ 100000) (h0 : 0 < lim) :
    Wp Y (execs (bodyOf f_law_draw.st) Y.env) b led [some (.ref tp), some (.int lim tl), none, none] (fun fl b' led' _ => ∃ o' d t, led' = f o' ∧ TapeAt b' n (A + 1) o' ∧ retOf fl = .int d t ∧ 0 ≤ d ∧ d < lim) := by
  obtain ⟨cx, co, us, a, ta, tn, ho, hc, hco, hint, hne, hl, ha⟩ := ht
  have hl0 : 0 < us.length := List.length_pos_iff.mpr hne
  walk_at "body"
  repeat' (walk_at "s")
  refine wItemL (.inr hx.mem) ho (by decide) (by decide) rfl rfl ?_
  repeat' (walk_at "s")
  refine wItemL (.inr hx.mem) ho (by decide) (by decide) rfl rfl ?_
  repeat' (walk_at "s")
  refine wSetItemL hx ho (by decide) (by decide) (by show (1 : Int) < 3; decide) fun o' ho' => ?_
  repeat' (walk_at "s")
  refine wLenL (.inl hc) hco (by omega) fun _ => ?_
  refine wFmod (by omega) fun _ => ?_
  have e1 : (a : Int).fmod (us.length : Int) = ((a % us.length : Nat) : Int) := by
    rw [Int.fmod_eq_emod_of_nonneg _ (by omega)]; rfl
  rw [e1]
  have hlt : a % us.length < us.length := Nat.mod_lt _ hl0
  obtain ⟨i, t, hi⟩ := hint us[a % us.length] (List.getElem_mem hlt)
  repeat' (walk_at "s")
  refine wItemL (.inl hc) hco (by omega) (by omega) (v := .int i t) (by rw [Int.toNat_natCast, List.getElem?_eq_getElem hlt, hi]) rfl ?_
  repeat' (walk_at "s")
  refine wLenL (.inl hc) hco (by omega) fun _ => ?_
  repeat' (walk_at "s")
  refine wFdiv (by omega) (by omega) fun _ => ?_
  repeat' (walk_at "s")
  have ha7 : (7 : Int).natAbs < 2 ^ 3 := by decide
  have ha2 : (a : Int).natAbs < 2 ^ 20 := by omega
  refine wMul (mulOk ha7 ha2 (by decide)) fun _ => ?_
  repeat' (walk_at "s")
  have e2 : (a : Int).fdiv (us.length : Int) = ((a / us.length : Nat) : Int) := by
    rw [Int.fdiv_eq_ediv_of_nonneg _ (by omega)]; rfl
  rw [e2]
  have hd2 : ((a / us.length : Nat) : Int).natAbs < 2 ^ 20 := by rw [Int.natAbs_natCast]; exact Nat.lt_of_le_of_lt (Nat.div_le_self _ _) (by omega)
  have ha3 : (7 * (a : Int) + 3).natAbs < 2 ^ 24 := by omega
  refine wMul (mulOk hd2 ha3 (by decide)) fun _ => ?_
  repeat' (walk_at "s")
  refine wFmod (by omega) fun _ => ?_
  rw [Int.fmod_eq_emod_of_nonneg _ (by omega)]
  refine ⟨o', _, _, rfl, ⟨cx, co, us, a + 1, _, tn, ho', hc, hco, hint, hne, hl, by omega⟩, rfl, Int.emod_nonneg _ (by omega), Int.emod_lt_of_pos _ h0⟩
section
variable {S : Sc} {X : Cx S} {b : Base} {led : Led} {vs : Vs} {Q : Post Value}
theorem s_draw {tp : Addr} {o : Obj} {f : Obj → Led} {n A : Nat} {lim : Int} {tl : Tok} (hr : Room X 1) (hx : LedX led tp o f) (ht : TapeAt b n A o) (hA : A ≤ 100000) (h0 : 0 < lim) (q : ∀ o' d t b', Le b b' → TapeAt b' n (A + 1) o' → 0 ≤ d → d < lim → Q (.int d t) b' (f o') vs) : Wp X (call (.ref 798) [.ref tp, .int lim tl]) b led vs Q :=
  wDef (G := f_law_draw) X.hh (f_law_draw_ok X.ok) hr.d (by kernel_rfl) fun L => wMono (b_draw _ hx ht hA h0) fun fl b' led' _ l ⟨o', d, t, e, h, e2, h1, h2⟩ => by rw [e, e2]; exact q _ _ _ _ l h h1 h2
end
theorem b_number (Y : Cx f_law_number.sc) {b : Base} {led : Led} {tp : Addr} {o : Obj} {f : Obj → Led} {n A : Nat} (hr : Room Y 1) (hx : LedX led tp o f) (ht : TapeAt b n A o) (hA : A ≤ 100000) :
    Wp Y (execs (bodyOf f_law_number.st) Y.env) b led [some (.ref tp), none] (fun fl b' led' _ => ∃ o' nn, led' = f o' ∧ TapeAt b' n (A + 1) o' ∧ NumAt Y.am.w.params b' (retOf fl) nn ∧ NOk nn) := by
  walk_at "body"
  repeat' (walk_at "s")
  refine s_draw hr hx ht hA (by decide) fun o' d t b1 l1 ht1 h0 h1 => ?_
  repeat' (walk_at "s")
  refine wFmod (by decide) fun _ => ?_
  repeat' (walk_at "s")
  refine ite_of (fun h => ?_) (fun h => ?_)
  · repeat' (walk_at "s")
    refine wFdiv (by decide) (by decide) fun _ => ?_
    repeat' (walk_at "s")
    refine s_Decimal (p := 1) hr fun r b2 l2 hd => ?_
    refine ⟨o', .dec _, rfl, ht1.mono l2 (Nat.le_refl _), hd, norm_sz (B := 16) 1 ?_, nrm_one _⟩
    rw [Int.fdiv_eq_ediv_of_nonneg _ (by decide)]
    omega
  · repeat' (walk_at "s")
    refine wFdiv (by decide) (by decide) fun _ => ?_
    repeat' (walk_at "s")
    refine ⟨o', .int _, rfl, ht1, ⟨_, rfl⟩, ⟨?_, Nat.zero_le _⟩, rfl⟩
    show ((d.fdiv 2 - 20 : Int)).natAbs < 2 ^ 16
    rw [Int.fdiv_eq_ediv_of_nonneg _ (by decide)]
    omega
section
variable {S : Sc} {X : Cx S} {b : Base} {led : Led} {vs : Vs} {Q : Post Value}
theorem s_number {tp : Addr} {o : Obj} {f : Obj → Led} {n A : Nat} (hr : Room X 2) (hx : LedX led tp o f) (ht : TapeAt b n A o) (hA : A ≤ 100000) (q : ∀ o' v nn b', Le b b' → TapeAt b' n (A + 1) o' → NumAt X.am.w.params b' v nn → NOk nn → Q v b' (f o') vs) : Wp X (call (.ref 805) [.ref tp]) b led vs Q :=
  wDef (G := f_law_number) X.hh (f_law_number_ok X.ok) hr.d (by kernel_rfl) fun L => wMono (b_number _ hr.sub hx ht hA) fun fl b' led' _ l ⟨o', nn, e, h, h1, h2⟩ => by rw [e]; exact q _ _ _ _ l h h1 h2
end
/-! six numbers -/
noncomputable def SOk (s : Six) : Prop := NOk s.a ∧ NOk s.b ∧ NOk s.c ∧ NOk s.d ∧ NOk s.e ∧ NOk s.f
theorem SOk.sz {s : Six} (h : SOk s) : Mz 16 1 s.mx := ⟨h.1.1, h.2.1.1, h.2.2.1.1, h.2.2.2.1.1, h.2.2.2.2.1.1, h.2.2.2.2.2.1⟩
theorem SOk.one {s : Six} (h : SOk s) : s.mx.mul Mx.one = s.mx := mul_one_mx h.1.2 h.2.1.2 h.2.2.1.2 h.2.2.2.1.2 h.2.2.2.2.1.2 h.2.2.2.2.2.2
@[reducible] noncomputable def f_six2 : FnR := ⟨810, 809, "_law_six", "_law_six", kstm 77, .none, Mine.ks "law_og0196_01" 1427, ⟨[], [(PySem.Str.ofString "range", .type "range")]⟩⟩
theorem f_six2_ok {a : Am} (A : a.Ok) : f_six2.OkC a (PySem.Str.ofString "tape") := .of A (by kernel_rfl) (by kernel_rfl) (by kernel_rfl) (fun n => by kernel_rfl) (gsQ_of (by kernel_rfl))
theorem glob_val {a : Am} (ok : a.Ok) {y : PySem.Str × Value} (h : y ∈ globTab) : a.mg y.1 = some y.2 := by
  have := List.all_eq_true.mp (glob_K a.w.params) y h
  exact mg_of ok.K ok.g (beq_iff_eq.mp this)
noncomputable def namesQ (l : List (PySem.Str × NameKind)) : Bool := l.all (fun x => match x.2 with | .cell => false | .local => kindIs (kindQ l x.1) 0 | _ => true)
theorem namesQ_cell {l : List (PySem.Str × NameKind)} (h : namesQ l = true) : ∀ x ∈ l, x.2 ≠ .cell := fun x hx e => by
  have := List.all_eq_true.mp h x hx; rw [e] at this; cases this
theorem namesQ_loc {l : List (PySem.Str × NameKind)} (h : namesQ l = true) : ∀ x ∈ l, x.2 = .local → l.lookup x.1 = some .local := fun x hx e => by
  have := List.all_eq_true.mp h x hx
  rw [e] at this
  dsimp only at this
  rw [kindQ_eq] at this; exact kindIs0 this
theorem All2.six {α β : Type} {R : α → β → Prop} {l : List α} {m : List β} (h : All2 R l m) (hl : l.length = 6) : Six2 R l m := by
  cases h with
  | nil => cases hl
  | cons c1 h => cases h with
    | nil => cases hl
    | cons c2 h => cases h with
      | nil => cases hl
      | cons c3 h => cases h with
        | nil => cases hl
        | cons c4 h => cases h with
          | nil => cases hl
          | cons c5 h => cases h with
            | nil => cases hl
            | cons c6 h => cases h with
              | nil => exact .mk _ _ _ _ _ _ _ _ _ _ _ _ c1 c2 c3 c4 c5 c6
              | cons c7 h => cases hl
section
variable {S : Sc} {X : Cx S} {b : Base} {led : Led} {vs : Vs} {Q : Post Value}
theorem s_six {tp : Addr} {o : Obj} {f : Obj → Led} {n A : Nat} (hr : Room X 3) (hx : LedX led tp o f) (ht : TapeAt b n A o) (hA : A ≤ 90000) (q : ∀ o' v s b', Le b b' → TapeAt b' n (A + 6) o' → SixAt X.am.w.params b' v s → SOk s → Q v b' (f o') vs) : Wp X (call (.ref 810) [.ref tp]) b led vs Q := by
  refine wDefC (G := f_six2) X.hh (f_six2_ok X.ok) hr.d (by kernel_rfl) fun L b1 co l1 hc hd => wFz ?_
  change Wp _ _ _ _ [] _
  have hr2 : Room (X.subC f_six2 (f_six2_ok X.ok) X.A X.hh L vs) 2 := hr.subC
  walk_at "body"
  refine aRet ?_
  refine wListCompC (cl := [(PySem.Str.ofString "tape", L + 1)]) (gs := [(PySem.Str.ofString "_law_number", .ref 805)]) (fun i b' l' ys => ∃ o' nums, l' = f o' ∧ TapeAt b' n (A + i) o' ∧ All2 (fun v nn => NumAt X.am.w.params b' v nn ∧ NOk nn) ys nums) ⟨rfl, ?_, namesQ_cell (by kernel_rfl), namesQ_loc (by kernel_rfl), ?_, ?_, ?_⟩ (fun _ => rfl) (fun _ _ => rfl) (wFz ?_)
  · with_unfolding_all rfl
  · exact nodupQ_of (by kernel_rfl)
  · intro x hx
    rw [List.mem_singleton.mp hx]
    exact ⟨by kernel_rfl, nm (by decide)⟩
  · intro y hy
    rw [List.mem_singleton.mp hy]
    exact ⟨by kernel_rfl, nm (by decide), .inl (glob_val X.ok (tabQ_of (by kernel_rfl)))⟩
  · repeat' (walk_at "s")
    refine wRange1 fun rx _ _ _ => ?_
    refine .freeze fun b2 l2 h2 => .done ⟨6, _, by decide, its_range (.inl h2) (by decide) (by decide), ⟨o, [], ?_, ht.mono (l1.trans l2) (Nat.le_refl _), .nil⟩, ?_, ?_⟩
    · obtain ⟨pre, post, e1, e2⟩ := hx.split
      rw [e2, e1]
    · rintro C i b3 l3 w p q ys hi lb ⟨k, rfl⟩ ⟨o', nums, rfl, ht', hn⟩
      repeat' (walk_at "s")
      refine wCellName (c := L + 1) (by kernel_rfl) (by with_unfolding_all rfl) ((l2.trans lb) _ _ hc) hd (by kernel_rfl) ?_
      repeat' (walk_at "s")
      refine s_number hr2 (.there (.there (hx.upd o'))) ht' (by omega) fun o2 v nn b4 l4 ht2 hv hok => ?_
      exact ⟨rfl, _, rfl, o2, nums ++ [nn], rfl, ht2, (hn.mono fun _ _ h => ⟨h.1.mono l4, h.2⟩).app (.cons ⟨hv, hok⟩ .nil)⟩
    · rintro b3 l3 ys D k lb ⟨o', nums, rfl, ht', hn⟩ hl
      refine .freeze fun b4 l4 h4 => .done ?_
      have hl' := hn.len
      rw [hl] at hl'
      obtain ⟨v1, v2, v3, v4, v5, v6, n1, n2, n3, n4, n5, n6, c1, c2, c3, c4, c5, c6⟩ := hn.six hl
      exact q o' (.ref D) ⟨n1, n2, n3, n4, n5, n6⟩ b4 (((l1.trans l2).trans lb).trans l4) (ht'.mono l4 (Nat.le_refl _)) ⟨D, _, v1, v2, v3, v4, v5, v6, rfl, h4, .mk, c1.1.mono l4, c2.1.mono l4, c3.1.mono l4, c4.1.mono l4, c5.1.mono l4, c6.1.mono l4⟩ ⟨c1.2, c2.2, c3.2, c4.2, c5.2, c6.2⟩
end
theorem b_lmatrix (Y : Cx f_law_matrix.sc) {b : Base} {led : Led} {v : Value} {s : Six} (hr : Room Y 3) (h : SixAt Y.am.w.params b v s) : Wp Y (execs (bodyOf f_law_matrix.st) Y.env) b led [some v] (fun fl b' led' _ => led' = led ∧ MatAt Y.am.w.params b' (retOf fl) s.mx) := by
  obtain ⟨x, o, v1, v2, v3, v4, v5, v6, rfl, h, ho, h1, h2, h3, h4, h5, h6⟩ := h
  walk_at "body"
  repeat' (walk_at "s")
  refine wItemL (.inl h) ho (by decide) (by decide) rfl rfl ?_
  repeat' (walk_at "s")
  refine wItemL (.inl h) ho (by decide) (by decide) rfl rfl ?_
  repeat' (walk_at "s")
  refine wItemL (.inl h) ho (by decide) (by decide) rfl rfl ?_
  repeat' (walk_at "s")
  refine wItemL (.inl h) ho (by decide) (by decide) rfl rfl ?_
  repeat' (walk_at "s")
  refine wItemL (.inl h) ho (by decide) (by decide) rfl rfl ?_
  repeat' (walk_at "s")
  refine wItemL (.inl h) ho (by decide) (by decide) rfl rfl ?_
  repeat' (walk_at "s")
  refine s_Matrix hr h1 h2 h3 h4 h5 h6 fun r b' l h => ⟨rfl, h⟩
section
variable {S : Sc} {X : Cx S} {b : Base} {led : Led} {vs : Vs} {Q : Post Value}
theorem s_lmatrix {v : Value} {s : Six} (hr : Room X 4) (h : SixAt X.am.w.params b v s) (q : ∀ r b', Le b b' → MatAt X.am.w.params b' r s.mx → Q r b' led vs) : Wp X (call (.ref 817) [v]) b led vs Q :=
  wDef (G := f_law_matrix) X.hh (f_law_matrix_ok X.ok) hr.d (by kernel_rfl) fun L => wMono (b_lmatrix _ hr.sub h) fun fl b' led' _ l ⟨e, h⟩ => by rw [e]; exact q _ _ l h
end
/-! lists of operations that the law makes -/
noncomputable def noS : SRel := fun _ _ _ _ => False
noncomputable def FRep (w : World) (b : Base) (us : List Value) (ops : List Op) : Prop := All2 (OpRep w noS b []) us ops
noncomputable def Ext (kf kf' : List (PySem.Str × Value)) : Prop := (∀ k u, valueAt kf k = some u → valueAt kf' k = some u) ∧ valueAt kf' (PySem.Str.ofString "Z") = none
noncomputable def DRep (w : World) (D : Nat) (b : Base) (kf : List (PySem.Str × Value)) (us : List Value) (ops : List Op) : Prop := ∀ kf', Ext kf kf' → All2 (OpRep w (SheetRep w D) b kf') us ops
noncomputable def Op.plain : Op → Bool
  | .call _ => false
  | .nop => false
  | _ => true
theorem OpRep.plain {w : World} {SR SR' : SRel} {b : Base} {kvs kvs' : List (PySem.Str × Value)} {v : Value} {o : Op} (h : OpRep w SR b kvs v o) (hp : o.plain = true) : OpRep w SR' b kvs' v o := by
  obtain ⟨a, lo, us, h1, h2, h3, h4⟩ := h
  refine ⟨a, lo, us, h1, h2, h3, ?_⟩
  cases o <;> first | exact h4 | cases hp
theorem FRep.mono {w : World} {b b' : Base} {us : List Value} {ops : List Op} (h : FRep w b us ops) (l : Le b b') : FRep w b' us ops := All2.mono h fun _ _ h => h.mono (fun _ _ _ h => h.elim) l
theorem DRep.mono {w : World} {D : Nat} {b b' : Base} {kf : List (PySem.Str × Value)} {us : List Value} {ops : List Op} (h : DRep w D b kf us ops) (l : Le b b') : DRep w D b' kf us ops := fun kf' e => (h kf' e).mono fun _ _ h => h.mono (fun _ _ _ h => SheetRep.mono l D h) l
theorem Ext.trans {k1 k2 k3 : List (PySem.Str × Value)} (h : Ext k1 k2) (k : Ext k2 k3) : Ext k1 k3 := ⟨fun x u e => k.1 _ _ (h.1 _ _ e), k.2⟩
theorem DRep.ext {w : World} {D : Nat} {b : Base} {k1 k2 : List (PySem.Str × Value)} {us : List Value} {ops : List Op} (h : DRep w D b k1 us ops) (e : Ext k1 k2) : DRep w D b k2 us ops := fun k3 e' => h k3 (e.trans e')
theorem FRep.app {w : World} {b : Base} {us us' : List Value} {ops ops' : List Op} (h : FRep w b us ops) (k : FRep w b us' ops') : FRep w b (us ++ us') (ops ++ ops') := All2.app h k
theorem DRep.app {w : World} {D : Nat} {b : Base} {kf : List (PySem.Str × Value)} {us us' : List Value} {ops ops' : List Op} (h : DRep w D b kf us ops) (k : DRep w D b kf us' ops') : DRep w D b kf (us ++ us') (ops ++ ops') := fun kf' e => All2.app (h kf' e) (k kf' e)
theorem FRep.toD {w : World} {D : Nat} {b : Base} {kf : List (PySem.Str × Value)} {us : List Value} {ops : List Op} (h : FRep w b us ops) (hp : ∀ o ∈ ops, o.plain = true) : DRep w D b kf us ops := fun kf' _ => by
  induction h with
  | nil => exact .nil
  | cons h _ ih => exact .cons (h.plain (hp _ (.head _))) (ih fun o ho => hp o (.tail _ ho))
inductive LblockPost (w : World) (f : Obj → Led) (n A : Nat) (fl : Flow) (b' : Base) (led' : Led) : Prop
  | mk (o' : Obj) (r : Addr) (ro : Obj) (us : List Value) (x y : Num) (os : List UInt8) (h1_ : led' = f o') (h2_ : TapeAt b' n (A + 3) o') (h3_ : retOf fl = .ref r) (h4_ : b' r = some ro) (h5_ : IsLO us ro) (h6_ : FRep w b' us (blk x y os)) (h7_ : NOk x) (h8_ : NOk y) (h9_ : os.length ≤ 2) : LblockPost w f n A fl b' led'
theorem b_lblock (Y : Cx f_law_block.sc) {b : Base} {led : Led} {tp : Addr} {o : Obj} {f : Obj → Led} {n A : Nat} (hr : Room Y 2) (hx : LedX led tp o f) (ht : TapeAt b n A o) (hA : A ≤ 90000) :
    Wp Y (execs (bodyOf f_law_block.st) Y.env) b led [some (.ref tp), none, none, none] (fun fl b' led' _ => LblockPost Y.am.w f n A fl b' led') := by
  refine wFz ?_
  walk_at "body"
  repeat' (walk_at "s")
  refine s_draw (hr.le (by decide)) hx ht (by omega) (by decide) fun o1 d t b1 l1 ht1 h0 h1 => ?_
  repeat' (walk_at "s")
  rename_i lx
  have hos : ∀ (t1 t2 t3 t4 t5 t6 t7 t8 t9 : Tok), ∃ (os : List UInt8) (t : Tok), os.length ≤ 2 ∧ [Value.bytes [].toArray t1, .bytes [97].toArray t2, .bytes [98].toArray t3, .bytes [32].toArray t4, .bytes [97, 98].toArray t5, .bytes [98, 32].toArray t6, .bytes [32, 32].toArray t7, .bytes [98, 97].toArray t8, .bytes [99].toArray t9][d.toNat]? = some (.bytes os.toArray t) := by
    intro t1 t2 t3 t4 t5 t6 t7 t8 t9
    have hd : d.toNat < 9 := by omega
    generalize d.toNat = i at hd
    match i, hd with
    | 0, _ => exact ⟨_, _, by decide, rfl⟩
    | 1, _ => exact ⟨_, _, by decide, rfl⟩
    | 2, _ => exact ⟨_, _, by decide, rfl⟩
    | 3, _ => exact ⟨_, _, by decide, rfl⟩
    | 4, _ => exact ⟨_, _, by decide, rfl⟩
    | 5, _ => exact ⟨_, _, by decide, rfl⟩
    | 6, _ => exact ⟨_, _, by decide, rfl⟩
    | 7, _ => exact ⟨_, _, by decide, rfl⟩
    | 8, _ => exact ⟨_, _, by decide, rfl⟩
  obtain ⟨os, ot, hol, hov⟩ := hos _ _ _ _ _ _ _ _ _
  refine wItemL (.inr (.head _)) .mk h0 (by omega) hov rfl ?_
  repeat' (walk_at "s")
  refine wDrop ?_
  refine s_number hr (hx.upd o1) ht1 (by omega) fun o2 v2 x b2 l2 ht2 hv2 hx2 => ?_
  repeat' (walk_at "s")
  refine s_number hr (hx.upd o2) ht2 (by omega) fun o3 v3 y b3 l3 ht3 hv3 hx3 => ?_
  repeat' (walk_at "s")
  refine wFreeze fun b4 l4 h4 => ?_
  repeat' (walk_at "s")
  refine wFreeze fun b5 l5 h5 => ?_
  refine s_Op (hr.le (by decide)) fun r6 b6 l6 h6 => ?_
  repeat' (walk_at "s")
  refine s_Op (hr.le (by decide)) fun r7 b7 l7 h7 => ?_
  repeat' (walk_at "s")
  refine s_String (hr.le (by decide)) fun r8 b8 l8 h8 => ?_
  repeat' (walk_at "s")
  refine wFreeze fun b9 l9 h9 => ?_
  refine s_Op (hr.le (by decide)) fun r10 b10 l10 h10 => ?_
  repeat' (walk_at "s")
  refine wFreeze fun b11 l11 h11 => ?_
  refine s_Op (hr.le (by decide)) fun r12 b12 l12 h12 => ?_
  repeat' (walk_at "s")
  refine .freeze fun b13 l13 h13 => .done ⟨o3, _, _, _, x, y, os, rfl, ht3.mono (by walk_at "sub") (Nat.le_refl _), rfl, h13, .mk, ?_, hx2, hx3, hol⟩
  have a1 := h6.mono (b' := b13) (by walk_at "sub")
  have a2 := h7.mono (b' := b13) (by walk_at "sub")
  have a3 := hv2.mono (b' := b13) (by walk_at "sub")
  have a4 := hv3.mono (b' := b13) (by walk_at "sub")
  have a5 := h10.mono (b' := b13) (by walk_at "sub")
  have a6 := h8.mono (b' := b13) (by walk_at "sub")
  have a7 := h12.mono (b' := b13) (by walk_at "sub")
  have q11 : Le b11 b13 := l12.trans l13
  have q9 : Le b9 b13 := (l10.trans l11).trans q11
  have q5 : Le b5 b13 := (((l6.trans l7).trans l8).trans l9).trans q9
  have q4 : Le b4 b13 := l5.trans q5
  exact .cons ⟨_, _, [], a1, q4 _ _ h4, .mk, rfl⟩ (.cons ⟨_, _, [v2, v3], a2, q5 _ _ h5, .mk, v2, v3, rfl, a3, a4⟩ (.cons ⟨_, _, [r8], a5, q9 _ _ h9, .mk, r8, rfl, a6⟩ (.cons ⟨_, _, [], a7, q11 _ _ h11, .mk, rfl⟩ .nil)))
section
variable {S : Sc} {X : Cx S} {b : Base} {led : Led} {vs : Vs} {Q : Post Value}
theorem s_lblock {tp : Addr} {o : Obj} {f : Obj → Led} {n A : Nat} (hr : Room X 3) (hx : LedX led tp o f) (ht : TapeAt b n A o) (hA : A ≤ 90000)
    (q : ∀ o' r ro us x y os b', Le b b' → TapeAt b' n (A + 3) o' → b' r = some ro → IsLO us ro → FRep X.am.w b' us (blk x y os) → NOk x → NOk y → os.length ≤ 2 → Q (.ref r) b' (f o') vs) : Wp X (call (.ref 824) [.ref tp]) b led vs Q :=
  wDef (G := f_law_block) X.hh (f_law_block_ok X.ok) hr.d (by kernel_rfl) fun L => wMono (b_lblock _ hr.sub hx ht hA) fun fl b' led' _ l ⟨o', r, ro, us, x, y, os, e, h, e2, h1, h2, h3, h4, h5, h6⟩ => by rw [e, e2]; exact q _ _ _ _ _ _ _ _ l h h1 h2 h3 h4 h5 h6
end
/-! the forms' names; the tables -/
noncomputable def keyF (k : Nat) : PySem.Str := PySem.Str.ofString "F" ++ PySem.Str.ofString (toString (k : Int))
noncomputable def keyZ : PySem.Str := PySem.Str.ofString "Z"
theorem keys_apart : ((List.range 8).all fun i => (List.range 8).all fun j => i == j || !(PySem.W.Fast.sEq (keyF i) (keyF j))) = true := by kernel_rfl
theorem keys_noZ : ((List.range 8).all fun i => !(PySem.W.Fast.sEq (keyF i) keyZ)) = true := by kernel_rfl
theorem keyF_ne {i j : Nat} (hi : i < 8) (hj : j < 8) (h : i ≠ j) : keyF i ≠ keyF j := fun e => by
  have := List.all_eq_true.mp (List.all_eq_true.mp keys_apart i (List.mem_range.mpr hi)) j (List.mem_range.mpr hj)
  rw [(PySem.W.Fast.sEq_iff).mpr e] at this
  simp [h] at this
theorem keyF_noZ {i : Nat} (hi : i < 8) : keyF i ≠ keyZ := fun e => by
  have := List.all_eq_true.mp keys_noZ i (List.mem_range.mpr hi)
  rw [(PySem.W.Fast.sEq_iff).mpr e] at this
  cases this
inductive FEnt (w : World) (D E : Nat) (b : Base) (u fv : Value) : Prop
  | mk (own : _) (ops : _) (c : _) (f : _) (fx : _) (fo : _) (us : _) (fops : _) (h1_ : SheetRep w D b u own ops) (h2_ : Mz 16 1 own) (h3_ : fv = .ref fx) (h4_ : b fx = some fo) (h5_ : IsLO us fo) (h6_ : FRep w b us fops) (h7_ : Sem [.call (callG own ops)] c f) (h8_ : Sem fops c f) (h9_ : us.length ≤ 4 * c) (h10_ : 1 ≤ c) (h11_ : c ≤ E) : FEnt w D E b u fv
theorem FEnt.mono {w : World} {D E E' : Nat} {b b' : Base} {u fv : Value} (h : FEnt w D E b u fv) (l : Le b b') (e : E ≤ E') : FEnt w D E' b' u fv :=
  let ⟨own, ops, c, f, fx, fo, us, fops, h1, h2, h3, h4, h5, h6, h7, h8, h9, h10, h11⟩ := h
  ⟨own, ops, c, f, fx, fo, us, fops, SheetRep.mono l D h1, h2, h3, l _ _ h4, h5, h6.mono l, h7, h8, h9, h10, Nat.le_trans h11 e⟩
abbrev KVs := List (PySem.Str × Value)
inductive FF (w : World) (D E : Nat) (b : Base) : Nat → KVs → KVs → Prop
  | nil : FF w D E b 0 [] []
  | snoc {k : Nat} {kf kl : KVs} {u fv : Value} : FF w D E b k kf kl → FEnt w D E b u fv → FF w D E b (k + 1) (kf ++ [(keyF k, u)]) (kl ++ [(keyF k, fv)])
theorem FF.mono {w : World} {D E E' : Nat} {b b' : Base} {k : Nat} {kf kl : KVs} (h : FF w D E b k kf kl) (l : Le b b') (e : E ≤ E') : FF w D E' b' k kf kl := by
  induction h with
  | nil => exact .nil
  | snoc _ h ih => exact .snoc ih (h.mono l e)
theorem FF.len {w : World} {D E : Nat} {b : Base} {k : Nat} {kf kl : KVs} (h : FF w D E b k kf kl) : kf.length = k ∧ kl.length = k := by
  induction h with
  | nil => exact ⟨rfl, rfl⟩
  | snoc _ _ ih => exact ⟨by rw [List.length_append, ih.1]; rfl, by rw [List.length_append, ih.2]; rfl⟩
theorem va_snoc {kf : KVs} {k x : PySem.Str} {u : Value} : valueAt (kf ++ [(k, u)]) x = (valueAt kf x).or (if k = x then some u else none) := by
  unfold valueAt
  rw [List.find?_append]
  cases h : kf.find? fun kv => decide (kv.1 = x) with
  | some p => rfl
  | none =>
    by_cases e : k = x
    · rw [if_pos e]; simp [e]
    · rw [if_neg e]; simp [e]
theorem FF.none_of {w : World} {D E : Nat} {b : Base} {k : Nat} {kf kl : KVs} (h : FF w D E b k kf kl) {x : PySem.Str} (hx : ∀ j < k, keyF j ≠ x) : valueAt kf x = none ∧ valueAt kl x = none := by
  induction h with
  | nil => exact ⟨rfl, rfl⟩
  | @snoc k kf kl u fv _ _ ih =>
    have i := ih fun j hj => hx j (Nat.lt_succ_of_lt hj)
    rw [va_snoc, va_snoc, i.1, i.2, if_neg (hx k (Nat.lt_succ_self k)), if_neg (hx k (Nat.lt_succ_self k))]
    exact ⟨rfl, rfl⟩
theorem FF.new {w : World} {D E : Nat} {b : Base} {k : Nat} {kf kl : KVs} (h : FF w D E b k kf kl) (hk : k ≤ 6) : valueAt kf (keyF k) = none ∧ valueAt kl (keyF k) = none := h.none_of fun j hj => keyF_ne (by omega) (by omega) (by omega)
theorem FF.noZ {w : World} {D E : Nat} {b : Base} {k : Nat} {kf kl : KVs} (h : FF w D E b k kf kl) (hk : k ≤ 6) : valueAt kf keyZ = none ∧ valueAt kl keyZ = none := h.none_of fun j hj => keyF_noZ (by omega)
theorem FF.find {w : World} {D E : Nat} {b : Base} {k : Nat} {kf kl : KVs} (h : FF w D E b k kf kl) (x : PySem.Str) : (valueAt kf x = none ∧ valueAt kl x = none) ∨ ∃ u fv, valueAt kf x = some u ∧ valueAt kl x = some fv ∧ FEnt w D E b u fv := by
  induction h with
  | nil => exact .inl ⟨rfl, rfl⟩
  | @snoc k kf kl u fv _ he ih =>
    rcases ih with ⟨h1, h2⟩ | ⟨u', fv', h1, h2, h3⟩
    · rw [va_snoc, va_snoc, h1, h2]
      by_cases e : keyF k = x
      · exact .inr ⟨u, fv, by rw [if_pos e]; rfl, by rw [if_pos e]; rfl, he⟩
      · exact .inl ⟨by rw [if_neg e]; rfl, by rw [if_neg e]; rfl⟩
    · rw [va_snoc, va_snoc, h1, h2]
      exact .inr ⟨u', fv', rfl, rfl, h3⟩
theorem FF.self {w : World} {D E : Nat} {b : Base} {k : Nat} {kf kl : KVs} (h : FF w D E b k kf kl) (hk : k ≤ 6) : Ext kf kf := ⟨fun _ _ e => e, (h.noZ hk).1⟩
theorem FF.grow {w : World} {D E : Nat} {b : Base} {k : Nat} {kf kl : KVs} {u : Value} (h : FF w D E b k kf kl) (hk : k ≤ 6) : Ext kf (kf ++ [(keyF k, u)]) := by
  refine ⟨fun x v e => by rw [va_snoc, e]; rfl, ?_⟩
  show valueAt _ keyZ = none
  rw [va_snoc, (h.noZ hk).1, if_neg (keyF_noZ (by omega))]; rfl
noncomputable def Wn (n : Nat) : Nat := 4 * 2 ^ (6 - n)
theorem Wn_succ {n : Nat} (h : n + 1 ≤ 6) : Wn n = 2 * Wn (n + 1) := by
  unfold Wn
  rw [show 6 - n = (6 - (n + 1)) + 1 by omega, Nat.pow_succ]; omega
theorem Wn_mono {n n' : Nat} (h : n' ≤ n) : Wn n ≤ Wn n' := by
  unfold Wn
  exact Nat.mul_le_mul_left 4 (Nat.pow_le_pow_right (by decide) (by omega))
theorem Wn_lo (n : Nat) : 4 ≤ Wn n := by
  unfold Wn
  have := Nat.two_pow_pos (6 - n)
  omega
theorem Wn_hi (n : Nat) : Wn n ≤ 256 := by
  unfold Wn
  have : 2 ^ (6 - n) ≤ 2 ^ 6 := Nat.pow_le_pow_right (by decide) (by omega)
  omega
noncomputable def TS (w : World) (D E : Nat) (b : Base) (n A k : Nat) (kf kl : KVs) (fo fl : Addr) (to foo flo : Obj) : Prop := TapeAt b n A to ∧ SD w fo kf foo ∧ SD w fl kl flo ∧ FF w D E b k kf kl
theorem TS.mono {w : World} {D E E' : Nat} {b b' : Base} {n A k : Nat} {kf kl : KVs} {fo fl : Addr} {to foo flo : Obj} (h : TS w D E b n A k kf kl fo fl to foo flo) (l : Le b b') (e : E ≤ E') : TS w D E' b' n A k kf kl fo fl to foo flo := ⟨h.1.mono l (Nat.le_refl _), h.2.1, h.2.2.1, h.2.2.2.mono l e⟩
inductive ResAt (w : World) (D : Nat) (b : Base) (kf : KVs) (v : Value) (c : Nat) : Prop
  | mk (r : _) (kk : _) (a1 : _) (o1 : _) (us1 : _) (a2 : _) (o2 : _) (us2 : _) (ops1 : _) (ops2 : _) (f : _) (h1_ : v = .ref r) (h2_ : b r = some (TO [.ref a1, .ref a2] kk)) (h3_ : b a1 = some o1) (h4_ : IsLO us1 o1) (h5_ : b a2 = some o2) (h6_ : IsLO us2 o2) (h7_ : DRep w D b kf us1 ops1) (h8_ : FRep w b us2 ops2) (h9_ : Sem ops1 c f) (h10_ : Sem ops2 c f) (h11_ : us1.length ≤ 4 * c) (h12_ : us2.length ≤ 4 * c) : ResAt w D b kf v c
noncomputable def ItemsIH (d : Nat) : Prop := ∀ {S : Sc} {X : Cx S} {b : Base} {led : Led} {vs : Vs} {Q : Post Value} {tp fo fl : Addr} {to foo flo : Obj} {lv : Int} {tl : Tok} {fv : Value} {n A k D : Nat} {kf kl : KVs}, Room X (20 + 4 * d) → 3 - lv ≤ d → d ≤ D → FontsAt X.am.w b fv →
  TS X.am.w D (Wn n) b n A k kf kl fo fl to foo flo → k + n ≤ 6 → A + 200 * n ≤ 10000 →
  (∀ v b' to' foo' flo' n' A' k' kf' kl' c, Le b b' → TS X.am.w D (Wn n') b' n' A' k' kf' kl' fo fl to' foo' flo' → k' + n' ≤ 6 → n' ≤ n → A' + 200 * n' ≤ A + 200 * n + 1 → Ext kf kf' → ResAt X.am.w D b' kf' v c → c + Wn n ≤ Wn n' → Q v b' ((tp, to') :: (fo, foo') :: (fl, flo') :: led) vs) →
  Wp X (call (.ref 845) [.ref tp, .int lv tl, fv, .ref fo, .ref fl]) b ((tp, to) :: (fo, foo) :: (fl, flo) :: led) vs Q
/-! a form is made -/
theorem keys_len : ((List.range 8).all fun k => decide ((PySem.Str.ofString "F").length + (PySem.Str.ofString (toString (k : Int))).length ≤ 100)) = true := by kernel_rfl
theorem key_len {k : Nat} (h : k < 8) : (PySem.Str.ofString "F").length + (PySem.Str.ofString (toString (k : Int))).length ≤ sizeLine := by
  have := of_decide_eq_true (List.all_eq_true.mp keys_len k (List.mem_range.mpr h))
  exact Nat.le_trans this (by simp [sizeLine])
theorem log_small {k : Nat} (h : k < 8) : ((k : Int)).natAbs.log2 < 1920 := by
  rw [Int.natAbs_natCast]
  rcases Nat.eq_zero_or_pos k with e | e
  · subst e; decide
  · exact Nat.lt_of_lt_of_le ((Nat.log2_lt (by lia)).mpr (show k < 2 ^ 3 by lia)) (by decide)
inductive LformPost (w : World) (D n A k : Nat) (kf kl : KVs) (tp fo fl : Addr) (led : Led) (fr : Flow) (b' : Base) (led' : Led) : Prop
  | mk (to' foo' flo' : Obj) (n' A' : Nat) (u uv : Value) (c : Nat) (t : Tok) (h1_ : led' = (tp, to') :: (fo, foo') :: (fl, flo') :: led) (h2_ : TS w (D + 1) (Wn n') b' n' A' (k + 1) (kf ++ [(keyF k, u)]) (kl ++ [(keyF k, uv)]) fo fl to' foo' flo') (h3_ : n' ≤ n)
      (h4_ : A' + 200 * n' ≤ A + 200 * n + 8) (h5_ : FEnt w (D + 1) c b' u uv) (h6_ : c + Wn n ≤ Wn n' + 2) (h7_ : retOf fr = .str (keyF k) t) : LformPost w D n A k kf kl tp fo fl led fr b' led'
theorem b_lform {d : Nat} (ih : ItemsIH d) (Y : Cx f_law_form.sc) {b : Base} {led : Led} {tp fo fl : Addr} {to foo flo : Obj} {lv : Int} {tl : Tok} {fv : Value} {n A k D E : Nat} {kf kl : KVs} (hr : Room Y (20 + 4 * d)) (hlv : 3 - (lv + 1) ≤ d) (hD : d ≤ D) (hfo : FontsAt Y.am.w b fv)
    (h : TS Y.am.w (D + 1) E b n A k kf kl fo fl to foo flo) (hA : A + 200 * n ≤ 9900) (hE : E ≤ Wn n) (hn : n ≤ 6) (hk : k + n ≤ 5) :
    Wp Y (execs (bodyOf f_law_form.st) Y.env) b ((tp, to) :: (fo, foo) :: (fl, flo) :: led) [some (.ref tp), some (.int lv tl), some fv, some (.ref fo), some (.ref fl), none, none, none, none, none]
      (fun fr b' led' _ => LformPost Y.am.w D n A k kf kl tp fo fl led fr b' led') := by
  obtain ⟨ht, hsf, hsl, hff⟩ := h
  obtain ⟨ln1, ln2⟩ := hff.len
  obtain ⟨fx, fob, ffv, rfl, _⟩ := id hfo
  refine wFz ?_
  walk_at "body"
  repeat' (walk_at "s")
  refine s_six (hr.le (by first | exact Nat.le_add_right_of_le (by decide) | lia)) .here ht (by lia) fun to1 sv s b1 l1 ht1 hsix hsok => ?_
  repeat' (walk_at "s")
  refine wLenD (.inr (.tail _ (.head _))) hsf (by lia) fun _ => ?_
  rw [ln1]
  repeat' (walk_at "s")
  refine wStrInt (log_small (by lia)) fun _ => ?_
  repeat' (walk_at "s")
  refine wAddS (key_len (by lia)) fun wt => ?_
  rw [show PySem.Str.ofString "F" ++ PySem.Str.ofString (toString (k : Int)) = keyF k from rfl]
  repeat' (walk_at "s")
  refine wNewDict fun ix io hio => ?_
  repeat' (walk_at "s")
  refine wNewDict fun jx jo hjo => ?_
  repeat' (walk_at "s")
  refine wPerm (led' := (tp, to1) :: (ix, io) :: (jx, jo) :: (fo, foo) :: (fl, flo) :: led) ((List.perm_append_comm (l₁ := [(jx, jo), (ix, io)]) (l₂ := [(tp, to1)])).append_right _ |>.trans (.cons _ (.swap _ _ _))) ?_
  refine ih hr (lv := lv + 1) hlv hD (hfo.mono l1) (n := n) (A := A + 6) (k := 0) (kf := []) (kl := []) ⟨ht1, hio, hjo, .nil⟩ (by lia) (by lia) fun v b2 to2 io2 jo2 n2 A2 k2 kf2 kl2 c l2 hT2 hk2 hn2 hA2 hext hres hc2 => ?_
  obtain ⟨ht2, hsf2, hsl2, hff2⟩ := hT2
  obtain ⟨r, kk, a1, o1, us1, a2, o2, us2, ops1, ops2, f, rfl, hr2, ha1, ho1, ha2, ho2, hd1, hf2, hs1, hs2, hl1, hl2⟩ := hres
  refine wPerm (led' := (ix, io2) :: (jx, jo2) :: (tp, to2) :: (fo, foo) :: (fl, flo) :: led) ((List.perm_append_comm (l₁ := [(tp, to2)]) (l₂ := [(ix, io2), (jx, jo2)])).append_right _) ?_
  refine wFreeze fun b3 l3 hix => wDrop ?_
  have hr3 := l3 _ _ hr2
  repeat' (walk_at "s")
  refine s_lmatrix (hr.le (by first | exact Nat.le_add_right_of_le (by decide) | lia)) (hsix.mono (l2.trans l3)) fun mv b4 l4 hmv => ?_
  repeat' (walk_at "s")
  refine s_Sheet (hr.le (by first | exact Nat.le_add_right_of_le (by decide) | lia)) fun u b5 t1 t2 t3 t4 l5 hu => ?_
  repeat' (walk_at "s")
  refine wSetItemD (by walk_at "led") hsf (by lia) fun foo' hsf' => ?_
  rw [stored_absent (hff.new (by lia)).1] at hsf'
  repeat' (walk_at "s")
  refine wFreeze fun b6 l6 h6 => ?_
  refine s_Op (hr.le (by first | exact Nat.le_add_right_of_le (by decide) | lia)) fun r7 b7 l7 h7 => ?_
  obtain ⟨sx, so, w1, w2, w3, w4, w5, w6, rfl, hsx, hso, hn1, hn2', hn3, hn4, hn5, hn6⟩ := id hsix
  repeat' (walk_at "s")
  refine s_Op (hr.le (by first | exact Nat.le_add_right_of_le (by decide) | lia)) fun r8 b8 l8 h8 => ?_
  repeat' (walk_at "s")
  have l25 : Le b2 b5 := (l3.trans l4).trans l5
  have l28 : Le b2 b8 := ((l25.trans l6).trans l7).trans l8
  have hw := Wn_hi n2
  refine wAddL (.inr (.head _)) .mk (.inl (l28 _ _ ha2)) ho2 (by simp [sizeLine]; lia) fun r9 => ?_
  repeat' (walk_at "s")
  refine wFreeze fun b9 l9 h9 => ?_
  refine s_Op (hr.le (by first | exact Nat.le_add_right_of_le (by decide) | lia)) fun r10 b10 l10 h10 => ?_
  repeat' (walk_at "s")
  refine wAddL (.inr (.tail _ (.head _))) .mk (.inr (.head _)) .mk (by simp [sizeLine]; lia) fun r11 => ?_
  repeat' (walk_at "s")
  refine wSetItemD (by walk_at "led") hsl (by lia) fun flo' hsl' => ?_
  rw [stored_absent (hff.new (by lia)).2] at hsl'
  repeat' (walk_at "s")
  refine .freeze fun b11 l11 h11 => .drop (.drop (.drop (.done ?_)))
  have q12 : Le b10 b11 := l11
  have q91 : Le b9 b11 := l10.trans q12
  have q81 : Le b8 b11 := l9.trans q91
  have q71 : Le b7 b11 := l8.trans q81
  have q61 : Le b6 b11 := l7.trans q71
  have q51 : Le b5 b11 := l6.trans q61
  have q41 : Le b4 b11 := l5.trans q51
  have q31 : Le b3 b11 := l4.trans q41
  have q21 : Le b2 b11 := l3.trans q31
  have q11 : Le b1 b11 := l2.trans q21
  have q01 : Le b b11 := l1.trans q11
  have hent : FEnt Y.am.w (D + 1) (c + 2) b11 u (.ref r11) := by
    refine ⟨s.mx, ops1, c + 2, _, r11, _, _, [.q, .cm s] ++ ops2 ++ [.Q], ⟨a1, o1, us1, .ref fx, ix, io2, kf2, mv, ⟨t1, t2, t3, t4, hu.mono q51⟩, q21 _ _ ha1, ho1, hfo.mono q01, q31 _ _ hix, hsf2, hmv.mono q41, hd1.mono q21 kf2 (hff2.self (by lia))⟩, hsok.sz, rfl, h11, .mk, ?_, hs1.call hsok.sz, hs2.form hsok.sz, ?_, by lia, Nat.le_refl _⟩
    · exact ((All2.cons ⟨_, _, [], h7.mono q71, q61 _ _ h6, .mk, rfl⟩ (.cons ⟨sx, so, _, h8.mono q81, q11 _ _ hsx, hso, _, _, _, _, _, _, rfl, hn1.mono q11, hn2'.mono q11, hn3.mono q11, hn4.mono q11, hn5.mono q11, hn6.mono q11⟩ .nil)).app (hf2.mono q21)).app (.cons ⟨_, _, [], h10.mono q12, q91 _ _ h9, .mk, rfl⟩ .nil)
    · simp; lia
  refine ⟨to2, foo', flo', n2, A2, u, .ref r11, c + 2, wt, rfl, ⟨ht2.mono q21 (Nat.le_refl _), hsf', hsl', .snoc (hff.mono q01 (Nat.le_trans hE (Wn_mono hn2))) (hent.mono .rfl ?_)⟩, hn2, by lia, hent, by lia, rfl⟩
  have := Wn_lo n
  lia
section
variable {S : Sc} {X : Cx S} {b : Base} {led : Led} {vs : Vs} {Q : Post Value}
theorem s_lform {d : Nat} (ih : ItemsIH d) {tp fo fl : Addr} {to foo flo : Obj} {lv : Int} {tl : Tok} {fv : Value} {n A k D E : Nat} {kf kl : KVs} (hr : Room X (20 + 4 * d + 1)) (hlv : 3 - (lv + 1) ≤ d) (hD : d ≤ D) (hfo : FontsAt X.am.w b fv)
    (h : TS X.am.w (D + 1) E b n A k kf kl fo fl to foo flo) (hA : A + 200 * n ≤ 9900) (hE : E ≤ Wn n) (hn : n ≤ 6) (hk : k + n ≤ 5)
    (q : ∀ to' foo' flo' n' A' u uv c t b', Le b b' → TS X.am.w (D + 1) (Wn n') b' n' A' (k + 1) (kf ++ [(keyF k, u)]) (kl ++ [(keyF k, uv)]) fo fl to' foo' flo' → n' ≤ n → A' + 200 * n' ≤ A + 200 * n + 8 → FEnt X.am.w (D + 1) c b' u uv → c + Wn n ≤ Wn n' + 2 → Q (.str (keyF k) t) b' ((tp, to') :: (fo, foo') :: (fl, flo') :: led) vs) :
    Wp X (call (.ref 831) [.ref tp, .int lv tl, fv, .ref fo, .ref fl]) b ((tp, to) :: (fo, foo) :: (fl, flo) :: led) vs Q :=
  wDef (G := f_law_form) X.hh (f_law_form_ok X.ok) hr.d (by kernel_rfl) fun L => wMono (b_lform ih _ hr.sub hlv hD hfo h hA hE hn hk) fun fr b' led' _ l ⟨to', foo', flo', n', A', u, uv, c, t, e, h1, h2, h3, h4, h5, e2⟩ => by rw [e, e2]; exact q _ _ _ _ _ _ _ _ _ _ l h1 h2 h3 h4 h5
end
theorem blk_plain (x y : Num) (os : List UInt8) : ∀ o ∈ blk x y os, o.plain = true := fun o ho => by
  unfold blk at ho
  simp only [List.mem_cons, List.not_mem_nil, or_false] at ho
  rcases ho with rfl | rfl | rfl | rfl <;> rfl
theorem key_of {d : Int} (h0 : 0 ≤ d) : PySem.Str.ofString "F" ++ PySem.Str.ofString (toString d) = keyF d.toNat := by
  unfold keyF
  rw [Int.toNat_of_nonneg h0]
inductive LitemPost (w : World) (D n A : Nat) (kf : KVs) (tp fo fl : Addr) (led : Led) (fr : Flow) (b' : Base) (led' : Led) : Prop
  | mk (to' foo' flo' : Obj) (n' A' k' : Nat) (kf' kl' : KVs) (c : Nat) (h1_ : led' = (tp, to') :: (fo, foo') :: (fl, flo') :: led) (h2_ : TS w D (Wn n') b' n' A' k' kf' kl' fo fl to' foo' flo') (h3_ : k' + n' ≤ 6) (h4_ : n' ≤ n)
      (h5_ : A' + 200 * n' ≤ A + 200 * n + 20) (h6_ : Ext kf kf') (h7_ : ResAt w D b' kf' (retOf fr) c) (h8_ : c + Wn n ≤ Wn n' + Wn (n + 1)) : LitemPost w D n A kf tp fo fl led fr b' led'
theorem b_litem {d : Nat} (Y : Cx f_law_item.sc) {b : Base} {led : Led} {tp fo fl : Addr} {to foo flo : Obj} {lv : Int} {tl : Tok} {fv : Value} {n A k D : Nat} {kf kl : KVs} (ih : lv < 3 → ∃ d', d = d' + 1 ∧ ItemsIH d') (hr : Room Y (18 + 4 * d)) (hlv : 3 - lv ≤ d) (hD : d ≤ D) (hfo : FontsAt Y.am.w b fv)
    (h : TS Y.am.w D (Wn (n + 1)) b n A k kf kl fo fl to foo flo) (hA : A + 200 * n ≤ 9850) (hn : n + 1 ≤ 6) (hk : k + n ≤ 5) :
    Wp Y (execs (bodyOf f_law_item.st) Y.env) b ((tp, to) :: (fo, foo) :: (fl, flo) :: led) [some (.ref tp), some (.int lv tl), some fv, some (.ref fo), some (.ref fl), none, none, none, none, none]
      (fun fr b' led' _ => LitemPost Y.am.w D n A kf tp fo fl led fr b' led') := by
  obtain ⟨ht, hsf, hsl, hff⟩ := h
  obtain ⟨ln1, ln2⟩ := hff.len
  have hW1 := Wn_lo (n + 1)
  have hWs := Wn_succ (n := n) hn
  refine wFz ?_
  walk_at "body"
  repeat' (walk_at "s")
  refine s_draw (hr.le (by first | exact Nat.le_add_right_of_le (by decide) | lia)) .here ht (by lia) (by decide) fun o1 kd t b1 l1 ht1 h0 h7 => ?_
  repeat' (walk_at "s")
  refine ite_of (fun k1 => ?_) (fun k1 => ?_)
  · repeat' (walk_at "s")
    refine s_six (hr.le (by first | exact Nat.le_add_right_of_le (by decide) | lia)) .here ht1 (by lia) fun o2 sv s b2 l2 ht2 hsix hsok => ?_
    obtain ⟨sx, so, w1, w2, w3, w4, w5, w6, rfl, hsx, hso, hn1, hn2', hn3, hn4, hn5, hn6⟩ := id hsix
    repeat' (walk_at "s")
    refine s_Op (hr.le (by first | exact Nat.le_add_right_of_le (by decide) | lia)) fun r3 b3 l3 h3 => ?_
    repeat' (walk_at "s")
    have hus : ∀ {b' : Base}, Le b3 b' → FRep Y.am.w b' [r3] [.cm s] := fun l => .cons ⟨sx, so, _, h3.mono l, (l3.trans l) _ _ hsx, hso, _, _, _, _, _, _, rfl, hn1.mono (l3.trans l), hn2'.mono (l3.trans l), hn3.mono (l3.trans l), hn4.mono (l3.trans l), hn5.mono (l3.trans l), hn6.mono (l3.trans l)⟩ .nil
    refine .freeze fun b4 l4 h4 => .freeze fun b5 l5 h5 => .done ⟨o2, foo, flo, n, A + 1 + 6, k, kf, kl, 1, rfl, ⟨ht2.mono ((l3.trans l4).trans l5) (Nat.le_refl _), hsf, hsl, hff.mono ((((l1.trans l2).trans l3).trans l4).trans l5) (Wn_mono (Nat.le_succ n))⟩, by lia, Nat.le_refl _, by lia, hff.self (by lia), ⟨_, _, _, _, [r3], _, _, [r3], _, _, _, rfl, l5 _ _ h4, h5, .mk, h5, .mk, (hus (l4.trans l5)).toD (by intro o ho; rw [List.mem_singleton.mp ho]; rfl), hus (l4.trans l5), Sem.cm hsok.sz, Sem.cm hsok.sz, by show 1 ≤ 4; decide, by show 1 ≤ 4; decide⟩, by lia⟩
  repeat' (walk_at "s")
  have mono1 : ∀ {b' : Base}, Le b1 b' → FF Y.am.w D (Wn n) b' k kf kl := fun l => hff.mono (l1.trans l) (Wn_mono (Nat.le_succ n))
  refine ite_of (fun k2 => ?_) (fun k2 => ?_)
  · repeat' (walk_at "s")
    refine ite_of (fun hl => ?_) (fun hl => ?_)
    · obtain ⟨d', rfl, ih2⟩ := ih (of_decide_eq_true hl)
      repeat' (walk_at "s")
      refine ih2 (hr.le (by first | exact Nat.le_add_right_of_le (by decide) | lia)) (lv := lv + 1) (by lia) (by lia) (hfo.mono l1) (n := n) (A := A + 1) (k := k) (D := D) ⟨ht1, hsf, hsl, mono1 .rfl⟩ (by lia) (by lia) fun v b2 to2 foo2 flo2 n2 A2 k2 kf2 kl2 c l2 hT2 hk2 hn2 hA2 hext hres hc2 => ?_
      obtain ⟨r, kk, a1, o1', us1, a2, o2', us2, ops1, ops2, f, rfl, hr2, ha1, ho1, ha2, ho2, hd1, hf2, hs1, hs2, hl1, hl2⟩ := hres
      have hw := Wn_hi n2
      repeat' (walk_at "s")
      refine wFreeze fun b3 l3 h3 => ?_
      refine s_Op (hr.le (by first | exact Nat.le_add_right_of_le (by decide) | lia)) fun r4 b4 l4 h4 => ?_
      repeat' (walk_at "s")
      refine wAddL (.inr (.head _)) .mk (.inl ((l3.trans l4) _ _ ha1)) ho1 (by simp [sizeLine]; lia) fun r5 => ?_
      repeat' (walk_at "s")
      refine wFreeze fun b6 l6 h6 => ?_
      refine s_Op (hr.le (by first | exact Nat.le_add_right_of_le (by decide) | lia)) fun r7 b7 l7 h7' => ?_
      repeat' (walk_at "s")
      refine wAddL (.inr (.tail _ (.head _))) .mk (.inr (.head _)) .mk (by simp [sizeLine]; lia) fun r8 => ?_
      repeat' (walk_at "s")
      refine wFreeze fun b9 l9 h9 => ?_
      refine s_Op (hr.le (by first | exact Nat.le_add_right_of_le (by decide) | lia)) fun r10 b10 l10 h10 => ?_
      repeat' (walk_at "s")
      have l2x : Le b2 b10 := (((((l3.trans l4).trans l6).trans l7).trans l9).trans l10)
      refine wAddL (.inr (.head _)) .mk (.inl (l2x _ _ ha2)) ho2 (by simp [sizeLine]; lia) fun r11 => ?_
      repeat' (walk_at "s")
      refine wFreeze fun b12 l12 h12 => ?_
      refine s_Op (hr.le (by first | exact Nat.le_add_right_of_le (by decide) | lia)) fun r13 b13 l13 h13 => ?_
      repeat' (walk_at "s")
      refine wAddL (.inr (.tail _ (.head _))) .mk (.inr (.head _)) .mk (by simp [sizeLine]; lia) fun r14 => ?_
      repeat' (walk_at "s")
      refine .freeze fun b15 l15 h15 => .freeze fun b16 l16 h16 => .drop (.drop (.drop (.freeze fun b17 l17 h17 => .drop (.drop (.drop (.done ?_))))))
      have p17 : Le b16 b17 := l17
      have p16 : Le b15 b17 := l16.trans p17
      have p13 : Le b13 b17 := l15.trans p16
      have p12 : Le b12 b17 := l13.trans p13
      have p10 : Le b10 b17 := l12.trans p12
      have p9 : Le b9 b17 := l10.trans p10
      have p7 : Le b7 b17 := l9.trans p9
      have p6 : Le b6 b17 := l7.trans p7
      have p4 : Le b4 b17 := l6.trans p6
      have p3 : Le b3 b17 := l4.trans p4
      have p2 : Le b2 b17 := l3.trans p3
      refine ⟨to2, foo2, flo2, n2, A2, k2, kf2, kl2, c + 1, rfl, hT2.mono p2 (Nat.le_refl _), hk2, hn2, by lia, hext, ⟨_, _, _, _, _, _, _, _, [.q] ++ ops1 ++ [.Q], [.q] ++ ops2 ++ [.Q], _, rfl, p16 _ _ h15, h17, .mk, p17 _ _ h16, .mk, ?_, ?_, hs1.group, hs2.group, ?_, ?_⟩, by lia⟩
      · exact (DRep.app (FRep.toD (ops := [.q]) (.cons ⟨_, _, [], h4.mono p4, p3 _ _ h3, .mk, rfl⟩ .nil) (by intro o ho; rw [List.mem_singleton.mp ho]; rfl)) (hd1.mono p2)).app (FRep.toD (ops := [.Q]) (.cons ⟨_, _, [], h7'.mono p7, p6 _ _ h6, .mk, rfl⟩ .nil) (by intro o ho; rw [List.mem_singleton.mp ho]; rfl))
      · exact (FRep.app (us := [r10]) (ops := [.q]) (.cons ⟨_, _, [], h10.mono p10, p9 _ _ h9, .mk, rfl⟩ .nil) (hf2.mono p2)).app (us' := [r13]) (ops' := [.Q]) (.cons ⟨_, _, [], h13.mono p13, p12 _ _ h12, .mk, rfl⟩ .nil)
      · simp; lia
      · simp; lia
    · have e2 : kd = 2 := beq_iff_eq.mp k2
      subst e2
      repeat' (walk_at "s")
      refine s_lblock (hr.le (by first | exact Nat.le_add_right_of_le (by decide) | lia)) .here ht1 (by lia) fun o2 r ro us x y os b2 l2 ht2 hr2 hro hus hx hy hos => ?_
      repeat' (walk_at "s")
      refine .freeze fun b3 l3 h3 => .done ⟨o2, foo, flo, n, A + 1 + 3, k, kf, kl, 1, rfl, ⟨ht2.mono l3 (Nat.le_refl _), hsf, hsl, hff.mono ((l1.trans l2).trans l3) (Wn_mono (Nat.le_succ n))⟩, by lia, Nat.le_refl _, by lia, hff.self (by lia), ⟨_, _, r, ro, us, r, ro, us, _, _, _, rfl, h3, l3 _ _ hr2, hro, l3 _ _ hr2, hro, (hus.mono l3).toD (blk_plain _ _ _), hus.mono l3, Sem.blk hx.1 hy.1 hos, Sem.blk hx.1 hy.1 hos, by rw [hus.len]; exact Nat.le_of_ble_eq_true rfl, by rw [hus.len]; exact Nat.le_of_ble_eq_true rfl⟩, by lia⟩
  repeat' (walk_at "s")
  refine ite_of (fun k3 => ?_) (fun k3 => ?_)
  · repeat' (walk_at "s")
    refine ite_of (fun hl => ?_) (fun hl => ?_)
    · obtain ⟨d', rfl, ih2⟩ := ih (of_decide_eq_true hl)
      obtain ⟨D', rfl⟩ : ∃ D', D = D' + 1 := ⟨D - 1, by lia⟩
      repeat' (walk_at "s")
      refine s_lform ih2 (hr.le (by first | exact Nat.le_add_right_of_le (by decide) | lia)) (lv := lv) (by lia) (by lia) (hfo.mono l1) (n := n) (A := A + 1) (k := k) (D := D') (E := Wn n) ⟨ht1, hsf, hsl, mono1 .rfl⟩ (by lia) (Nat.le_refl _) (by lia) (by lia) fun to2 foo2 flo2 n2 A2 u uv c wt b2 l2 hT2 hn2 hA2 hent hc2 => ?_
      obtain ⟨ht2, hsf2, hsl2, hff2⟩ := hT2
      have hnew := hff.new (k := k) (by lia)
      have hvu : valueAt (kf ++ [(keyF k, u)]) (keyF k) = some u := by rw [va_snoc, hnew.1, if_pos rfl]; rfl
      have hvl : valueAt (kl ++ [(keyF k, uv)]) (keyF k) = some uv := by rw [va_snoc, hnew.2, if_pos rfl]; rfl
      obtain ⟨own, ops, c0, f, fx, fob, us, fops, g1, g2, rfl, g4, g5, g6, g7, g8, g9, g10, g11⟩ := hent
      repeat' (walk_at "s")
      refine s_Name (hr.le (by first | exact Nat.le_add_right_of_le (by decide) | lia)) fun nv b3 l3 hnv => ?_
      repeat' (walk_at "s")
      refine wFreeze fun b4 l4 h4 => ?_
      refine s_Op (hr.le (by first | exact Nat.le_add_right_of_le (by decide) | lia)) fun r5 b5 l5 h5 => ?_
      repeat' (walk_at "s")
      refine wItemD (.inr (.tail _ (.tail _ (.tail _ (.head _))))) hsl2 hvl rfl ?_
      repeat' (walk_at "s")
      refine .freeze fun b6 l6 h6 => .freeze fun b7 l7 h7' => .done ?_
      have p7 : Le b6 b7 := l7
      have p5 : Le b5 b7 := l6.trans p7
      have p4 : Le b4 b7 := l5.trans p5
      have p3 : Le b3 b7 := l4.trans p4
      have p2 : Le b2 b7 := l3.trans p3
      refine ⟨to2, foo2, flo2, n2, A2, k + 1, _, _, c0, rfl, ⟨ht2.mono p2 (Nat.le_refl _), hsf2, hsl2, hff2.mono p2 (Nat.le_refl _)⟩, by lia, hn2, by lia, hff.grow (by lia), ⟨_, _, _, _, _, fx, _, us, [.call (callG own ops)], fops, f, rfl, p7 _ _ h6, h7', .mk, p2 _ _ g4, g5, ?_, g6.mono p2, g7, g8, by show 1 ≤ 4 * c0; lia, g9⟩, by lia⟩
      intro kf' e
      exact .cons ⟨_, _, [nv], h5.mono p5, p4 _ _ h4, .mk, nv, keyF k, u, own, ops, rfl, hnv.mono p3, e.1 _ _ hvu, SheetRep.mono p2 _ g1, g2, rfl⟩ .nil
    · have e3 : kd = 3 := beq_iff_eq.mp k3
      subst e3
      repeat' (walk_at "s")
      refine s_lblock (hr.le (by first | exact Nat.le_add_right_of_le (by decide) | lia)) .here ht1 (by lia) fun o2 r ro us x y os b2 l2 ht2 hr2 hro hus hx hy hos => ?_
      repeat' (walk_at "s")
      refine .freeze fun b3 l3 h3 => .done ⟨o2, foo, flo, n, A + 1 + 3, k, kf, kl, 1, rfl, ⟨ht2.mono l3 (Nat.le_refl _), hsf, hsl, hff.mono ((l1.trans l2).trans l3) (Wn_mono (Nat.le_succ n))⟩, by lia, Nat.le_refl _, by lia, hff.self (by lia), ⟨_, _, r, ro, us, r, ro, us, _, _, _, rfl, h3, l3 _ _ hr2, hro, l3 _ _ hr2, hro, (hus.mono l3).toD (blk_plain _ _ _), hus.mono l3, Sem.blk hx.1 hy.1 hos, Sem.blk hx.1 hy.1 hos, by rw [hus.len]; exact Nat.le_of_ble_eq_true rfl, by rw [hus.len]; exact Nat.le_of_ble_eq_true rfl⟩, by lia⟩
  repeat' (walk_at "s")
  refine ite_of (fun k4 => ?_) (fun k4 => ?_)
  · repeat' (walk_at "s")
    refine s_draw (hr.le (by first | exact Nat.le_add_right_of_le (by decide) | lia)) (.there .here) ht1 (by lia) (by decide) fun o2 kd2 t2 b2 l2 ht2 g0 g3 => ?_
    have hsp : ∀ (t1 t2 t3 : Tok), ∃ (sk : SpK) (t : Tok), [Value.str (PySem.Str.ofString "Tc") t1, .str (PySem.Str.ofString "Tz") t2, .str (PySem.Str.ofString "Ts") t3][kd2.toNat]? = some (.str (PySem.Str.ofString sk.word) t) := by
      intro t1 t2 t3
      have hd : kd2.toNat < 3 := by lia
      generalize kd2.toNat = i at hd
      match i, hd with
      | 0, _ => exact ⟨.tc, _, rfl⟩
      | 1, _ => exact ⟨.tz, _, rfl⟩
      | 2, _ => exact ⟨.ts, _, rfl⟩
    obtain ⟨sk, st, hsk⟩ := hsp _ _ _
    repeat' (walk_at "s")
    refine wItemT (.inr (.head _)) g0 (by lia) hsk rfl ?_
    repeat' (walk_at "s")
    refine wDrop ?_
    refine s_number (hr.le (by first | exact Nat.le_add_right_of_le (by decide) | lia)) .here ht2 (by lia) fun o3 nv nn b3 l3 ht3 hnv hnok => ?_
    repeat' (walk_at "s")
    refine wFreeze fun b4 l4 h4 => ?_
    refine s_Op (hr.le (by first | exact Nat.le_add_right_of_le (by decide) | lia)) fun r5 b5 l5 h5 => ?_
    repeat' (walk_at "s")
    have hus : ∀ {b' : Base}, Le b5 b' → FRep Y.am.w b' [r5] [.sp sk nn] := fun l => .cons ⟨_, _, _, h5.mono l, (l5.trans l) _ _ h4, .mk, nv, rfl, hnv.mono ((l4.trans l5).trans l)⟩ .nil
    refine .freeze fun b6 l6 h6 => .freeze fun b7 l7 h7' => .done ?_
    have p5 : Le b5 b7 := l6.trans l7
    have p3 : Le b3 b7 := (l4.trans l5).trans p5
    have p1 : Le b1 b7 := (l2.trans l3).trans p3
    exact ⟨o3, foo, flo, n, A + 1 + 1 + 1, k, kf, kl, 1, rfl, ⟨ht3.mono p3 (Nat.le_refl _), hsf, hsl, mono1 p1⟩, by lia, Nat.le_refl _, by lia, hff.self (by lia), ⟨_, _, _, _, [r5], _, _, [r5], _, _, _, rfl, l7 _ _ h6, h7', .mk, h7', .mk, (hus p5).toD (by intro o ho; rw [List.mem_singleton.mp ho]; rfl), hus p5, Sem.sp hnok.1, Sem.sp hnok.1, by show 1 ≤ 4; decide, by show 1 ≤ 4; decide⟩, by lia⟩
  repeat' (walk_at "s")
  refine ite_of (fun k5 => ?_) (fun k5 => ?_)
  · repeat' (walk_at "s")
    refine s_draw (hr.le (by first | exact Nat.le_add_right_of_le (by decide) | lia)) .here ht1 (by lia) (by decide) fun o2 kd2 t2 b2 l2 ht2 g0 g3 => ?_
    repeat' (walk_at "s")
    refine wStrInt (by have := log_small (k := kd2.toNat) (by lia); rwa [Int.toNat_of_nonneg g0] at this) fun _ => ?_
    repeat' (walk_at "s")
    refine wAddS (by have := key_len (k := kd2.toNat) (by lia); rwa [Int.toNat_of_nonneg g0] at this) fun wt => ?_
    rw [key_of g0]
    repeat' (walk_at "s")
    refine wNotInD (.inr (.tail _ (.tail _ (.head _)))) hsl ?_
    rcases hff.find (keyF kd2.toNat) with ⟨e1, e2⟩ | ⟨u, uv, e1, e2, hent⟩
    · rw [e2]
      repeat' (walk_at "s")
      refine s_Name (hr.le (by first | exact Nat.le_add_right_of_le (by decide) | lia)) fun nv b3 l3 hnv => ?_
      repeat' (walk_at "s")
      refine wFreeze fun b4 l4 h4 => ?_
      refine s_Op (hr.le (by first | exact Nat.le_add_right_of_le (by decide) | lia)) fun r5 b5 l5 h5 => ?_
      repeat' (walk_at "s")
      refine wMethD PySem.F.slot_dict_get PySem.F.type_dict_get (.inr (.tail _ (.tail _ (.tail _ (.head _))))) hsl ?_
      repeat' (walk_at "s")
      refine wGet2D (.inr (.tail _ (.tail _ (.tail _ (.tail _ (.head _)))))) hsl ?_
      rw [show valueAt kl (PySem.Str.ofString "Z") = none from (hff.noZ (by lia)).2]
      repeat' (walk_at "s")
      refine .freeze fun b6 l6 h6 => .freeze fun b7 l7 h7' => .freeze fun b8 l8 h8 => .done ?_
      have p7 : Le b7 b8 := l8
      have p6 : Le b6 b8 := l7.trans p7
      have p5 : Le b5 b8 := l6.trans p6
      have p4 : Le b4 b8 := l5.trans p5
      have p3 : Le b3 b8 := l4.trans p4
      have p2 : Le b2 b8 := l3.trans p3
      refine ⟨o2, foo, flo, n, A + 1 + 1, k, kf, kl, 1, rfl, ⟨ht2.mono p2 (Nat.le_refl _), hsf, hsl, mono1 (l2.trans p2)⟩, by lia, Nat.le_refl _, by lia, hff.self (by lia), ⟨_, _, _, _, [r5], _, _, [], [.nop], [], _, rfl, p6 _ _ h6, h8, .mk, p7 _ _ h7', .mk, ?_, .nil, Sem.nop.mono (Nat.zero_le 1), Sem.nil.mono (Nat.zero_le 1), by show 1 ≤ 4; decide, Nat.zero_le _⟩, by lia⟩
      intro kf' e
      exact .cons ⟨_, _, [nv], h5.mono p5, p4 _ _ h4, .mk, nv, _, rfl, hnv.mono p3, e.2⟩ .nil
    · rw [e2]
      obtain ⟨own, ops, c0, f, fx, fob, us, fops, g1, g2, rfl, g4, g5, g6, g7, g8, g9, g10, g11⟩ := hent
      repeat' (walk_at "s")
      refine s_Name (hr.le (by first | exact Nat.le_add_right_of_le (by decide) | lia)) fun nv b3 l3 hnv => ?_
      repeat' (walk_at "s")
      refine wFreeze fun b4 l4 h4 => ?_
      refine s_Op (hr.le (by first | exact Nat.le_add_right_of_le (by decide) | lia)) fun r5 b5 l5 h5 => ?_
      repeat' (walk_at "s")
      refine wMethD PySem.F.slot_dict_get PySem.F.type_dict_get (.inr (.tail _ (.tail _ (.tail _ (.head _))))) hsl ?_
      repeat' (walk_at "s")
      refine wGet2D (.inr (.tail _ (.tail _ (.tail _ (.tail _ (.head _)))))) hsl ?_
      rw [e2]
      repeat' (walk_at "s")
      refine .freeze fun b6 l6 h6 => .drop (.freeze fun b8 l8 h8 => .done ?_)
      have p6 : Le b6 b8 := l8
      have p5 : Le b5 b8 := l6.trans p6
      have p4 : Le b4 b8 := l5.trans p5
      have p3 : Le b3 b8 := l4.trans p4
      have p2 : Le b2 b8 := l3.trans p3
      have p0 : Le b b8 := (l1.trans l2).trans p2
      refine ⟨o2, foo, flo, n, A + 1 + 1, k, kf, kl, c0, rfl, ⟨ht2.mono p2 (Nat.le_refl _), hsf, hsl, mono1 (l2.trans p2)⟩, by lia, Nat.le_refl _, by lia, hff.self (by lia), ⟨_, _, _, _, [r5], fx, _, us, [.call (callG own ops)], fops, f, rfl, p6 _ _ h6, h8, .mk, p0 _ _ g4, g5, ?_, g6.mono p0, g7, g8, by show 1 ≤ 4 * c0; lia, g9⟩, by lia⟩
      intro kf' e
      exact .cons ⟨_, _, [nv], h5.mono p5, p4 _ _ h4, .mk, nv, _, u, own, ops, rfl, hnv.mono p3, e.1 _ _ e1, SheetRep.mono p0 _ g1, g2, rfl⟩ .nil
  repeat' (walk_at "s")
  refine s_lblock (hr.le (by first | exact Nat.le_add_right_of_le (by decide) | lia)) .here ht1 (by lia) fun o2 r ro us x y os b2 l2 ht2 hr2 hro hus hx hy hos => ?_
  repeat' (walk_at "s")
  refine .freeze fun b3 l3 h3 => .done ⟨o2, foo, flo, n, A + 1 + 3, k, kf, kl, 1, rfl, ⟨ht2.mono l3 (Nat.le_refl _), hsf, hsl, hff.mono ((l1.trans l2).trans l3) (Wn_mono (Nat.le_succ n))⟩, by lia, Nat.le_refl _, by lia, hff.self (by lia), ⟨_, _, r, ro, us, r, ro, us, _, _, _, rfl, h3, l3 _ _ hr2, hro, l3 _ _ hr2, hro, (hus.mono l3).toD (blk_plain _ _ _), hus.mono l3, Sem.blk hx.1 hy.1 hos, Sem.blk hx.1 hy.1 hos, by rw [hus.len]; exact Nat.le_of_ble_eq_true rfl, by rw [hus.len]; exact Nat.le_of_ble_eq_true rfl⟩, by lia⟩
section
variable {S : Sc} {X : Cx S} {b : Base} {led : Led} {vs : Vs} {Q : Post Value}
theorem s_litem {d : Nat} {tp fo fl : Addr} {to foo flo : Obj} {lv : Int} {tl : Tok} {fv : Value} {n A k D : Nat} {kf kl : KVs} (ih : lv < 3 → ∃ d', d = d' + 1 ∧ ItemsIH d') (hr : Room X (18 + 4 * d + 1)) (hlv : 3 - lv ≤ d) (hD : d ≤ D) (hfo : FontsAt X.am.w b fv)
    (h : TS X.am.w D (Wn (n + 1)) b n A k kf kl fo fl to foo flo) (hA : A + 200 * n ≤ 9850) (hn : n + 1 ≤ 6) (hk : k + n ≤ 5)
    (q : ∀ v b' to' foo' flo' n' A' k' kf' kl' c, Le b b' → TS X.am.w D (Wn n') b' n' A' k' kf' kl' fo fl to' foo' flo' → k' + n' ≤ 6 → n' ≤ n → A' + 200 * n' ≤ A + 200 * n + 20 → Ext kf kf' → ResAt X.am.w D b' kf' v c → c + Wn n ≤ Wn n' + Wn (n + 1) → Q v b' ((tp, to') :: (fo, foo') :: (fl, flo') :: led) vs) :
    Wp X (call (.ref 838) [.ref tp, .int lv tl, fv, .ref fo, .ref fl]) b ((tp, to) :: (fo, foo) :: (fl, flo) :: led) vs Q := by
  obtain ⟨fx, fob, ffv, rfl, hfo'⟩ := id hfo
  exact wDef (G := f_law_item) X.hh (f_law_item_ok X.ok) hr.d (by kernel_rfl) fun L => wMono (b_litem _ ih hr.sub hlv hD hfo h hA hn hk) fun fr b' led' _ l ⟨to', foo', flo', n', A', k', kf', kl', c, e, h1, h2, h3, h4, h5, h6, h7⟩ => by rw [e]; exact q _ _ _ _ _ _ _ _ _ _ _ l h1 h2 h3 h4 h5 h6 h7
end
theorem perm_it {α : Type} (p a c e : α) (l : List α) : (p :: a :: c :: e :: l).Perm (a :: c :: e :: p :: l) := (List.perm_middle (l₁ := [a, c, e]) (l₂ := l) (a := p)).symm
inductive LitemsPost (w : World) (D n A : Nat) (kf : KVs) (tp fo fl : Addr) (led : Led) (fr : Flow) (b' : Base) (led' : Led) : Prop
  | mk (to' foo' flo' : Obj) (n' A' k' : Nat) (kf' kl' : KVs) (c : Nat) (h1_ : led' = (tp, to') :: (fo, foo') :: (fl, flo') :: led) (h2_ : TS w D (Wn n') b' n' A' k' kf' kl' fo fl to' foo' flo') (h3_ : k' + n' ≤ 6) (h4_ : n' ≤ n)
      (h5_ : A' + 200 * n' ≤ A + 200 * n + 1) (h6_ : Ext kf kf') (h7_ : ResAt w D b' kf' (retOf fr) c) (h8_ : c + Wn n ≤ Wn n') : LitemsPost w D n A kf tp fo fl led fr b' led'
inductive LitemsInv (w : World) (D n A : Nat) (kf : KVs) (tp fo fl : Addr) (led : Led) (lv : Int) (tl : Tok) (fv : Value) (i : Nat) (b' : Base) (l' : Led) (v' : Vs) : Prop
  | mk (to' foo' flo' : Obj) (n' A' k' : Nat) (kf' kl' : KVs) (c : Nat) (a1 : Addr) (us1 : List Value) (o1 : Obj) (a2 : Addr) (us2 : List Value) (o2 : Obj) (ops1 ops2 : List Op) (f : SemF) (c1 c2 c3 : Option Value) (h1_ : l' = (tp, to') :: (fo, foo') :: (fl, flo') :: led)
      (h2_ : v' = [some (.ref tp), some (.int lv tl), some fv, some (.ref fo), some (.ref fl), some (.ref a1), some (.ref a2), c1, c2, c3]) (h3_ : TS w D (Wn n') b' n' A' k' kf' kl' fo fl to' foo' flo') (h4_ : k' + n' ≤ 6) (h5_ : n' ≤ n) (h6_ : A' + 200 * n' ≤ A + 200 * n + 1)
      (h7_ : Ext kf kf') (h8_ : b' a1 = some o1) (h9_ : IsLO us1 o1) (h10_ : b' a2 = some o2) (h11_ : IsLO us2 o2) (h12_ : DRep w D b' kf' us1 ops1) (h13_ : FRep w b' us2 ops2) (h14_ : Sem ops1 c f) (h15_ : Sem ops2 c f) (h16_ : us1.length ≤ 4 * c) (h17_ : us2.length ≤ 4 * c) (h18_ : c + Wn n ≤ Wn n') : LitemsInv w D n A kf tp fo fl led lv tl fv i b' l' v'
theorem b_litems {d : Nat} (Y : Cx f_law_items.sc) {b : Base} {led : Led} {tp fo fl : Addr} {to foo flo : Obj} {lv : Int} {tl : Tok} {fv : Value} {n A k D : Nat} {kf kl : KVs} (ih : lv < 3 → ∃ d', d = d' + 1 ∧ ItemsIH d') (hr : Room Y (19 + 4 * d)) (hlv : 3 - lv ≤ d) (hD : d ≤ D) (hfo : FontsAt Y.am.w b fv)
    (h : TS Y.am.w D (Wn n) b n A k kf kl fo fl to foo flo) (hk : k + n ≤ 6) (hA : A + 200 * n ≤ 10000) :
    Wp Y (execs (bodyOf f_law_items.st) Y.env) b ((tp, to) :: (fo, foo) :: (fl, flo) :: led) [some (.ref tp), some (.int lv tl), some fv, some (.ref fo), some (.ref fl), none, none, none, none, none]
      (fun fr b' led' _ => LitemsPost Y.am.w D n A kf tp fo fl led fr b' led') := by
  obtain ⟨ht, hsf, hsl, hff⟩ := h
  refine wFz ?_
  walk_at "body"
  repeat' (walk_at "s")
  refine wFreeze fun b1 l1 h1 => wFreeze fun b2 l2 h2 => ?_
  refine aFor (LitemsInv Y.am.w D n A kf tp fo fl led lv tl fv) (fun _ => rfl) (fun _ _ => rfl) (wFzL ?_)
  intro _
  repeat' (walk_at "s")
  have l12 := l1.trans l2
  refine s_draw (hr.le (by first | exact Nat.le_add_right_of_le (by decide) | lia)) .here (ht.mono l12 (Nat.le_refl _)) (by lia) (by decide) fun o1 dr t b3 l3 ht1 h0 h3 => ?_
  repeat' (walk_at "s")
  refine wRange1 fun rx _ _ _ => ?_
  have e1 : (1 + dr : Int) = (((1 + dr.toNat : Nat)) : Int) := by lia
  refine .freeze fun b4 l4 h4 => ?_
  rw [e1] at h4
  have l14 : Le b1 b4 := (l2.trans l3).trans l4
  have l24 : Le b2 b4 := l3.trans l4
  refine .done ⟨1 + dr.toNat, _, its_range (.inl h4) (range_small (by lia)) range_size, ⟨o1, foo, flo, n, A + 1, k, kf, kl, 0, _, [], _, _, [], _, [], [], _, _, _, _, rfl, rfl, ⟨ht1.mono l4 (Nat.le_refl _), hsf, hsl, hff.mono (l1.trans l14) (Nat.le_refl _)⟩, hk, Nat.le_refl _, by lia, hff.self (by lia), l24 _ _ h2, .mk, l14 _ _ h1, .mk, fun _ _ => .nil, .nil, Sem.nil, Sem.nil, Nat.zero_le _, Nat.zero_le _, by lia⟩, ?_, ?_⟩
  · rintro i b5 l5 v5 w p hi lb ⟨kk, rfl⟩ ⟨to', foo', flo', n', A', k', kf', kl', c, a1, us1, o1', a2, us2, o2', ops1, ops2, f, c1, c2, c3, rfl, rfl, ⟨ht', hsf', hsl', hff'⟩, hk', hn', hA', hext, ha1, ho1, ha2, ho2, hd, hf, hs1, hs2, hl1, hl2, hc⟩
    obtain ⟨cx, co, cus, at', ta, tn, hto, hcx, hco, hint, hne, hcl, hat⟩ := id ht'
    walk_at "s"
    refine wPerm (perm_it _ _ _ _ _) (wFzL ?_)
    intro _
    repeat' (walk_at "s")
    refine wItemL (.inr (.head _)) hto (by decide) (by decide) rfl rfl ?_
    repeat' (walk_at "s")
    refine ite_of (fun hp => ?_) (fun hp => ?_)
    · have hp := of_decide_eq_true hp
      obtain ⟨m, rfl⟩ : ∃ m, n' = m + 1 := ⟨n' - 1, by lia⟩
      repeat' (walk_at "s")
      refine wItemL (.inr (.head _)) hto (by decide) (by decide) rfl rfl ?_
      repeat' (walk_at "s")
      refine wSetItemL .here hto (by decide) (by decide) (by show (2 : Int) < 3; decide) fun to2 hto2 => ?_
      rw [show ((m + 1 : Nat) : Int) - 1 = (m : Int) by lia] at hto2
      have ht2 : TapeAt b5 m A' to2 := ⟨cx, co, cus, at', ta, _, hto2, hcx, hco, hint, hne, hcl, hat⟩
      have hW := Wn_succ (n := m) (by lia)
      have hW2 := Wn_hi (m + 1)
      repeat' (walk_at "s")
      refine s_litem ih (hr.le (by first | exact Nat.le_add_right_of_le (by decide) | lia)) hlv hD (hfo.mono (((l1.trans l2).trans l3).trans (l4.trans lb))) (n := m) (A := A') (k := k') ⟨ht2, hsf', hsl', hff'⟩ (by lia) (by lia) (by lia) fun v b6 to3 foo3 flo3 n3 A3 k3 kf3 kl3 c3' l6 hT3 hk3 hn3 hA3 hext3 hres3 hc3 => ?_
      obtain ⟨r, rk, a3, o3, us3, a4, o4, us4, ops3, ops4, f3, rfl, hr3, ha3, ho3, ha4, ho4, hd3, hf3, hs3, hs4, hl3, hl4⟩ := hres3
      have hW3 := Wn_hi n3
      repeat' (walk_at "s")
      refine wAddL (.inl (l6 _ _ ha1)) ho1 (.inl ha3) ho3 (by simp [sizeLine]; lia) fun r5 => ?_
      repeat' (walk_at "s")
      refine wAddL (.inl (l6 _ _ ha2)) ho2 (.inl ha4) ho4 (by simp [sizeLine]; lia) fun r6 => ?_
      repeat' (walk_at "s")
      refine .freeze fun b7 l7 h7 => .freeze fun b8 l8 h8 => .perm (perm_it _ _ _ _ _).symm (.done ⟨_, rfl, to3, foo3, flo3, n3, A3, k3, kf3, kl3, c + c3', _, us1 ++ us3, _, _, us2 ++ us4, _, ops1 ++ ops3, ops2 ++ ops4, _, _, _, _, rfl, rfl, hT3.mono (l7.trans l8) (Nat.le_refl _), hk3, by lia, by lia, hext.trans hext3, h8, .mk, l8 _ _ h7, .mk, ((hd.mono ((l6.trans l7).trans l8)).ext hext3).app (hd3.mono (l7.trans l8)), (hf.mono ((l6.trans l7).trans l8)).app (hf3.mono (l7.trans l8)), hs1.app hs3, hs2.app hs4, by rw [List.length_append]; lia, by rw [List.length_append]; lia, by lia⟩)
    · repeat' (walk_at "s")
      exact .perm (perm_it _ _ _ _ _).symm (.done ⟨_, rfl, to', foo', flo', n', A', k', kf', kl', c, _, us1, _, _, us2, _, ops1, ops2, f, _, _, _, rfl, rfl, ⟨ht', hsf', hsl', hff'⟩, hk', hn', hA', hext, ha1, ho1, ha2, ho2, hd, hf, hs1, hs2, hl1, hl2, hc⟩)
  · rintro b5 l5 v5 lb ⟨to', foo', flo', n', A', k', kf', kl', c, a1, us1, o1', a2, us2, o2', ops1, ops2, f, c1, c2, c3, rfl, rfl, hT, hk', hn', hA', hext, ha1, ho1, ha2, ho2, hd, hf, hs1, hs2, hl1, hl2, hc⟩
    repeat' (walk_at "s")
    exact .freeze fun b6 l6 h6 => .done ⟨to', foo', flo', n', A', k', kf', kl', c, rfl, hT.mono l6 (Nat.le_refl _), hk', hn', hA', hext, ⟨_, _, _, _, us1, _, _, us2, ops1, ops2, f, rfl, h6, l6 _ _ ha1, ho1, l6 _ _ ha2, ho2, hd.mono l6, hf.mono l6, hs1, hs2, hl1, hl2⟩, hc⟩
theorem itemsIH : ∀ d, ItemsIH d := by
  have step : ∀ d : Nat, (∀ lv : Int, 3 - lv ≤ (d : Int) → lv < 3 → ∃ d' : Nat, d = d' + 1 ∧ ItemsIH d') → ItemsIH d := by
    intro d ih S X b led vs Q tp fo fl to foo flo lv tl fv n A k D kf kl hr hlv hD hfo hT hk hA q
    obtain ⟨fx, fob, ffv, rfl, hfo'⟩ := id hfo
    exact wDef (G := f_law_items) X.hh (f_law_items_ok X.ok) (Room.d (n := 19 + 4 * d) (hr.le (by first | exact Nat.le_add_right_of_le (by decide) | lia))) (by kernel_rfl) fun L => wMono (b_litems _ (ih lv hlv) (Room.sub (n := 19 + 4 * d) (hr.le (by first | exact Nat.le_add_right_of_le (by decide) | lia))) hlv hD hfo hT hk hA) fun fr b' led' _ l ⟨to', foo', flo', n', A', k', kf', kl', c, e, h1, h2, h3, h4, h5, h6, h7⟩ => by rw [e]; exact q _ _ _ _ _ _ _ _ _ _ _ l h1 h2 h3 h4 h5 h6 h7
  intro d
  induction d with
  | zero => exact step 0 fun lv h h' => by exfalso; lia
  | succ d ih => exact step (d + 1) fun lv h h' => ⟨d, rfl, ih⟩
/-! what is told -/
theorem b_ltold (Y : Cx f_law_told.sc) {b : Base} {led : Led} {a : Addr} {o : Obj} {us : List Value} {gs : List Gl} (hr : Room Y 3) (ha : b a = some o) (ho : IsLO us o) (hg : All2 (GlA Y.am.w.params b) us gs) (hz : gs.length ≤ 50000) :
    Wp Y (execs (bodyOf f_law_told.st) Y.env) b led [some (.ref a)] (fun fl b' led' _ => led' = led ∧ ∃ r o us', retOf fl = .ref r ∧ b' r = some o ∧ IsLO us' o ∧ All2 (GTell b') us' gs) := by
  refine wFz ?_
  walk_at "body"
  refine aRet ?_
  refine wListCompC (gs := []) (fun i b' l' ys => l' = led ∧ All2 (GTell b') ys (gs.take i)) (CompSc.toC (CompSc.of Y.ok (by kernel_rfl) (gsC_of (by kernel_rfl)))) (fun _ => rfl) (fun _ _ => rfl) ?_
  repeat' (walk_at "s")
  refine ⟨us.length, _, by rw [hg.len]; omega, its_list ha ho, ⟨rfl, .nil⟩, ?_, ?_⟩
  · rintro C i b2 l2 w p q ys hi lb hw ⟨rfl, hn⟩
    obtain ⟨g, hg1, hgw⟩ := hg.get hw
    replace hgw := hgw.mono lb
    repeat' (walk_at "s")
    have hr2 : Room Y 2 := hr.le (by decide)
    refine s_gtold hr2 hgw fun r b3 l3 h3 => ?_
    refine ⟨rfl, _, rfl, rfl, ?_⟩
    rw [List.take_add_one, hg1]
    exact (hn.mono fun _ _ h => h.mono l3).app (.cons h3 .nil)
  · rintro b2 l2 ys D k lb ⟨rfl, hn⟩ hl
    rw [hg.len, List.take_length] at hn
    exact .freeze fun b3 l3 h3 => .done ⟨rfl, D, _, _, rfl, h3, .mk, hn.mono fun _ _ h => h.mono l3⟩
section
variable {S : Sc} {X : Cx S} {b : Base} {led : Led} {vs : Vs} {Q : Post Value}
theorem s_ltold {a : Addr} {o : Obj} {us : List Value} {gs : List Gl} (hr : Room X 4) (ha : b a = some o) (ho : IsLO us o) (hg : All2 (GlA X.am.w.params b) us gs) (hz : gs.length ≤ 50000)
    (q : ∀ r o us' b', Le b b' → b' r = some o → IsLO us' o → All2 (GTell b') us' gs → Q (.ref r) b' led vs) : Wp X (call (.ref 850) [.ref a]) b led vs Q :=
  wDef (G := f_law_told) X.hh (f_law_told_ok X.ok) hr.d (by kernel_rfl) fun L => wMono (b_ltold _ hr.sub ha ho hg hz) fun fl b' led' _ l ⟨e, r, o, us', e2, h1, h2, h3⟩ => by rw [e, e2]; exact q _ _ _ _ l h1 h2 h3
theorem wTruthyL {x : Addr} {o : Obj} {us : List Value} {Q : Post Bool} (hx : Has b led x o) (ho : IsLO us o) (hz : us.length ≤ 100000) (q : Q (!us.isEmpty) b led vs) : Wp X (truthy (.ref x)) b led vs Q := .mk fun s H =>
  wpAny_truthy_list (hx.list ho H) (by simp; omega) (by
    have e : (decide (us.toArray.size ≠ 0)) = !us.isEmpty := by cases us <;> simp
    first
      | (rw [e]; exact Rest.of (H.tk (s.toks + 1 + 1)) q)
      | (rw [show (!us.toArray.isEmpty) = !us.isEmpty by simp]; exact Rest.of (H.tk (s.toks + 1 + 1)) q))
open PySem.SeqAt in
theorem eq_tell {a : Am} {b : Base} {led : Led} {fs : List Fm} {s : Shared} {A : Around} {u w : Value} {d : Dc} (H : Holds a b led fs s) (hA : A.units < cLine) (hu : TellAt b u d) (hw : TellAt b w d) : EqAt A s u w true := by
  obtain ⟨r1, t1, t2, k1, rfl, h1⟩ := hu
  obtain ⟨r2, t3, t4, k2, rfl, h2⟩ := hw
  refine eq_tup H (.inl h1) (.inl h2) hA rfl fun i u w hu hw => ?_
  match i, hu, hw with
  | 0, hu, hw => simp at hu hw; subst hu hw; have := PySem.SeqAt.EqAt.int_int (A := A.in1) (s := s) d.top t1 d.top t3; simpa using this
  | 1, hu, hw => simp at hu hw; subst hu hw; have := PySem.SeqAt.EqAt.int_int (A := A.in1) (s := s) (d.pl : Int) t2 d.pl t4; simpa using this
end
open PySem.SeqAt in
theorem eq_gtell {a : Am} {b : Base} {led : Led} {fs : List Fm} {s : Shared} {A : Around} {u w : Value} {g : Gl} (H : Holds a b led fs s) (hA : A.units + 10 < cLine) (hu : GTell b u g) (hw : GTell b w g) : EqAt A s u w true := by
  obtain ⟨r1, tk, v1, v2, v3, v4, k1, rfl, h1, d1, d2, d3, d4⟩ := hu
  obtain ⟨r2, tk', v1', v2', v3', v4', k2, rfl, h2, d1', d2', d3', d4'⟩ := hw
  have hA1 : A.in1.units < cLine := by show A.units + 1 < cLine; omega
  refine eq_tup H (.inl h1) (.inl h2) (by omega) rfl fun i u w hu hw => ?_
  match i, hu, hw with
  | 0, hu, hw => simp at hu hw; subst hu hw; have := PySem.SeqAt.EqAt.str_str (A := A.in1) (s := s) g.text tk g.text tk'; simpa using this
  | 1, hu, hw => simp at hu hw; subst hu hw; exact eq_tell H hA1 d1 d1'
  | 2, hu, hw => simp at hu hw; subst hu hw; exact eq_tell H hA1 d2 d2'
  | 3, hu, hw => simp at hu hw; subst hu hw; exact eq_tell H hA1 d3 d3'
  | 4, hu, hw => simp at hu hw; subst hu hw; exact eq_tell H hA1 d4 d4'
section
variable {S : Sc} {X : Cx S} {b : Base} {led : Led} {vs : Vs} {Q : Post Value}
theorem wNeTold {x y : Addr} {o o' : Obj} {us ws : List Value} {gs : List Gl} (hr : Room X 2) (hx : Has b led x o) (ho : IsLO us o) (hy : Has b led y o') (ho' : IsLO ws o') (hu : All2 (GTell b) us gs) (hw : All2 (GTell b) ws gs) (q : Q (.bool false) b led vs) : Wp X (compareOp .NotEq (.ref x) (.ref y)) b led vs Q :=
  wNeL hx ho hy ho' (by have := hr.2; omega) (by rw [hu.len, hw.len]) (fun s H i u w e1 e2 => by
    obtain ⟨g, h1, h2⟩ := hu.get e1
    obtain ⟨g', h3, h4⟩ := hw.get e2
    rw [h1] at h3; cases h3
    exact eq_gtell H (by show X.A.units + 1 + 10 < cLine; have := hr.2; omega) h2 h4) q
theorem wEqTold {x y : Addr} {o o' : Obj} {us ws : List Value} {gs : List Gl} (hr : Room X 2) (hx : Has b led x o) (ho : IsLO us o) (hy : Has b led y o') (ho' : IsLO ws o') (hu : All2 (GTell b) us gs) (hw : All2 (GTell b) ws gs) (q : Q (.bool true) b led vs) : Wp X (compareOp .Eq (.ref x) (.ref y)) b led vs Q :=
  wEqL hx ho hy ho' (by have := hr.2; omega) (by rw [hu.len, hw.len]) (fun s H i u w e1 e2 => by
    obtain ⟨g, h1, h2⟩ := hu.get e1
    obtain ⟨g', h3, h4⟩ := hw.get e2
    rw [h1] at h3; cases h3
    exact eq_gtell H (by show X.A.units + 1 + 10 < cLine; have := hr.2; omega) h2 h4) q
end
/-! the law -/
section
variable {S : Sc} {X : Cx S} {b : Base} {led : Led} {vs : Vs} {Q : Post Value}
theorem wSliceUp {y : PySem.Str} {yp p' p pos : Pos} {hi : Int} {kk : Nat} {x : Addr} {o : Obj} {us : List Value} (hv : LocAt S.ns vs y (.ref x)) (hx : Has b led x o) (ho : IsLO us o) (hz : us.length ≤ 100000)
    (q : ∀ r o', Q (.ref (r + 1)) b ((r + 1, LO (slicePick us.toArray none (some hi) none).toList 0) :: (r, o') :: led) vs) : Wp X (eval (.Subscript (.Name y yp) (.Slice none (some (.Constant (.int hi) kk p')) none p) pos) X.env) b led vs Q :=
  wSliceL (vl := .none) (vu := .none) (us := us) (lo := none) (hi := some hi) (v := .ref x) hv (fun s H => ⟨x, o, rfl, hx.get H, ho⟩) hz (fun R hR => wPartNone ⟨rfl, rfl, rfl, wPartInt fun t' => ⟨rfl, rfl, rfl, hR _ _ .none (.int _ _)⟩⟩) q
end
noncomputable def st0 (m : Mx) : St := { St.init m with font := true, size := ⟨2, 0⟩ }
theorem st0_ok {m : Mx} (h : Mz 16 1 m) : StP (st0 m) 0 :=
  have s2 : Sz 16 1 (⟨2, 0⟩ : Dc) := ⟨by decide, by decide⟩
  have s0 : Sz 16 1 (⟨0, 0⟩ : Dc) := ⟨by decide, by decide⟩
  have s1 : Sz 16 1 (⟨100, 0⟩ : Dc) := ⟨by decide, by decide⟩
  ⟨rfl, ⟨s2, s0, s1, s0⟩, h⟩
noncomputable def lawG (f : SemF) (x y : Num) (os : List UInt8) (m : Mx) : List Gl := ((SemF.comp f fun st => (st, (st.show ((Mx.tr x y).mul Mx.one) os).1)) (st0 m)).2
theorem law_run {ops : List Op} {c : Nat} {f : SemF} {x y : Num} {os : List UInt8} {m : Mx} (h : Sem ops c f) (hx : NOk x) (hy : NOk y) (ho : os.length ≤ 2) (hm : Mz 16 1 m) (hc : c ≤ 256) :
    ∃ mm, Run (ops ++ blk x y os) (Mc.start (st0 m)) mm ∧ mm.found = lawG f x y os m ∧ mm.found.length ≤ 50000 := by
  have s := h.app (Sem.blk hx.1 hy.1 ho)
  have r := s.1 (Mc.start (st0 m)) 0 ⟨rfl, rfl, st0_ok hm, Nat.zero_le _, Nat.zero_le _⟩ (by omega)
  have l := (s.2 (st0 m) 0 (st0_ok hm) (by omega)).2
  refine ⟨_, r, rfl, ?_⟩
  show ([] ++ _ : List Gl).length ≤ _
  rw [List.nil_append]
  exact Nat.le_trans l (by omega)
theorem law_run1 {ops : List Op} {c : Nat} {f : SemF} {x y : Num} {os : List UInt8} {m : Mx} (h : Sem ops c f) (hx : NOk x) (hy : NOk y) (ho : os.length ≤ 2) (hm : Mz 16 1 m) (hc : c ≤ 256) :
    ∃ mm, Run ([.tf] ++ ops ++ blk x y os) (Mc.start (St.init m)) mm ∧ mm.found = lawG f x y os m ∧ mm.found.length ≤ 50000 := by
  obtain ⟨mm, r, e, l⟩ := law_run h hx hy ho hm hc
  refine ⟨mm, ?_, e, l⟩
  rw [List.append_assoc]
  exact .cons .tf r
theorem law_run2 {ops : List Op} {c : Nat} {f : SemF} {x y : Num} {os : List UInt8} {s : Six} (h : Sem ops c f) (hx : NOk x) (hy : NOk y) (ho : os.length ≤ 2) (hs : SOk s) (hc : c ≤ 256) :
    ∃ mm, Run ([.cm s] ++ [.tf] ++ ops ++ blk x y os) (Mc.start (St.init Mx.one)) mm ∧ mm.found = lawG f x y os s.mx ∧ mm.found.length ≤ 50000 := by
  obtain ⟨mm, r, e, l⟩ := law_run h hx hy ho hs.sz hc
  refine ⟨mm, ?_, e, l⟩
  rw [List.append_assoc, List.append_assoc]
  refine .cons (.cm hs.sz (one_sz.mono (by decide) (by decide))) (.cons .tf ?_)
  have e : s.mx.mul (Mc.start (St.init Mx.one)).st.ctm = s.mx := hs.one
  rw [e]
  exact r
local macro_rules | `(tactic| walk_at "s") => `(tactic| first
  | ((with_reducible refine' wSliceUp ?hv ?hx ?ho ?hz ?_); (case hv => walk_at "loc"); (case hx => exact .inl (by assumption)); (case ho => assumption); (case hz => assumption); intro _ _)
  | (with_reducible refine' wOr ?_)
  | (with_reducible refine' wOr1 ?_) | fail "no")
/-! the claim's own call -/
theorem trunc : ∀ (n : Nat) (h : Heap), h.objs.size = n → (∃ x o, h.get? x = some o) → ∃ h₀ : Heap, (∀ x, h₀.get? x = h.get? x) ∧ ∃ x o, h₀.get? x = some o ∧ x + 1 = h₀.objs.size
  | 0, h, e, ⟨x, o, q⟩ => by have l := Heap.lt_size q; rw [e] at l; exact absurd l (Nat.not_lt_zero _)
  | n + 1, h, e, hx => by
    cases q : h.get? n with
    | some o => exact ⟨h, fun _ => rfl, n, o, q, e.symm⟩
    | none =>
      have k : ∀ x, (⟨h.objs.pop, h.life⟩ : Heap).get? x = h.get? x := fun x => by
        rcases Nat.lt_trichotomy x n with l | l | l
        · unfold Heap.get?; rw [Array.getElem?_pop, if_pos (by omega)]
        · subst l; rw [q]; unfold Heap.get?; rw [Array.getElem?_pop, if_neg (by omega)]
        · unfold Heap.get?; rw [Array.getElem?_pop, if_neg (by omega), Array.getElem?_eq_none (by omega)]
      obtain ⟨x, o, hx⟩ := hx
      obtain ⟨h₀, k0, r⟩ := trunc n ⟨h.objs.pop, h.life⟩ (by simp [e]) ⟨x, o, (k x).trans hx⟩
      exact ⟨h₀, fun x => (k0 x).trans (k x), r⟩
theorem bi_name : (biTab.all fun x => !PySem.W.Fast.sEq x.1 (PySem.Str.ofString "__name__")) = true := by kernel_rfl
theorem am_of {w : World} {h : Heap} {mg mb : PySem.Str → Option Value} {os : OsState} (KI : (K w.params).In h) (g : h.Ns mainGlobals mg) (bn : h.Ns builtinsNs mb)
    (hb : ∀ x : PySem.Str, x ≠ "__name__" → mb x = bootBuiltins x) (lim : h.NoLimit) : ∃ h₀ : Heap, (⟨w, h₀, mg, mb, os⟩ : Am).Ok ∧ ∀ x, h₀.get? x = h.get? x := by
  obtain ⟨o₁, e₁⟩ := Ns_lt g
  obtain ⟨h₀, k, l⟩ := trunc _ h rfl ⟨_, _, e₁⟩
  have kk : ∀ x o, h.get? x = some o → h₀.get? x = some o := fun x o e => (k x).trans e
  refine ⟨h₀, ⟨KI.keeps kk, g.keeps kk, bn.keeps kk, fun x v hx => ?_, lim.keeps kk, l⟩, k⟩
  have h1 := List.all_eq_true.mp (bi_K w.params) (x, v) hx
  have h2 := List.all_eq_true.mp bi_name (x, v) hx
  have h1 := beq_iff_eq.mp (Bool.and_eq_true_iff.mp h1).2
  refine (hb x fun e => ?_).trans h1
  have e : x = PySem.Str.ofString "__name__" := e
  have q : PySem.W.Fast.sEq x (PySem.Str.ofString "__name__") = true := (PySem.W.Fast.sEq_iff).mpr e
  rw [show PySem.W.Fast.sEq (x, v).1 (PySem.Str.ofString "__name__") = true from q] at h2
  cases h2
@[reducible] noncomputable def topCx {a : Am} (ok : a.Ok) (G : FnR) (hG : G.Ok a) (A : Around) (hh : A.handled = none) (L : Addr) : Cx G.sc := ⟨a, A.deeper (G.env L), G.env L, [], ok, hh, hG.kind, rfl, rfl, hG.nd, fun x hx => ⟨hG.loc x hx, hG.ndb x hx⟩, fun y hy => ⟨(hG.glo y hy).1, (hG.glo y hy).2, hG.val y hy⟩⟩
theorem codeTop {a : Am} (ok : a.Ok) {G : FnR} {A : Around} (hA : A.handled = none) (hG : G.Ok a) {as : List Value} {R : Result → Shared → Prop} {s : Shared} {b : Base} {led : Led} {P : Value → Prop} (hroom : A.depth < recursionLimit)
    (hb : bindArgs G.fd ⟨as, []⟩ = pure (G.sc.ns.zip as)) (H : Holds a b led [] s)
    (h : ∀ L, Wp (topCx ok G hG A hA L) (execs (bodyOf G.st) (G.env L)) b led (as.map some ++ List.replicate (G.sc.ns.length - as.length) none) fun fl _ _ _ => P (retOf fl))
    (k : ∀ v s' b' led', Holds a b' led' [] s' → P v → R (.ok (.ret v)) s') :
    codeAny (model pw a.w) A (.call (.ref G.f) ⟨as, []⟩) R s := by
  refine codeAny_call_def (fd := G.fd) (body := bodyOf G.st) (binds := G.sc.ns.zip as) hroom (H.stays _ _ hG.obj) rfl (ok.lim.keeps H.stays) (hG.code.keeps H.stays) rfl (BindsTo.of_eq hb) hG.cell
    (fun x hx => hG.loc _ (List.of_mem_zip (hx : (x.1, x.2) ∈ _)).1) (fun h₁ hn hk => ?_) hG.co hG.gen hG.kind
  rw [funext (lk_zip G.sc.ns as hG.nd)] at hn
  refine wpAny_mono ((h s.heap.objs.size).go _ (H.enter hn hk (ok.big H.stays) (s.toks + (G.sc.ns.zip as).length))) (fun fl s' ⟨b', led', vs', l, H', q⟩ => ?_) fun _ _ e => e.elim
  exact k _ _ _ _ H'.pop q
theorem ints_of {R : WRecords} {cl : PySem.Str → Option Addr} {h : Heap} : ∀ (xs : List WData) (vs : List Value) (as : List Addr), WShape.hasItems R xs .int = true → ReadsAllW R cl h vs xs as → ∃ ns, IntsAre vs ns := by
  intro xs
  induction xs with
  | nil => intro vs as _ r; cases r; exact ⟨[], .nil⟩
  | cons d ds ih =>
    intro vs as hi r
    have hi : WShape.has R d .int = true ∧ WShape.hasItems R ds .int = true := by simpa [WShape.hasItems] using hi
    cases r with
    | cons r rs =>
      obtain ⟨i, rfl⟩ := hasW_int hi.1
      obtain ⟨t, rfl, _⟩ := readsW_int_inv r
      obtain ⟨ns, hn⟩ := ih _ _ hi.2 rs
      exact ⟨_, .cons i t hn⟩
theorem reads_len {R : WRecords} {cl : PySem.Str → Option Addr} {h : Heap} : ∀ {vs : List Value} {xs : List WData} {as : List Addr}, ReadsAllW R cl h vs xs as → vs.length = xs.length
  | _, _, _, .nil => rfl
  | _, _, _, .cons _ rs => by rw [List.length_cons, List.length_cons, reads_len rs]
theorem pre_len {R : WRecords} {xs : List WData} (h : lawRow.pre.holds R { args := [.list xs] } = true) : xs.length ≤ 63 := by
  have h1 := (holds_andW (a := .not (.lt (.lit (.int 63)) (.len (.arg 0)))) (b := .lit (.bool true)) h).1
  have h2 : (WTm.not (.lt (.lit (.int 63)) (.len (.arg 0)))).value R { args := [.list xs] } = some (.bool (!decide ((63 : Int) < (xs.length : Int)))) := by rfl
  have h3 := (holdsW_of_value h2).symm.trans h1
  by_cases hc : (63 : Int) < (xs.length : Int)
  · rw [decide_eq_true hc] at h3; cases h3
  · omega
theorem post_ok {R : WRecords} {ds ds' : List WData} : (WTm.eq .res (.lit (.bool true))).holds R { args := ds, res := some (.bool true), after := ds' } = true := by
  have h2 : (WTm.eq .res (.lit (.bool true))).value R { args := ds, res := some (.bool true), after := ds' } = some (.bool (same (.bool true) (.bool true))) := by rfl
  exact (holdsW_of_value h2).trans (same_self _)
theorem shape_ok {R : WRecords} : WShape.has R (.bool true) .bool = true := by wrow_shape
theorem law_walk {q : Program} {loose : List PySem.Str} {XP : (PySem.Str → Option Value) → Heap → Prop} {d : DefRec} {kwd : List (PySem.Str × Expr)} (hd : d.name = PySem.Str.ofString "law")
    (b_law : ∀ (Y : Cx f_law.sc) {b sa so us ns} (hr : Room Y 45) (hsc : b sa = some so) (hso : IsLO us so) (hul : us.length ≤ 100000) (hlen : us.length ≤ 63) (hint : IntsAre us ns), Wp Y (execs (bodyOf f_law.st) Y.env) b [] [some (.ref sa), none, none, none, none, none, none, none, none, none, none, none, none] (fun fl b' led' _ => retOf fl = .bool true)) :
    WalkO q loose XP (kHook K Kas (fun P => K_as P)).says lawRow d kwd (fun f vs => call f vs) := by
  intro w s₀ s₁ mg mb G Y fa o pm cd doc dV kV ho hdt hcd hD hmg hg args vals as hpre hlay hrd hwl hlo
  have KX : (K w.params).In s₁.heap := kIn_of Y
  rw [hd] at hmg
  obtain ⟨h₀, ok, hh⟩ := am_of (os := s₁.os) KX G.T.g G.T.b G.T.builtins G.T.nolimit
  have hv : mg (PySem.Str.ofString "law") = some (.ref 857) := glob_val ok (y := (PySem.Str.ofString "law", .ref 857)) (tabQ_of (by kernel_rfl))
  rw [hv] at hmg
  obtain rfl : 857 = fa := by injection hmg with e; injection e
  obtain ⟨d1, r, rfl, hs1, hs2⟩ := hasAllW_cons (pre_splitW hpre).1
  obtain rfl := hasAllW_nil hs2
  obtain ⟨xs, rfl, hit⟩ := hasW_list hs1
  have hcond := pre_len (pre_splitW hpre).2
  cases hrd with
  | cons r1 r2 =>
    cases r2
    cases r1 with
    | list e1 e2 e3 e4 =>
      rename_i a ob vs n as
      obtain ⟨ns, hi⟩ := ints_of _ _ _ hit e4
      have hl := reads_len e4
      refine enter_call ?_
      refine codeTop (G := f_law) ok rfl (f_law_ok ok) (as := [.ref a]) (b := fun x => s₁.heap.get? x) (led := []) (P := fun v => v = .bool true) (by decide) (by kernel_rfl) ⟨fun _ _ e => e, fun x o e => (hh x).symm.trans e, (fun p h => by cases h), (fun p h => by cases h), List.nodup_nil, hg, rfl⟩ (fun L => b_law _ ?_ e1 ⟨e2, n, ?_⟩ (by omega) (by omega) hi) ?_
      · exact ⟨by show 1 + claimMargin + 1 + 3 * 45 < recursionLimit; decide, by show 4 + 3 + 8 * 45 < cLine; decide⟩
      · rw [e3]
      · rintro v s' b' led' H' rfl
        refine GoodW.toG ⟨.inl ⟨_, .bool true, [], rfl, fun _ => rfl, .bool true, ?_, fun _ => ⟨List.nodup_nil, fun a h => by cases h⟩⟩, fun x o e => H'.stays _ _ ((hh x).trans e), H'.os, H'.gens⟩
        exact Bool.and_eq_true_iff.mpr ⟨shape_ok (R := lawRow.records), post_ok⟩
/-! the law's own body -/
theorem b_law (Y : Cx f_law.sc) {b : Base} {sa : Addr} {so : Obj} {us : List Value} {ns : List Int} (hr : Room Y 45) (hsc : b sa = some so) (hso : IsLO us so) (hul : us.length ≤ 100000) (hlen : us.length ≤ 63) (hint : IntsAre us ns) :
    Wp Y (execs (bodyOf f_law.st) Y.env) b [] [some (.ref sa), none, none, none, none, none, none, none, none, none, none, none, none] (fun fl b' led' _ => retOf fl = .bool true) := by
  have hint' : ∀ u ∈ (slicePick us.toArray none (some 60) none).toList, ∃ i t, u = .int i t := by
    have h := hint.pick none (some 60) none
    generalize (slicePick us.toArray none (some 60) none).toList = l at h
    generalize pickNums ns none (some 60) none = l' at h
    induction h with
    | nil => intro u hu; cases hu
    | cons n t h ih => intro u hu; rcases List.mem_cons.mp hu with rfl | hu; exact ⟨_, _, rfl⟩; exact ih _ hu
  have hpl : (slicePick us.toArray none (some 60) none).toList.length ≤ 63 := by
    have := slicePick_size_le us.toArray none (some 60) none
    rw [Array.length_toList]
    exact Nat.le_trans this (by simpa using hlen)
  refine wFz ?_
  walk_at "body"
  refine aAssignB rfl (wMono (Q := fun v b' l' v' => v' = [some (.ref sa), none, none, none, none, none, none, none, none, none, none, none, none] ∧ ∃ tp to, v = .ref tp ∧ l' = [(tp, to)] ∧ TapeAt b' 6 0 to) ?_ ?_)
  · refine wFzL ?_; intro _
    repeat' (walk_at "s")
    refine wListL (.inr (.head _)) (by lia) fun r k => ?_
    repeat' (walk_at "s")
    refine wTruthyL (.inr (.head _)) .mk (by lia) ?_
    refine ite_of (fun he => ?_) (fun he => ?_)
    · repeat' (walk_at "s")
      exact .perm (.swap _ _ _) (.freeze fun b2 l2 h2 => .perm (List.perm_append_comm (l₁ := [_]) (l₂ := [_, _])) (.drop (.drop (.done ⟨rfl, _, _, rfl, rfl, r, _, _, 0, _, _, .mk, h2, .mk, hint', (fun e => by rw [e] at he; cases he), by lia, Nat.le_refl _⟩))))
    · repeat' (walk_at "s")
      exact .perm (.swap _ _ _) (.freeze fun b2 l2 h2 => .perm (List.perm_append_comm (l₁ := [_]) (l₂ := [_, _, _])) (.drop (.drop (.drop (.done ⟨rfl, _, _, rfl, rfl, _, _, _, 0, _, _, .mk, h2, .mk, (fun u hu => by rw [List.mem_singleton.mp hu]; exact ⟨_, _, rfl⟩), (List.cons_ne_nil _ _), Nat.le_of_ble_eq_true rfl, Nat.le_refl _⟩)))))
  · rintro v b1 l1 v1 lb ⟨rfl, tp, to, rfl, rfl, ht⟩
    repeat' (walk_at "s")
    refine s_six (hr.le (by decide)) .here ht (by lia) fun to1 sv s b2 l2 ht1 hsix hsok => ?_
    repeat' (walk_at "s")
    refine wDictT (by have := hr.2; lia) rfl rfl (by decide) (by decide) fun cx => wFzL ?_
    intro _
    repeat' (walk_at "s")
    refine .freeze fun b3 l3 h3 => .freeze fun b4 l4 h4 => .done ⟨[([1, 32], _, _), ([1, 97], _, _)], _, .cons h4 (.cons (intKind_is _ _ _ _) (.cons (intKind_is _ _ _ _) .nil)) (.cons (l4 _ _ h3) (.cons (intKind_is _ _ _ _) (.cons (intKind_is _ _ _ _) .nil)) .nil), (show ([[1, 32], [1, 97]] : List (List Int)).Nodup by decide), Nat.le_of_ble_eq_true rfl, by walk_at "led", fun cho hch => ?_⟩
    repeat' (walk_at "s")
    refine wMulL (.inr (.head _)) (by decide) (by decide) fun nx => ?_
    repeat' (walk_at "s")
    refine s_CMap (hr.le (by decide)) fun ur b5 u1 u2 l5 hur => ?_
    repeat' (walk_at "s")
    refine s_Decimal (t := 1) (p := 3) (hr.le (by decide)) fun dv b6 l6 hdv => ?_
    repeat' (walk_at "s")
    refine s_Font (hr.le (by decide)) fun fv b7 t1 t2 t3 t4 t5 t6 t7 l7 hfv => ?_
    repeat' (walk_at "s")
    refine wFreeze fun b8 l8 h8 => wFreeze fun b9 l9 h9 => wFreeze fun b10 l10 h10 => wFreeze fun b11 l11 h11 => wDrop (wFreeze fun b12 l12 h12 => wDrop (wFreeze fun b13 l13 h13 => ?_))
    have k12 : Le b12 b13 := l13
    have k11 : Le b11 b13 := l12.trans k12
    have k10 : Le b10 b13 := l11.trans k11
    have k9 : Le b9 b13 := l10.trans k10
    have k8 : Le b8 b13 := l9.trans k9
    have k7 : Le b7 b13 := l8.trans k8
    have k6 : Le b6 b13 := l7.trans k7
    have k5 : Le b5 b13 := l6.trans k6
    have k4 : Le b4 b13 := l5.trans k5
    have z2 : Le b2 b13 := (l3.trans l4).trans k4
    have hfont : FontAt Y.am.w b13 fv := ⟨_, _, _, _, _, _, _, _, _, _, _, _, _, _, _, _, _, _, _, _, _, _, _, _, _, _, _, _, _, _, _, _, _, _, hfv.mono k7, k12 _ _ h12, .mk, k9 _ _ h9, .mk, k10 _ _ h10, k11 _ _ h11, .mk, hdv.mono k6, k8 _ _ h8, hur.mono k5, h13, hch.mono k4⟩
    refine wNewDict fun fo foo hfo => ?_
    repeat' (walk_at "s")
    refine wDictS rfl rfl (by decide) (by decide) fun fx => ?_
    repeat' (walk_at "s")
    refine ⟨[(_, _)], _, ⟨strKind_is _ _ _ _, rfl, trivial⟩, nodupQ_of (by kernel_rfl), Nat.le_of_ble_eq_true rfl, by walk_at "led", fun fxo hfx => ?_⟩
    repeat' (walk_at "s")
    refine wNewDict fun fl flo hfl => ?_
    repeat' (walk_at "s")
    refine wPerm (led' := (fx, fxo) :: (tp, to1) :: (fo, foo) :: (fl, flo) :: []) ((List.Perm.swap _ _ _).trans (.cons _ (List.reverse_perm [(tp, to1), (fo, foo), (fl, flo)]))) (wFreeze fun b14 l14 h14 => ?_)
    have hfonts : FontsAt Y.am.w b14 (.ref fx) := ⟨fx, fxo, fv, rfl, h14, hfx, hfont.mono l14⟩
    refine itemsIH 3 (hr.le (by decide)) (lv := 0) (by decide) (Nat.le_refl 3) hfonts (n := 6) (A := 6) (k := 0) (kf := []) (kl := []) ⟨ht1.mono (z2.trans l14) (by lia), hfo, hfl, .nil⟩ (by lia) (by lia) fun v b15 to2 foo2 flo2 n2 A2 k2 kf2 kl2 c l15 hT2 hk2 hn2 hA2 hext hres hc2 => ?_
    obtain ⟨ht2, hsf2, hsl2, hff2⟩ := hT2
    obtain ⟨r, kk, a1, o1, us1, a2, o2, us2, ops1, ops2, f, rfl, hr2, ha1, ho1, ha2, ho2, hd1, hf2, hs1, hs2, hl1, hl2⟩ := hres
    have hW := Wn_hi n2
    have hcc : c ≤ 256 := by lia
    walk_at "s"
    refine wDrop (wFreeze fun b16 l16 h16 => wDrop ?_)
    have hr3 := l16 _ _ hr2
    repeat' (walk_at "s")
    refine s_Name (hr.le (by decide)) fun na b17 l17 hna => ?_
    repeat' (walk_at "s")
    refine s_Op (hr.le (by decide)) fun op1 b18 l18 hop1 => ?_
    repeat' (walk_at "s")
    refine wPerm (List.Perm.swap _ _ _) (wFreeze fun b19 l19 h19 => ?_)
    refine s_lblock (hr.le (by decide)) .here (n := 0) (A := 0) ⟨_, _, _, 0, _, _, .mk, h19, .mk, (fun u hu => by rw [List.mem_singleton.mp hu]; exact ⟨_, _, rfl⟩), (List.cons_ne_nil _ _), Nat.le_of_ble_eq_true rfl, Nat.le_refl _⟩ (by lia) fun to3 er ero eus ex ey eos b20 l20 ht3 her hero hef hex hey heos => ?_
    walk_at "s"
    walk_at "s"
    refine wDrop (wFreeze fun b21 l21 h21 => wFreeze fun b22 l22 h22 => ?_)
    repeat' (walk_at "s")
    refine wDictS rfl rfl (by decide) (by decide) fun gx => ?_
    repeat' (walk_at "s")
    refine ⟨[(_, _)], _, ⟨strKind_is _ _ _ _, rfl, trivial⟩, nodupQ_of (by kernel_rfl), Nat.le_of_ble_eq_true rfl, by walk_at "led", fun gxo hgx => ?_⟩
    walk_at "s"
    walk_at "s"
    refine wFreeze fun b23 l23 h23 => ?_
    repeat' (walk_at "s")
    have j22 : Le b22 b23 := l23
    have j21 : Le b21 b23 := l22.trans j22
    have j20 : Le b20 b23 := l21.trans j21
    have j18 : Le b18 b23 := (l19.trans l20).trans j20
    have j17 : Le b17 b23 := l18.trans j18
    have j16 : Le b16 b23 := l17.trans j17
    have j15 : Le b15 b23 := l16.trans j16
    have j14 : Le b14 b23 := l15.trans j15
    have j13 : Le b13 b23 := l14.trans j14
    have j2 : Le b2 b23 := z2.trans j13
    have hbeg := j21 _ _ h21
    have htf : ∀ SR kvs, OpRep Y.am.w SR b23 kvs op1 .tf := fun SR kvs => ⟨_, _, _, hop1.mono j18, j22 _ _ h22, .mk, na, _, rfl, hna.mono j17⟩
    have ga1 := j15 _ _ ha1
    have ga2 := j15 _ _ ha2
    have ge := j20 _ _ her
    have gef := hef.mono j20
    have gd1 := hd1.mono j15 kf2 (hff2.self (by lia))
    have gf2 := hf2.mono j15
    have gsix := hsix.mono j2
    have gform := j16 _ _ h16
    have gfonts : FontsAt Y.am.w b23 (.ref gx) := ⟨gx, gxo, fv, rfl, h23, hgx, hfont.mono j13⟩
    have hel : eus.length = 4 := hef.len
    obtain ⟨m1, run1, fnd1, len1⟩ := law_run1 hs1 hex hey heos hsok.sz hcc
    obtain ⟨m2, run2, fnd2, len2⟩ := law_run1 hs2 hex hey heos hsok.sz hcc
    obtain ⟨m3, run3, fnd3, len3⟩ := law_run2 hs2 hex hey heos hsok hcc
    clear h3 h4 h8 h9 h10 h11 h12 h13 h14 h16 h19 h21 h22 hr2 hr3 ha1 ha2 her hef hd1 hf2 hsix hop1 hna hfonts hur hfv hdv hch hint hint' hpl
    refine wAddL (.inl hbeg) .mk (.inl ga1) ho1 (by simp [sizeLine]; lia) fun r1 => ?_
    repeat' (walk_at "s")
    refine wAddL (.inr (.head _)) .mk (.inl ge) hero (by simp [sizeLine]; lia) fun r2 => ?_
    repeat' (walk_at "s")
    refine wFreeze fun b24 l24 h24 => wDrop ?_
    refine s_lmatrix (hr.le (by decide)) (gsix.mono l24) fun mv b25 l25 hmv => ?_
    repeat' (walk_at "s")
    refine s_Sheet (hr.le (by decide)) fun sh1 b26 w1 w2 w3 w4 l26 hsh => ?_
    have n25 : Le b25 b26 := l26
    have n24 : Le b24 b26 := l25.trans n25
    have n23 : Le b23 b26 := l24.trans n24
    have hs4 : SheetRep Y.am.w 4 b26 sh1 s.mx ([.tf] ++ ops1 ++ blk ex ey eos) := ⟨r2, _, _, .ref gx, fo, foo2, kf2, mv, ⟨w1, w2, w3, w4, hsh⟩, n24 _ _ h24, .mk, gfonts.mono n23, n23 _ _ gform, hsf2, hmv.mono n25,
      (((All2.cons (htf _ _) .nil).app gd1).app ((gef.toD (blk_plain _ _ _)) kf2 (hff2.self (by lia)))).mono fun _ _ h => h.mono (fun _ _ _ h => SheetRep.mono n23 3 h) n23⟩
    repeat' (walk_at "s")
    refine s_lay (n := 4) (hr.le (by decide)) hs4 run1 fun g1 gs1 q1 b27 l27 hg1 hgs1 => ?_
    repeat' (walk_at "s")
    refine s_ltold (hr.le (by decide)) hg1 .mk hgs1 len1 fun d1 do1 ds1 b28 l28 hd1 hdo1 hds1 => ?_
    repeat' (walk_at "s")
    have p23 : Le b23 b28 := (n23.trans l27).trans l28
    have hds1' := hds1
    rw [fnd1] at hds1'
    refine wAddL (.inl (p23 _ _ hbeg)) .mk (.inl (p23 _ _ ga2)) ho2 (by simp [sizeLine]; lia) fun r3 => ?_
    repeat' (walk_at "s")
    refine wAddL (.inr (.head _)) .mk (.inl (p23 _ _ ge)) hero (by simp [sizeLine]; lia) fun r4 => ?_
    repeat' (walk_at "s")
    refine wFreeze fun b29 l29 h29 => wDrop ?_
    refine wNewDict fun ex1 eo1 he1 => wFreeze fun b30 l30 h30 => ?_
    repeat' (walk_at "s")
    refine s_lmatrix (hr.le (by decide)) (gsix.mono ((p23.trans l29).trans l30)) fun mv2 b31 l31 hmv2 => ?_
    repeat' (walk_at "s")
    refine s_Sheet (hr.le (by decide)) fun sh2 b32 y1 y2 y3 y4 l32 hsh2 => ?_
    have n31 : Le b31 b32 := l32
    have n30 : Le b30 b32 := l31.trans n31
    have n29 : Le b29 b32 := l30.trans n30
    have n28 : Le b28 b32 := l29.trans n29
    have n23' : Le b23 b32 := p23.trans n28
    have hsf : SheetRep Y.am.w 1 b32 sh2 s.mx ([.tf] ++ ops2 ++ blk ex ey eos) := ⟨r4, _, _, .ref gx, ex1, eo1, [], mv2, ⟨y1, y2, y3, y4, hsh2⟩, n29 _ _ h29, .mk, gfonts.mono n23', n30 _ _ h30, he1, hmv2.mono n31,
      ((All2.cons (htf _ _) .nil).app gf2 |>.app gef).mono fun _ _ h => h.mono (fun _ _ _ h => h.elim) n23'⟩
    repeat' (walk_at "s")
    refine s_lay (n := 1) (hr.le (by decide)) hsf run2 fun g2 gs2 q2 b33 l33 hg2 hgs2 => ?_
    repeat' (walk_at "s")
    refine s_ltold (hr.le (by decide)) hg2 .mk hgs2 len2 fun d2 do2 ds2 b34 l34 hd2 hdo2 hds2 => ?_
    rw [fnd2] at hds2
    have p28 : Le b28 b34 := (n28.trans l33).trans l34
    repeat' (walk_at "s")
    refine wNeTold (hr.le (by decide)) (.inl (p28 _ _ hd1)) hdo1 (.inl hd2) hdo2 (hds1'.mono fun _ _ h => h.mono p28) hds2 ?_
    repeat' (walk_at "s")
    obtain ⟨sx, sxo, v1, v2, v3, v4, v5, v6, rfl, hsx, hsxo, hn1, hn2', hn3, hn4, hn5, hn6⟩ := id gsix
    have x23 : Le b23 b34 := p23.trans p28
    refine s_Op (hr.le (by decide)) fun op2 b35 l35 hop2 => ?_
    repeat' (walk_at "s")
    have x35 : Le b23 b35 := x23.trans l35
    refine wAddL (.inr (.head _)) .mk (.inl (x35 _ _ hbeg)) .mk (Nat.le_of_ble_eq_true rfl) fun r5 => ?_
    repeat' (walk_at "s")
    refine wAddL (.inr (.head _)) .mk (.inl (x35 _ _ ga2)) ho2 (by simp [sizeLine]; lia) fun r6 => ?_
    repeat' (walk_at "s")
    refine wAddL (.inr (.head _)) .mk (.inl (x35 _ _ ge)) hero (by simp [sizeLine]; lia) fun r7 => ?_
    repeat' (walk_at "s")
    refine wFreeze fun b36 l36 h36 => ?_
    refine wNewDict fun ex2 eo2 he2 => wFreeze fun b37 l37 h37 => ?_
    repeat' (walk_at "s")
    refine s_identity (hr.le (by decide)) fun mv3 b38 l38 hmv3 => ?_
    repeat' (walk_at "s")
    refine s_Sheet (hr.le (by decide)) fun sh3 b39 z1 z2' z3 z4 l39 hsh3 => ?_
    have m38 : Le b38 b39 := l39
    have m37 : Le b37 b39 := l38.trans m38
    have m36 : Le b36 b39 := l37.trans m37
    have m35 : Le b35 b39 := l36.trans m36
    have m34 : Le b34 b39 := l35.trans m35
    have m23 : Le b23 b39 := x23.trans m34
    have hcm : OpRep Y.am.w noS b39 [] op2 (.cm s) := ⟨sx, sxo, _, hop2.mono m35, m23 _ _ hsx, hsxo, _, _, _, _, _, _, rfl, hn1.mono m23, hn2'.mono m23, hn3.mono m23, hn4.mono m23, hn5.mono m23, hn6.mono m23⟩
    have hsp : SheetRep Y.am.w 1 b39 sh3 Mx.one ([.cm s] ++ [.tf] ++ ops2 ++ blk ex ey eos) := ⟨r7, _, _, .ref gx, ex2, eo2, [], mv3, ⟨z1, z2', z3, z4, hsh3⟩, m36 _ _ h36, .mk, gfonts.mono m23, m37 _ _ h37, he2, hmv3.mono m38,
      (((All2.cons hcm .nil).app ((All2.cons (htf _ _) .nil).mono fun _ _ h => h.mono (fun _ _ _ h => h.elim) m23)).app (gf2.mono m23)).app (gef.mono m23)⟩
    repeat' (walk_at "s")
    refine s_lay (n := 1) (hr.le (by decide)) hsp run3 fun g3 gs3 q3 b40 l40 hg3 hgs3 => ?_
    repeat' (walk_at "s")
    refine s_ltold (hr.le (by decide)) hg3 .mk hgs3 len3 fun d3 do3 ds3 b41 l41 hd3 hdo3 hds3 => ?_
    rw [fnd3] at hds3
    have y28 : Le b28 b41 := ((p28.trans m34).trans l40).trans l41
    repeat' (walk_at "s")
    refine wEqTold (hr.le (by decide)) (.inl (y28 _ _ hd1)) hdo1 (.inl hd3) hdo3 (hds1'.mono fun _ _ h => h.mono y28) hds3 ?_
    repeat' (walk_at "s")
    exact .done rfl
theorem b_lawT : ∀ (Y : Cx f_law.sc) {b sa so us ns} (hr : Room Y 45) (hsc : b sa = some so) (hso : IsLO us so) (hul : us.length ≤ 100000) (hlen : us.length ≤ 63) (hint : IntsAre us ns), Wp Y (execs (bodyOf f_law.st) Y.env) b [] [some (.ref sa), none, none, none, none, none, none, none, none, none, none, none, none] (fun fl b' led' _ => retOf fl = .bool true) :=
  fun Y _ _ _ _ _ hr hsc hso hul hlen hint => b_law Y hr hsc hso hul hlen hint
end Mine
set_option hygiene true
set_option compiler.extract_closed true
namespace Mine
theorem hd.tw10012880186880212623 : True := trivial
theorem hd.tw10024716035694756283 : True := trivial
theorem hd.tw10030107230732127627 : True := trivial
theorem hd.tw100483095206116625 : True := trivial
theorem hd.tw1005483496087919985 : True := trivial
theorem hd.tw10098268173465320503 : True := trivial
theorem hd.tw10111801491309104144 : True := trivial
theorem hd.tw1011335219593555734 : True := trivial
theorem hd.tw10117440562283002822 : True := trivial
theorem hd.tw1013155817946168525 : True := trivial
theorem hd.tw10170382586518783626 : True := trivial
theorem hd.tw10203026625882799534 : True := trivial
theorem hd.tw10216474801634566288 : True := trivial
theorem hd.tw10246146449241189800 : True := trivial
theorem hd.tw10258225898301398825 : True := trivial
theorem hd.tw10258999931320997221 : True := trivial
theorem hd.tw10264135568141901301 : True := trivial
theorem hd.tw10292235466723388172 : True := trivial
theorem hd.tw10296555574160606952 : True := trivial
theorem hd.tw1033889070964956483 : True := trivial
theorem hd.tw10403243965636340961 : True := trivial
theorem hd.tw10404513684093684653 : True := trivial
theorem hd.tw10424393626065333798 : True := trivial
theorem hd.tw1043307727769730188 : True := trivial
theorem hd.tw10458740792067480800 : True := trivial
theorem hd.tw10465514089279642386 : True := trivial
theorem hd.tw10491609206876299696 : True := trivial
theorem hd.tw10501684987696457342 : True := trivial
theorem hd.tw10507497572311344420 : True := trivial
theorem hd.tw1051681510052472703 : True := trivial
theorem hd.tw10525666975642140466 : True := trivial
theorem hd.tw10531373872144210542 : True := trivial
theorem hd.tw10543509907540572799 : True := trivial
theorem hd.tw10583446816852156582 : True := trivial
theorem hd.tw10601615944963115059 : True := trivial
theorem hd.tw10603584201595350602 : True := trivial
theorem hd.tw10614716105012338702 : True := trivial
theorem hd.tw10678649693572172417 : True := trivial
theorem hd.tw10737712728331077403 : True := trivial
theorem hd.tw10738003575532504788 : True := trivial
theorem hd.tw10743916045514856203 : True := trivial
theorem hd.tw10752148897807903841 : True := trivial
theorem hd.tw10778013660560245624 : True := trivial
theorem hd.tw10781468475247234061 : True := trivial
theorem hd.tw10784824025267889561 : True := trivial
theorem hd.tw10788059911547816233 : True := trivial
theorem hd.tw10792051664901133789 : True := trivial
theorem hd.tw10844753989422098599 : True := trivial
theorem hd.tw10847404155465417027 : True := trivial
theorem hd.tw10860895700388868024 : True := trivial
theorem hd.tw10879034167726328663 : True := trivial
theorem hd.tw1088296927520436173 : True := trivial
theorem hd.tw10905682514733158466 : True := trivial
theorem hd.tw10919297434634762262 : True := trivial
theorem hd.tw10949625832625181284 : True := trivial
theorem hd.tw1097998534492414930 : True := trivial
theorem hd.tw11011131195910976488 : True := trivial
theorem hd.tw11032806212648032379 : True := trivial
theorem hd.tw11034497122203965937 : True := trivial
theorem hd.tw11054480109507316185 : True := trivial
theorem hd.tw11060181180124365445 : True := trivial
theorem hd.tw11079593142295127227 : True := trivial
theorem hd.tw11115866451450875312 : True := trivial
theorem hd.tw11117797201346649052 : True := trivial
theorem hd.tw11128854368766332075 : True := trivial
theorem hd.tw11136197038861592535 : True := trivial
theorem hd.tw11151547217846952531 : True := trivial
theorem hd.tw11161378853769524075 : True := trivial
theorem hd.tw11162318198679636149 : True := trivial
theorem hd.tw1118553966540926140 : True := trivial
theorem hd.tw11210553801493137410 : True := trivial
theorem hd.tw11232374478483605306 : True := trivial
theorem hd.tw11249132867342737325 : True := trivial
theorem hd.tw11251137523995926341 : True := trivial
theorem hd.tw11256106856564762260 : True := trivial
theorem hd.tw11275094898678878271 : True := trivial
theorem hd.tw11283319371284918911 : True := trivial
theorem hd.tw1129884963351977449 : True := trivial
theorem hd.tw11319097763535126812 : True := trivial
theorem hd.tw11319892378374348655 : True := trivial
theorem hd.tw11334062482582688307 : True := trivial
theorem hd.tw11364443708160879001 : True := trivial
theorem hd.tw11375277706881905925 : True := trivial
theorem hd.tw11389486352061984695 : True := trivial
theorem hd.tw11402082603771596011 : True := trivial
theorem hd.tw11402939732021071671 : True := trivial
theorem hd.tw11423055823289521279 : True := trivial
theorem hd.tw11465210709893060100 : True := trivial
theorem hd.tw1147470481896660410 : True := trivial
theorem hd.tw11507959949525687343 : True := trivial
theorem hd.tw11513968764499736323 : True := trivial
theorem hd.tw11551083187376567056 : True := trivial
theorem hd.tw11587034568685482758 : True := trivial
theorem hd.tw11623594800819314181 : True := trivial
theorem hd.tw11631869004601391166 : True := trivial
theorem hd.tw11631947586910100387 : True := trivial
theorem hd.tw11652457597714270106 : True := trivial
theorem hd.tw11660266114150955751 : True := trivial
theorem hd.tw11663481321943121269 : True := trivial
theorem hd.tw11672842613191775419 : True := trivial
theorem hd.tw11709330566771433103 : True := trivial
theorem hd.tw11713075325732132258 : True := trivial
theorem hd.tw11754176132448286083 : True := trivial
theorem hd.tw11778180911958503814 : True := trivial
theorem hd.tw11785442959627412574 : True := trivial
theorem hd.tw11801993109049149486 : True := trivial
theorem hd.tw11814627755841444246 : True := trivial
theorem hd.tw11818894175942126238 : True := trivial
theorem hd.tw11852641145169952659 : True := trivial
theorem hd.tw11893437276241958245 : True := trivial
theorem hd.tw11905163887095721015 : True := trivial
theorem hd.tw11912922877643110818 : True := trivial
theorem hd.tw11917015161858427179 : True := trivial
theorem hd.tw1194904439430580092 : True := trivial
theorem hd.tw11953376511379268794 : True := trivial
theorem hd.tw11959044307898795358 : True := trivial
theorem hd.tw11968265576560266318 : True := trivial
theorem hd.tw1197925565968671727 : True := trivial
theorem hd.tw12023040214023829324 : True := trivial
theorem hd.tw12038449962744721747 : True := trivial
theorem hd.tw12050417470231563642 : True := trivial
theorem hd.tw12058812876911547015 : True := trivial
theorem hd.tw12070051907170230399 : True := trivial
theorem hd.tw12070654863422294720 : True := trivial
theorem hd.tw12079599178630881963 : True := trivial
theorem hd.tw1208734638264122097 : True := trivial
theorem hd.tw12092154237167983948 : True := trivial
theorem hd.tw12112201142124510154 : True := trivial
theorem hd.tw12113243949977362033 : True := trivial
theorem hd.tw12127338746724423809 : True := trivial
theorem hd.tw12131494931117144662 : True := trivial
theorem hd.tw12150285567837507387 : True := trivial
theorem hd.tw12173100003817136821 : True := trivial
theorem hd.tw1222794163293265305 : True := trivial
theorem hd.tw12239354291974867115 : True := trivial
theorem hd.tw12268275109542032366 : True := trivial
theorem hd.tw12271959270614036898 : True := trivial
theorem hd.tw12337632362937886050 : True := trivial
theorem hd.tw12364972598781006883 : True := trivial
theorem hd.tw12393119488966705847 : True := trivial
theorem hd.tw12394076208661396346 : True := trivial
theorem hd.tw12399718760709695909 : True := trivial
theorem hd.tw1241404454085649124 : True := trivial
theorem hd.tw12414669353804360901 : True := trivial
theorem hd.tw12451258846644117672 : True := trivial
theorem hd.tw12459740579856956213 : True := trivial
theorem hd.tw12480425521718506038 : True := trivial
theorem hd.tw12487502673411948298 : True := trivial
theorem hd.tw12509009523430927325 : True := trivial
theorem hd.tw12521463284412890351 : True := trivial
theorem hd.tw12575139184659369484 : True := trivial
theorem hd.tw12588582704262371052 : True := trivial
theorem hd.tw12590977762386282803 : True := trivial
theorem hd.tw12591134339009171964 : True := trivial
theorem hd.tw12598724348716800887 : True := trivial
theorem hd.tw12602439190401603521 : True := trivial
theorem hd.tw12629568148972539762 : True := trivial
theorem hd.tw12631932088317031055 : True := trivial
theorem hd.tw12647368939536790636 : True := trivial
theorem hd.tw12659318050587179527 : True := trivial
theorem hd.tw12685813987229840507 : True := trivial
theorem hd.tw12744807935193187038 : True := trivial
theorem hd.tw12769127236821124696 : True := trivial
theorem hd.tw12836421721834161667 : True := trivial
theorem hd.tw128412058910260475 : True := trivial
theorem hd.tw12861998865439983172 : True := trivial
theorem hd.tw12870888531099404533 : True := trivial
theorem hd.tw12900700647772717614 : True := trivial
theorem hd.tw12901994302517312135 : True := trivial
theorem hd.tw12936449754285732098 : True := trivial
theorem hd.tw12940713784782232206 : True := trivial
theorem hd.tw12949589719889679912 : True := trivial
theorem hd.tw12952509933414984302 : True := trivial
theorem hd.tw1299046323782801668 : True := trivial
theorem hd.tw12994019391074448376 : True := trivial
theorem hd.tw13038990169509382042 : True := trivial
theorem hd.tw13047593935725612058 : True := trivial
theorem hd.tw13066319289922817542 : True := trivial
theorem hd.tw13092906067662860646 : True := trivial
theorem hd.tw13122850982685727845 : True := trivial
theorem hd.tw13130339120466069327 : True := trivial
theorem hd.tw13132618709999183898 : True := trivial
theorem hd.tw13160604113216922460 : True := trivial
theorem hd.tw13171141561276507362 : True := trivial
theorem hd.tw13181700845877081190 : True := trivial
theorem hd.tw13217225542625558698 : True := trivial
theorem hd.tw13217827037086042188 : True := trivial
theorem hd.tw13218659294841961345 : True := trivial
theorem hd.tw13220430256171166289 : True := trivial
theorem hd.tw13225837485096350037 : True := trivial
theorem hd.tw13250295577313409016 : True := trivial
theorem hd.tw13262116225945230012 : True := trivial
theorem hd.tw13267510147771200024 : True := trivial
theorem hd.tw13277076834127875243 : True := trivial
theorem hd.tw13280443560766958183 : True := trivial
theorem hd.tw13285133528070534704 : True := trivial
theorem hd.tw13289513938125300765 : True := trivial
theorem hd.tw13293453174229064190 : True := trivial
theorem hd.tw1331086792558400476 : True := trivial
theorem hd.tw13315533130655954831 : True := trivial
theorem hd.tw13321331477185743149 : True := trivial
theorem hd.tw13322179722446271537 : True := trivial
theorem hd.tw13323071517005850279 : True := trivial
theorem hd.tw13338143212406534295 : True := trivial
theorem hd.tw13342606739435360313 : True := trivial
theorem hd.tw13363553139645760527 : True := trivial
theorem hd.tw13365295217650922812 : True := trivial
theorem hd.tw13368278939475635651 : True := trivial
theorem hd.tw13372043803930879067 : True := trivial
theorem hd.tw13384067686631765065 : True := trivial
theorem hd.tw13409441903868389331 : True := trivial
theorem hd.tw13431754692932380062 : True := trivial
theorem hd.tw13466754112058979494 : True := trivial
theorem hd.tw13474097485772985973 : True := trivial
theorem hd.tw13475242022060392486 : True := trivial
theorem hd.tw13518370688599389936 : True := trivial
theorem hd.tw13531707123254989501 : True := trivial
theorem hd.tw13532847315355080253 : True := trivial
theorem hd.tw13566260322249332789 : True := trivial
theorem hd.tw1359830224848277088 : True := trivial
theorem hd.tw13609717118414637909 : True := trivial
theorem hd.tw13638418597567726942 : True := trivial
theorem hd.tw13642289790063256904 : True := trivial
theorem hd.tw13753220567063992666 : True := trivial
theorem hd.tw13770079208771991547 : True := trivial
theorem hd.tw13783031573616600631 : True := trivial
theorem hd.tw13790719812936386609 : True := trivial
theorem hd.tw1379335367625716243 : True := trivial
theorem hd.tw13825509269061658866 : True := trivial
theorem hd.tw13828106393651249627 : True := trivial
theorem hd.tw1382963296337349011 : True := trivial
theorem hd.tw13855881374063213867 : True := trivial
theorem hd.tw13855946660403688772 : True := trivial
theorem hd.tw13866372431405929976 : True := trivial
theorem hd.tw13893168526513508166 : True := trivial
theorem hd.tw13903934854276604550 : True := trivial
theorem hd.tw13919464512627920130 : True := trivial
theorem hd.tw13931416462566266981 : True := trivial
theorem hd.tw13994979335412520660 : True := trivial
theorem hd.tw14006173549557618073 : True := trivial
theorem hd.tw14029546391885035639 : True := trivial
theorem hd.tw14040608126747316905 : True := trivial
theorem hd.tw14060154772996877548 : True := trivial
theorem hd.tw14060237666301923597 : True := trivial
theorem hd.tw14061768893426073819 : True := trivial
theorem hd.tw1409312971732116557 : True := trivial
theorem hd.tw14120982254508448379 : True := trivial
theorem hd.tw1413172679324656950 : True := trivial
theorem hd.tw14137390275340422267 : True := trivial
theorem hd.tw14147866220447708227 : True := trivial
theorem hd.tw14168552714766633299 : True := trivial
theorem hd.tw14176624398918483544 : True := trivial
theorem hd.tw14194692369981509116 : True := trivial
theorem hd.tw14246236162039180721 : True := trivial
theorem hd.tw1425423193147277237 : True := trivial
theorem hd.tw14256263135024787601 : True := trivial
theorem hd.tw14294001040229213422 : True := trivial
theorem hd.tw14353793391729792155 : True := trivial
theorem hd.tw1439246655266547700 : True := trivial
theorem hd.tw14400467628812073631 : True := trivial
theorem hd.tw14438451200097066615 : True := trivial
theorem hd.tw14457593812595234344 : True := trivial
theorem hd.tw14462709497994964445 : True := trivial
theorem hd.tw14478148883734587675 : True := trivial
theorem hd.tw14492701947808656938 : True := trivial
theorem hd.tw1452849714261714991 : True := trivial
theorem hd.tw14553816603554493358 : True := trivial
theorem hd.tw14560493823538711346 : True := trivial
theorem hd.tw14567429538950270057 : True := trivial
theorem hd.tw14583512912279018726 : True := trivial
theorem hd.tw14598272352848978880 : True := trivial
theorem hd.tw14612060388864693735 : True := trivial
theorem hd.tw14620637471214046174 : True := trivial
theorem hd.tw14667805832236412624 : True := trivial
theorem hd.tw14683707025165767436 : True := trivial
theorem hd.tw14685462170515437407 : True := trivial
theorem hd.tw14705683404202351889 : True := trivial
theorem hd.tw14727110085682223627 : True := trivial
theorem hd.tw14745743045033390146 : True := trivial
theorem hd.tw14768889098011018680 : True := trivial
theorem hd.tw14772383043592177042 : True := trivial
theorem hd.tw14852329139284432860 : True := trivial
theorem hd.tw14859038896228082724 : True := trivial
theorem hd.tw14864646467605168035 : True := trivial
theorem hd.tw14892549342360969540 : True := trivial
theorem hd.tw14896477498954680388 : True := trivial
theorem hd.tw14906377314874228009 : True := trivial
theorem hd.tw14955159897011116063 : True := trivial
theorem hd.tw14960593345356199642 : True := trivial
theorem hd.tw14980023328507725902 : True := trivial
theorem hd.tw14984183105004643987 : True := trivial
theorem hd.tw14991384322417631237 : True := trivial
theorem hd.tw14993540845111842924 : True := trivial
theorem hd.tw15030894091695109418 : True := trivial
theorem hd.tw15042006015671813226 : True := trivial
theorem hd.tw15043168886218598503 : True := trivial
theorem hd.tw15048261121198461528 : True := trivial
theorem hd.tw1506431575118746342 : True := trivial
theorem hd.tw15083628210047938546 : True := trivial
theorem hd.tw15089522573102190283 : True := trivial
theorem hd.tw15103106377680225435 : True := trivial
theorem hd.tw15114108414909977919 : True := trivial
theorem hd.tw15152743547302097792 : True := trivial
theorem hd.tw15153279154761372571 : True := trivial
theorem hd.tw15166520500009309586 : True := trivial
theorem hd.tw15179676742415161110 : True := trivial
theorem hd.tw15199589371867527261 : True := trivial
theorem hd.tw15207398651663016943 : True := trivial
theorem hd.tw15220180469806662145 : True := trivial
theorem hd.tw15238134620097496406 : True := trivial
theorem hd.tw15277330632498426303 : True := trivial
theorem hd.tw15279998641719260112 : True := trivial
theorem hd.tw15344866539931968096 : True := trivial
theorem hd.tw1535757262459896012 : True := trivial
theorem hd.tw15367242080415987702 : True := trivial
theorem hd.tw15368132723985388332 : True := trivial
theorem hd.tw15411387601460861337 : True := trivial
theorem hd.tw15416985209724490359 : True := trivial
theorem hd.tw15422856539912107476 : True := trivial
theorem hd.tw15427206886491885616 : True := trivial
theorem hd.tw15463257786427224491 : True := trivial
theorem hd.tw15508949281206285077 : True := trivial
theorem hd.tw15527848837575444561 : True := trivial
theorem hd.tw15529170255622000948 : True := trivial
theorem hd.tw15578025631644234493 : True := trivial
theorem hd.tw15595854959937240912 : True := trivial
theorem hd.tw15610959940260225430 : True := trivial
theorem hd.tw15615420239508185596 : True := trivial
theorem hd.tw15615537253650120727 : True := trivial
theorem hd.tw15616948245753086127 : True := trivial
theorem hd.tw1563692795949630186 : True := trivial
theorem hd.tw15637593595834871717 : True := trivial
theorem hd.tw15642763164714097627 : True := trivial
theorem hd.tw15651613401221246523 : True := trivial
theorem hd.tw15673258824015622330 : True := trivial
theorem hd.tw15675198926951892251 : True := trivial
theorem hd.tw15683763237869141255 : True := trivial
theorem hd.tw15687388767607454252 : True := trivial
theorem hd.tw15693365400906537702 : True := trivial
theorem hd.tw15759970867653108152 : True := trivial
theorem hd.tw15790720579355451973 : True := trivial
theorem hd.tw1580110805410547442 : True := trivial
theorem hd.tw15813434630575017362 : True := trivial
theorem hd.tw15833661619300960221 : True := trivial
theorem hd.tw15837987909243819085 : True := trivial
theorem hd.tw15852365999677673905 : True := trivial
theorem hd.tw1588505670450824345 : True := trivial
theorem hd.tw1589133516308662214 : True := trivial
theorem hd.tw15910714762333108613 : True := trivial
theorem hd.tw15924899543223041283 : True := trivial
theorem hd.tw15946388913382835224 : True := trivial
theorem hd.tw15948780112781908787 : True := trivial
theorem hd.tw15967140613478806237 : True := trivial
theorem hd.tw15987713032478767096 : True := trivial
theorem hd.tw15992342658441690333 : True := trivial
theorem hd.tw1600037746751723098 : True := trivial
theorem hd.tw16006246977917349235 : True := trivial
theorem hd.tw16007149819294483003 : True := trivial
theorem hd.tw16009884308244765898 : True := trivial
theorem hd.tw16011055738799735888 : True := trivial
theorem hd.tw16029623286316568529 : True := trivial
theorem hd.tw1603739661141634737 : True := trivial
theorem hd.tw16037735763661986305 : True := trivial
theorem hd.tw16053994301053490033 : True := trivial
theorem hd.tw16056359734778111409 : True := trivial
theorem hd.tw16064382804478563927 : True := trivial
theorem hd.tw16091413853298234908 : True := trivial
theorem hd.tw1610171440888473627 : True := trivial
theorem hd.tw16138627921320673191 : True := trivial
theorem hd.tw16154546982801380032 : True := trivial
theorem hd.tw16155205043701107222 : True := trivial
theorem hd.tw16157073509204512506 : True := trivial
theorem hd.tw16169374299450900766 : True := trivial
theorem hd.tw16178712458983371728 : True := trivial
theorem hd.tw16194383521188589630 : True := trivial
theorem hd.tw16211521421427940678 : True := trivial
theorem hd.tw16218561640140576711 : True := trivial
theorem hd.tw16222499966895952523 : True := trivial
theorem hd.tw1623716613649749871 : True := trivial
theorem hd.tw16257038226119295666 : True := trivial
theorem hd.tw16259696140248634718 : True := trivial
theorem hd.tw162610821266807592 : True := trivial
theorem hd.tw16299908979028503884 : True := trivial
theorem hd.tw16302227732802510677 : True := trivial
theorem hd.tw16332348944364537037 : True := trivial
theorem hd.tw16345102440705955213 : True := trivial
theorem hd.tw16357263729072622229 : True := trivial
theorem hd.tw16376525773666504680 : True := trivial
theorem hd.tw16412773359747925120 : True := trivial
theorem hd.tw16432713993328977331 : True := trivial
theorem hd.tw16456969618363192440 : True := trivial
theorem hd.tw16473244170626142550 : True := trivial
theorem hd.tw16477043939570097188 : True := trivial
theorem hd.tw16502264421070913907 : True := trivial
theorem hd.tw16563502710865162680 : True := trivial
theorem hd.tw16619899343871320964 : True := trivial
theorem hd.tw16634568088961857937 : True := trivial
theorem hd.tw16640546478005224243 : True := trivial
theorem hd.tw16649331688326792143 : True := trivial
theorem hd.tw16650738400726616396 : True := trivial
theorem hd.tw1666387254794493845 : True := trivial
theorem hd.tw16684818696116721337 : True := trivial
theorem hd.tw16694946328126371552 : True := trivial
theorem hd.tw16713699803418581334 : True := trivial
theorem hd.tw16722109127936396110 : True := trivial
theorem hd.tw16772102934027710169 : True := trivial
theorem hd.tw16794629799341752650 : True := trivial
theorem hd.tw16828841361933241965 : True := trivial
theorem hd.tw16829038064831673031 : True := trivial
theorem hd.tw16853341256802265648 : True := trivial
theorem hd.tw16854836200859644116 : True := trivial
theorem hd.tw16858285156579221889 : True := trivial
theorem hd.tw16868993833207775613 : True := trivial
theorem hd.tw16896567674234606475 : True := trivial
theorem hd.tw16904818350239718627 : True := trivial
theorem hd.tw16919406825032445293 : True := trivial
theorem hd.tw16920754564084929960 : True := trivial
theorem hd.tw16945582573551092051 : True := trivial
theorem hd.tw16970440968685349367 : True := trivial
theorem hd.tw1699103778626983548 : True := trivial
theorem hd.tw17001982702790524580 : True := trivial
theorem hd.tw17047115858639842297 : True := trivial
theorem hd.tw17054507655720011243 : True := trivial
theorem hd.tw17061077104543960549 : True := trivial
theorem hd.tw17062030032774818151 : True := trivial
theorem hd.tw17066044127408595049 : True := trivial
theorem hd.tw17070941380808615275 : True := trivial
theorem hd.tw17076082267592564974 : True := trivial
theorem hd.tw17087091549796120035 : True := trivial
theorem hd.tw17088047866570459193 : True := trivial
theorem hd.tw1712922718373300912 : True := trivial
theorem hd.tw17130151131035750659 : True := trivial
theorem hd.tw17177331786930743035 : True := trivial
theorem hd.tw17183224562656869120 : True := trivial
theorem hd.tw17213754286329925777 : True := trivial
theorem hd.tw17234923516513369237 : True := trivial
theorem hd.tw17252143746492648416 : True := trivial
theorem hd.tw17258206423299326598 : True := trivial
theorem hd.tw17312999752573914782 : True := trivial
theorem hd.tw17316778381555349529 : True := trivial
theorem hd.tw17325209927041812611 : True := trivial
theorem hd.tw17330132731328240911 : True := trivial
theorem hd.tw17330945745186091897 : True := trivial
theorem hd.tw17336936450418997793 : True := trivial
theorem hd.tw17353292581356140935 : True := trivial
theorem hd.tw17377529257436501650 : True := trivial
theorem hd.tw17383039377914418654 : True := trivial
theorem hd.tw17387473266821786944 : True := trivial
theorem hd.tw17413551345404909392 : True := trivial
theorem hd.tw17420951861521290806 : True := trivial
theorem hd.tw17429513623812275283 : True := trivial
theorem hd.tw17447410573909459338 : True := trivial
theorem hd.tw17454471701868102899 : True := trivial
theorem hd.tw17466564637892440618 : True := trivial
theorem hd.tw17470177872615007328 : True := trivial
theorem hd.tw17471934795394947791 : True := trivial
theorem hd.tw17491317419825422843 : True := trivial
theorem hd.tw17495340751864218003 : True := trivial
theorem hd.tw17542962492245011380 : True := trivial
theorem hd.tw17562767543260142214 : True := trivial
theorem hd.tw17574625026820762457 : True := trivial
theorem hd.tw17577478241444706838 : True := trivial
theorem hd.tw17583924267553061668 : True := trivial
theorem hd.tw17588044629489971554 : True := trivial
theorem hd.tw17599816209265215132 : True := trivial
theorem hd.tw1760603350576429475 : True := trivial
theorem hd.tw17606422857730326317 : True := trivial
theorem hd.tw17628472586750557451 : True := trivial
theorem hd.tw17665311703635508150 : True := trivial
theorem hd.tw17672654358674132775 : True := trivial
theorem hd.tw17673860158736603733 : True := trivial
theorem hd.tw17681399029576232318 : True := trivial
theorem hd.tw17689719872356567411 : True := trivial
theorem hd.tw17696971302532935780 : True := trivial
theorem hd.tw17711083657039698284 : True := trivial
theorem hd.tw17714235663813219645 : True := trivial
theorem hd.tw17739348878880393726 : True := trivial
theorem hd.tw1779329888486165629 : True := trivial
theorem hd.tw17808607793243039243 : True := trivial
theorem hd.tw1781861727890032366 : True := trivial
theorem hd.tw17843490464661113860 : True := trivial
theorem hd.tw17893044597097874663 : True := trivial
theorem hd.tw17895171251205151618 : True := trivial
theorem hd.tw17901334829092211166 : True := trivial
theorem hd.tw17902569758825723728 : True := trivial
theorem hd.tw17903497710992402801 : True := trivial
theorem hd.tw17919194246423945575 : True := trivial
theorem hd.tw17925215291927510665 : True := trivial
theorem hd.tw1792636949448641307 : True := trivial
theorem hd.tw17948085552500728524 : True := trivial
theorem hd.tw17950676927832955104 : True := trivial
theorem hd.tw17975533764899295144 : True := trivial
theorem hd.tw17986969038992634876 : True := trivial
theorem hd.tw1798728101399967580 : True := trivial
theorem hd.tw1800889605409440832 : True := trivial
theorem hd.tw180250358704556663 : True := trivial
theorem hd.tw18093812233618175256 : True := trivial
theorem hd.tw18095200977026478895 : True := trivial
theorem hd.tw18103342009636024947 : True := trivial
theorem hd.tw18103420901670897651 : True := trivial
theorem hd.tw18129098259903571784 : True := trivial
theorem hd.tw18141747278334056540 : True := trivial
theorem hd.tw18166333605607142505 : True := trivial
theorem hd.tw18176940659606848779 : True := trivial
theorem hd.tw18185175575083235020 : True := trivial
theorem hd.tw18219297243305740317 : True := trivial
theorem hd.tw18241275227582772068 : True := trivial
theorem hd.tw18245042118932799458 : True := trivial
theorem hd.tw18264374347568628810 : True := trivial
theorem hd.tw18264458681608554015 : True := trivial
theorem hd.tw18268791191939849864 : True := trivial
theorem hd.tw18282886421538689439 : True := trivial
theorem hd.tw18291419657060728153 : True := trivial
theorem hd.tw18293732401869909652 : True := trivial
theorem hd.tw18293851220164018083 : True := trivial
theorem hd.tw18300207936620678264 : True := trivial
theorem hd.tw18302498484699191785 : True := trivial
theorem hd.tw18320066246396331634 : True := trivial
theorem hd.tw18322514126500204803 : True := trivial
theorem hd.tw18343703819029505601 : True := trivial
theorem hd.tw18358800413957953924 : True := trivial
theorem hd.tw1836080755315867724 : True := trivial
theorem hd.tw1847840615245081061 : True := trivial
theorem hd.tw1848646778235469078 : True := trivial
theorem hd.tw1852308525546674916 : True := trivial
theorem hd.tw185848376630758926 : True := trivial
theorem hd.tw1860674893733999873 : True := trivial
theorem hd.tw1865391376527767206 : True := trivial
theorem hd.tw1882180444382439491 : True := trivial
theorem hd.tw1888629882248256335 : True := trivial
theorem hd.tw1895953908935734384 : True := trivial
theorem hd.tw189712035060473897 : True := trivial
theorem hd.tw190519026028168232 : True := trivial
theorem hd.tw1954109241102656831 : True := trivial
theorem hd.tw1997569388931296116 : True := trivial
theorem hd.tw2000490053193787569 : True := trivial
theorem hd.tw2001351230973187099 : True := trivial
theorem hd.tw2040953506067074369 : True := trivial
theorem hd.tw2040990291671593033 : True := trivial
theorem hd.tw2042122900567883604 : True := trivial
theorem hd.tw2042292140826266357 : True := trivial
theorem hd.tw2051048951616859547 : True := trivial
theorem hd.tw2068664650715991707 : True := trivial
theorem hd.tw2071065973214961318 : True := trivial
theorem hd.tw2101469004524951375 : True := trivial
theorem hd.tw2114630138375439770 : True := trivial
theorem hd.tw212345690472687942 : True := trivial
theorem hd.tw2134215046882385847 : True := trivial
theorem hd.tw2167537188350426706 : True := trivial
theorem hd.tw2195365466389143174 : True := trivial
theorem hd.tw2216850387143573719 : True := trivial
theorem hd.tw2252305205657439004 : True := trivial
theorem hd.tw22551697357593593 : True := trivial
theorem hd.tw2263123870574935043 : True := trivial
theorem hd.tw226724450230711188 : True := trivial
theorem hd.tw2284436838669742495 : True := trivial
theorem hd.tw2287590429203783052 : True := trivial
theorem hd.tw2295870552580634182 : True := trivial
theorem hd.tw2304311442786299043 : True := trivial
theorem hd.tw2315301623876862497 : True := trivial
theorem hd.tw2323474266016966308 : True := trivial
theorem hd.tw2327210489368252092 : True := trivial
theorem hd.tw2329189449893159454 : True := trivial
theorem hd.tw2352750151352029642 : True := trivial
theorem hd.tw2386827423013361158 : True := trivial
theorem hd.tw2391449824757734642 : True := trivial
theorem hd.tw242841246431481386 : True := trivial
theorem hd.tw243823211424636713 : True := trivial
theorem hd.tw2442259710966052079 : True := trivial
theorem hd.tw2448417245163862455 : True := trivial
theorem hd.tw2457190517430149469 : True := trivial
theorem hd.tw2480057099694739299 : True := trivial
theorem hd.tw2502866573005156581 : True := trivial
theorem hd.tw250903467453971090 : True := trivial
theorem hd.tw257007361410690125 : True := trivial
theorem hd.tw2595994805191909183 : True := trivial
theorem hd.tw2603259988358896889 : True := trivial
theorem hd.tw2608437505485318709 : True := trivial
theorem hd.tw262745018181394680 : True := trivial
theorem hd.tw2658526732547218105 : True := trivial
theorem hd.tw2708950531961675432 : True := trivial
theorem hd.tw2781682124601125471 : True := trivial
theorem hd.tw2783992281797965187 : True := trivial
theorem hd.tw2788664435532181463 : True := trivial
theorem hd.tw2799067240506288376 : True := trivial
theorem hd.tw2799716289819351777 : True := trivial
theorem hd.tw280609765759037681 : True := trivial
theorem hd.tw2808349399557158395 : True := trivial
theorem hd.tw2845207389951388047 : True := trivial
theorem hd.tw2845679848157327705 : True := trivial
theorem hd.tw2867327485932766208 : True := trivial
theorem hd.tw2887051446865420828 : True := trivial
theorem hd.tw2922222751358710265 : True := trivial
theorem hd.tw2930668341846507884 : True := trivial
theorem hd.tw2951005344575393816 : True := trivial
theorem hd.tw2984673159018891963 : True := trivial
theorem hd.tw2999033326186475339 : True := trivial
theorem hd.tw3008623586974134963 : True := trivial
theorem hd.tw3039998526598829958 : True := trivial
theorem hd.tw307737655149646647 : True := trivial
theorem hd.tw3109861748172591687 : True := trivial
theorem hd.tw313027258313007627 : True := trivial
theorem hd.tw3178231758103763310 : True := trivial
theorem hd.tw3182187488490625086 : True := trivial
theorem hd.tw3196399650302076718 : True := trivial
theorem hd.tw3219085151875037572 : True := trivial
theorem hd.tw3229955645248102723 : True := trivial
theorem hd.tw3259873300814134281 : True := trivial
theorem hd.tw3309697970292668127 : True := trivial
theorem hd.tw3350930974749635488 : True := trivial
theorem hd.tw3386092968808520798 : True := trivial
theorem hd.tw3404104791013757517 : True := trivial
theorem hd.tw3419581819265744254 : True := trivial
theorem hd.tw3429492842335990350 : True := trivial
theorem hd.tw3434918251397683217 : True := trivial
theorem hd.tw3442329435671937591 : True := trivial
theorem hd.tw3443669649825651883 : True := trivial
theorem hd.tw3451239065008710300 : True := trivial
theorem hd.tw3452082135128663414 : True := trivial
theorem hd.tw3484992998616243462 : True := trivial
theorem hd.tw3493717111155160527 : True := trivial
theorem hd.tw3513125359445811510 : True := trivial
theorem hd.tw3571134770919094901 : True := trivial
theorem hd.tw3646829019195819677 : True := trivial
theorem hd.tw3673020696563887462 : True := trivial
theorem hd.tw3673089383077640791 : True := trivial
theorem hd.tw368366308016060594 : True := trivial
theorem hd.tw3694398316872202419 : True := trivial
theorem hd.tw3704167492566942397 : True := trivial
theorem hd.tw3722166409189360004 : True := trivial
theorem hd.tw3759623122121258479 : True := trivial
theorem hd.tw3789350110615891812 : True := trivial
theorem hd.tw3795277891434052102 : True := trivial
theorem hd.tw3816877163431070358 : True := trivial
theorem hd.tw3828038474966422129 : True := trivial
theorem hd.tw3878383114103592795 : True := trivial
theorem hd.tw3915529967508079626 : True := trivial
theorem hd.tw3919010098100093602 : True := trivial
theorem hd.tw3920623390966001496 : True := trivial
theorem hd.tw3922637787740509324 : True := trivial
theorem hd.tw3940546777539579641 : True := trivial
theorem hd.tw3941438180925939637 : True := trivial
theorem hd.tw395138700845864316 : True := trivial
theorem hd.tw3953601041324332601 : True := trivial
theorem hd.tw400957795416337517 : True := trivial
theorem hd.tw4014540891139286612 : True := trivial
theorem hd.tw4015398097383911347 : True := trivial
theorem hd.tw4021928978595405253 : True := trivial
theorem hd.tw402640490398009360 : True := trivial
theorem hd.tw4065347644161347641 : True := trivial
theorem hd.tw4086058157674990017 : True := trivial
theorem hd.tw4091639524402994376 : True := trivial
theorem hd.tw4111692666942324129 : True := trivial
theorem hd.tw4115565904173853331 : True := trivial
theorem hd.tw4126306136578151734 : True := trivial
theorem hd.tw4136554803537287180 : True := trivial
theorem hd.tw4138081844389336918 : True := trivial
theorem hd.tw4159134105002834734 : True := trivial
theorem hd.tw4172343393113369950 : True := trivial
theorem hd.tw4225703048834024713 : True := trivial
theorem hd.tw4272726840584523970 : True := trivial
theorem hd.tw4278124947684190350 : True := trivial
theorem hd.tw4282304852377368616 : True := trivial
theorem hd.tw4282359134580295075 : True := trivial
theorem hd.tw4292457097857839397 : True := trivial
theorem hd.tw4297731678662094536 : True := trivial
theorem hd.tw4315991029959535628 : True := trivial
theorem hd.tw432457690288141553 : True := trivial
theorem hd.tw4325921153153474475 : True := trivial
theorem hd.tw4360684699965382250 : True := trivial
theorem hd.tw4363365295628954845 : True := trivial
theorem hd.tw4367231431732253908 : True := trivial
theorem hd.tw4377701919642642989 : True := trivial
theorem hd.tw4383666589626881386 : True := trivial
theorem hd.tw4402725079659364252 : True := trivial
theorem hd.tw442638132926106271 : True := trivial
theorem hd.tw4449123307109862055 : True := trivial
theorem hd.tw4478166936697009375 : True := trivial
theorem hd.tw4478177076189095293 : True := trivial
theorem hd.tw4478964076566166474 : True := trivial
theorem hd.tw4494801613693538912 : True := trivial
theorem hd.tw4521311704260346916 : True := trivial
theorem hd.tw4523669819894539328 : True := trivial
theorem hd.tw4596830416855513897 : True := trivial
theorem hd.tw461538923250603899 : True := trivial
theorem hd.tw4642405928176397000 : True := trivial
theorem hd.tw4643362625855044894 : True := trivial
theorem hd.tw4654797750381630734 : True := trivial
theorem hd.tw4702841417184801058 : True := trivial
theorem hd.tw4706079058837389440 : True := trivial
theorem hd.tw4751607420038183081 : True := trivial
theorem hd.tw4788038989552484473 : True := trivial
theorem hd.tw4817003022231809500 : True := trivial
theorem hd.tw4819202231147424091 : True := trivial
theorem hd.tw4845836938831722396 : True := trivial
theorem hd.tw4851647983119433812 : True := trivial
theorem hd.tw4856431653887292112 : True := trivial
theorem hd.tw4870687313549177768 : True := trivial
theorem hd.tw49274679934790565 : True := trivial
theorem hd.tw4944386906409230657 : True := trivial
theorem hd.tw4971549296188076032 : True := trivial
theorem hd.tw4990156530697904881 : True := trivial
theorem hd.tw4993660671451451078 : True := trivial
theorem hd.tw5009564483982726761 : True := trivial
theorem hd.tw5026405739280650417 : True := trivial
theorem hd.tw5036846961687405229 : True := trivial
theorem hd.tw5054737718236178183 : True := trivial
theorem hd.tw5057992037070297843 : True := trivial
theorem hd.tw5068255227188118820 : True := trivial
theorem hd.tw5130813555471234732 : True := trivial
theorem hd.tw5138769234217329475 : True := trivial
theorem hd.tw5148922909946612681 : True := trivial
theorem hd.tw5167245352685981253 : True := trivial
theorem hd.tw5174551420813472067 : True := trivial
theorem hd.tw518976864732996251 : True := trivial
theorem hd.tw5190246844813560578 : True := trivial
theorem hd.tw5238241317806426387 : True := trivial
theorem hd.tw5245234834050458271 : True := trivial
theorem hd.tw5247051413645994129 : True := trivial
theorem hd.tw526207354791536317 : True := trivial
theorem hd.tw5278057926702712004 : True := trivial
theorem hd.tw5282504435634884242 : True := trivial
theorem hd.tw5283464899586487735 : True := trivial
theorem hd.tw5292301768408028288 : True := trivial
theorem hd.tw5318216170032084099 : True := trivial
theorem hd.tw5343241284826551009 : True := trivial
theorem hd.tw5362516397382645915 : True := trivial
theorem hd.tw5363564295841288755 : True := trivial
theorem hd.tw5366084841770067474 : True := trivial
theorem hd.tw5388632664720090651 : True := trivial
theorem hd.tw541196102884509978 : True := trivial
theorem hd.tw5416991563250132298 : True := trivial
theorem hd.tw5433107678231618845 : True := trivial
theorem hd.tw5461583852855630226 : True := trivial
theorem hd.tw5464967688985200232 : True := trivial
theorem hd.tw54727356038600574 : True := trivial
theorem hd.tw5486487638281291605 : True := trivial
theorem hd.tw5505332120971382143 : True := trivial
theorem hd.tw5511420028821071320 : True := trivial
theorem hd.tw5513025101015932971 : True := trivial
theorem hd.tw5535567543195554156 : True := trivial
theorem hd.tw5549315172176941698 : True := trivial
theorem hd.tw5559951931751713254 : True := trivial
theorem hd.tw5562173858411828344 : True := trivial
theorem hd.tw5567388512258382067 : True := trivial
theorem hd.tw5592360268479517082 : True := trivial
theorem hd.tw5608270528595127837 : True := trivial
theorem hd.tw5629675986466331604 : True := trivial
theorem hd.tw5635641802508607975 : True := trivial
theorem hd.tw5657824000916062451 : True := trivial
theorem hd.tw5715356086224469760 : True := trivial
theorem hd.tw5716766192118558609 : True := trivial
theorem hd.tw5732804406350252772 : True := trivial
theorem hd.tw5781342201191254626 : True := trivial
theorem hd.tw5859118754885311737 : True := trivial
theorem hd.tw5873113503399164460 : True := trivial
theorem hd.tw5878478951762656079 : True := trivial
theorem hd.tw5894161561954209768 : True := trivial
theorem hd.tw5899666649113621702 : True := trivial
theorem hd.tw5902613922787404954 : True := trivial
theorem hd.tw5927261373498026823 : True := trivial
theorem hd.tw5961118342813265553 : True := trivial
theorem hd.tw5976792059365374437 : True := trivial
theorem hd.tw5978321128707920903 : True := trivial
theorem hd.tw5983496337302601536 : True := trivial
theorem hd.tw5987830557187376847 : True := trivial
theorem hd.tw6019021122589006684 : True := trivial
theorem hd.tw6038821095411175016 : True := trivial
theorem hd.tw6046454685291232161 : True := trivial
theorem hd.tw6060742912462422084 : True := trivial
theorem hd.tw6079173187612997037 : True := trivial
theorem hd.tw6082411064634330575 : True := trivial
theorem hd.tw611909796895871117 : True := trivial
theorem hd.tw6123773746684550334 : True := trivial
theorem hd.tw6136932545381038964 : True := trivial
theorem hd.tw6140570298594658328 : True := trivial
theorem hd.tw6164396464334811476 : True := trivial
theorem hd.tw6184208073178115725 : True := trivial
theorem hd.tw6184460063843016694 : True := trivial
theorem hd.tw6184927378108434309 : True := trivial
theorem hd.tw6186238094035137676 : True := trivial
theorem hd.tw6196171512934965099 : True := trivial
theorem hd.tw6264232113106981867 : True := trivial
theorem hd.tw6276725880618359904 : True := trivial
theorem hd.tw6291416237084387574 : True := trivial
theorem hd.tw6293948785866598258 : True := trivial
theorem hd.tw6305734824756694309 : True := trivial
theorem hd.tw6308581086252854402 : True := trivial
theorem hd.tw6320253292602491972 : True := trivial
theorem hd.tw6329026251626060993 : True := trivial
theorem hd.tw6394381022753523788 : True := trivial
theorem hd.tw6407587892757256292 : True := trivial
theorem hd.tw6411954120941647267 : True := trivial
theorem hd.tw6412100933407834118 : True := trivial
theorem hd.tw6423634429210846174 : True := trivial
theorem hd.tw6434320517203916923 : True := trivial
theorem hd.tw6438293893037913957 : True := trivial
theorem hd.tw6442067068224118133 : True := trivial
theorem hd.tw6449127861642672459 : True := trivial
theorem hd.tw6469175993241445255 : True := trivial
theorem hd.tw6482722132109649516 : True := trivial
theorem hd.tw6507262688116863064 : True := trivial
theorem hd.tw6528754448969337418 : True := trivial
theorem hd.tw6545403380812914513 : True := trivial
theorem hd.tw6547078798241139092 : True := trivial
theorem hd.tw6555240042291301478 : True := trivial
theorem hd.tw656455966557771466 : True := trivial
theorem hd.tw6578402527460240241 : True := trivial
theorem hd.tw6598312636042714100 : True := trivial
theorem hd.tw6599993290075849082 : True := trivial
theorem hd.tw6615107907471364465 : True := trivial
theorem hd.tw6627881031435992008 : True := trivial
theorem hd.tw663384727985864361 : True := trivial
theorem hd.tw6636792957720756321 : True := trivial
theorem hd.tw6663896369628448293 : True := trivial
theorem hd.tw6683769817339685419 : True := trivial
theorem hd.tw6755925336976613232 : True := trivial
theorem hd.tw6759412095888398321 : True := trivial
theorem hd.tw6761669909254768831 : True := trivial
theorem hd.tw6767318904944593275 : True := trivial
theorem hd.tw678209747344391502 : True := trivial
theorem hd.tw6785817131721698500 : True := trivial
theorem hd.tw6804821044290156842 : True := trivial
theorem hd.tw6818987989461384207 : True := trivial
theorem hd.tw6819123309680001836 : True := trivial
theorem hd.tw6820862383352777685 : True := trivial
theorem hd.tw6830512106363814048 : True := trivial
theorem hd.tw6838551448383532254 : True := trivial
theorem hd.tw6868836192036940282 : True := trivial
theorem hd.tw6882427118574961969 : True := trivial
theorem hd.tw6892424819385984264 : True := trivial
theorem hd.tw6896469178606551848 : True := trivial
theorem hd.tw6898005170327248138 : True := trivial
theorem hd.tw6906073325868019850 : True := trivial
theorem hd.tw6924109203229866365 : True := trivial
theorem hd.tw6931407450589930559 : True := trivial
theorem hd.tw6957150274394394060 : True := trivial
theorem hd.tw6965799899956892507 : True := trivial
theorem hd.tw697623264460660564 : True := trivial
theorem hd.tw6978618863983926322 : True := trivial
theorem hd.tw6990203504111849199 : True := trivial
theorem hd.tw6998783941825042932 : True := trivial
theorem hd.tw701333769924781912 : True := trivial
theorem hd.tw701787995468756871 : True := trivial
theorem hd.tw7018817170145543343 : True := trivial
theorem hd.tw7023726343779634624 : True := trivial
theorem hd.tw7028611270464810887 : True := trivial
theorem hd.tw7031273417212677730 : True := trivial
theorem hd.tw7080932558258925280 : True := trivial
theorem hd.tw7082855905992002993 : True := trivial
theorem hd.tw7085514621470718492 : True := trivial
theorem hd.tw7120233287515763914 : True := trivial
theorem hd.tw7152984921513172624 : True := trivial
theorem hd.tw7153062008950511462 : True := trivial
theorem hd.tw7191455744419660376 : True := trivial
theorem hd.tw7244249509329598947 : True := trivial
theorem hd.tw7270182246851987180 : True := trivial
theorem hd.tw728884934406724761 : True := trivial
theorem hd.tw7289634563603522867 : True := trivial
theorem hd.tw7292484366425897655 : True := trivial
theorem hd.tw7296583596125217682 : True := trivial
theorem hd.tw7317836474542784337 : True := trivial
theorem hd.tw732345407407602841 : True := trivial
theorem hd.tw7330849604454639629 : True := trivial
theorem hd.tw7339039647409124788 : True := trivial
theorem hd.tw7354087734392854552 : True := trivial
theorem hd.tw7355570028127101125 : True := trivial
theorem hd.tw7366208706002141716 : True := trivial
theorem hd.tw7369741819223213686 : True := trivial
theorem hd.tw7372000682148998216 : True := trivial
theorem hd.tw7379015992945566340 : True := trivial
theorem hd.tw7382370116671421104 : True := trivial
theorem hd.tw7492773218913965947 : True := trivial
theorem hd.tw7510230149288206974 : True := trivial
theorem hd.tw7512474625130614241 : True := trivial
theorem hd.tw7519716089354478335 : True := trivial
theorem hd.tw7523672394736509286 : True := trivial
theorem hd.tw7525542149764818722 : True := trivial
theorem hd.tw7526368328331116154 : True := trivial
theorem hd.tw7534799579077118603 : True := trivial
theorem hd.tw7540655947842036084 : True := trivial
theorem hd.tw7540741092611519060 : True := trivial
theorem hd.tw7541792107247259296 : True := trivial
theorem hd.tw7578210074245671484 : True := trivial
theorem hd.tw758273949599710562 : True := trivial
theorem hd.tw7598622570094877466 : True := trivial
theorem hd.tw7610815399733428385 : True := trivial
theorem hd.tw7628703163842673926 : True := trivial
theorem hd.tw7640094616464845771 : True := trivial
theorem hd.tw7676003278276379012 : True := trivial
theorem hd.tw7679452656841897225 : True := trivial
theorem hd.tw7721951785955056133 : True := trivial
theorem hd.tw7746578258024575070 : True := trivial
theorem hd.tw7752569895197466512 : True := trivial
theorem hd.tw7752767780024739350 : True := trivial
theorem hd.tw7763873220885509757 : True := trivial
theorem hd.tw7792395482447073224 : True := trivial
theorem hd.tw7793673504863384051 : True := trivial
theorem hd.tw7821361960523482326 : True := trivial
theorem hd.tw7854228177987924090 : True := trivial
theorem hd.tw7880807054014371918 : True := trivial
theorem hd.tw7891253978561527248 : True := trivial
theorem hd.tw7895370336789752690 : True := trivial
theorem hd.tw7914949630228597729 : True := trivial
theorem hd.tw7927469264209771579 : True := trivial
theorem hd.tw7986290449207727809 : True := trivial
theorem hd.tw7991182636835128446 : True := trivial
theorem hd.tw8004679753235328684 : True := trivial
theorem hd.tw8015326511298524721 : True := trivial
theorem hd.tw8025032847418708242 : True := trivial
theorem hd.tw8044012406986999415 : True := trivial
theorem hd.tw8047900516022102942 : True := trivial
theorem hd.tw8053944837975664402 : True := trivial
theorem hd.tw8068729725432388964 : True := trivial
theorem hd.tw8081886968326746073 : True := trivial
theorem hd.tw8086110750863094267 : True := trivial
theorem hd.tw8095816718047888688 : True := trivial
theorem hd.tw8105295227477018077 : True := trivial
theorem hd.tw8112040973832200146 : True := trivial
theorem hd.tw8117029840178788049 : True := trivial
theorem hd.tw8134915037123179040 : True := trivial
theorem hd.tw8184699220007379433 : True := trivial
theorem hd.tw8191903926673212241 : True := trivial
theorem hd.tw8210421348078903774 : True := trivial
theorem hd.tw8211232243025112102 : True := trivial
theorem hd.tw8226494294326810461 : True := trivial
theorem hd.tw8228950375871286339 : True := trivial
theorem hd.tw8242931771332617035 : True := trivial
theorem hd.tw8244733829118024811 : True := trivial
theorem hd.tw825126770350376351 : True := trivial
theorem hd.tw8268277133935991078 : True := trivial
theorem hd.tw8269573656231971908 : True := trivial
theorem hd.tw8273930003744585626 : True := trivial
theorem hd.tw8312999807965096350 : True := trivial
theorem hd.tw8317466277049474617 : True := trivial
theorem hd.tw833173182276230429 : True := trivial
theorem hd.tw8343274005884668182 : True := trivial
theorem hd.tw8351282476255451920 : True := trivial
theorem hd.tw8356816923877370021 : True := trivial
theorem hd.tw8364274539379898114 : True := trivial
theorem hd.tw8381844023166312768 : True := trivial
theorem hd.tw8414420238210853183 : True := trivial
theorem hd.tw8428860471423672150 : True := trivial
theorem hd.tw845060206244984605 : True := trivial
theorem hd.tw8457440626546761165 : True := trivial
theorem hd.tw8458067239894703972 : True := trivial
theorem hd.tw8479784124755550697 : True := trivial
theorem hd.tw8493152586797012548 : True := trivial
theorem hd.tw8494195583236617984 : True := trivial
theorem hd.tw8516288146210602744 : True := trivial
theorem hd.tw8523295559442261996 : True := trivial
theorem hd.tw8538877666451538035 : True := trivial
theorem hd.tw8545014587354053640 : True := trivial
theorem hd.tw8609351116199087170 : True := trivial
theorem hd.tw8638756108113873008 : True := trivial
theorem hd.tw8652628183442184457 : True := trivial
theorem hd.tw8664936974563722654 : True := trivial
theorem hd.tw8671608845466749128 : True := trivial
theorem hd.tw8683856772340465682 : True := trivial
theorem hd.tw8684328023851190084 : True := trivial
theorem hd.tw8716120427605611371 : True := trivial
theorem hd.tw8727321023445011275 : True := trivial
theorem hd.tw8735263284916673568 : True := trivial
theorem hd.tw8770205317985620760 : True := trivial
theorem hd.tw8770659054964912022 : True := trivial
theorem hd.tw8789358453043137523 : True := trivial
theorem hd.tw8800731360411900170 : True := trivial
theorem hd.tw8801323125487838256 : True := trivial
theorem hd.tw881544763273948857 : True := trivial
theorem hd.tw8837756919194374244 : True := trivial
theorem hd.tw8841187974860818712 : True := trivial
theorem hd.tw8879563391730754479 : True := trivial
theorem hd.tw8934143017859847078 : True := trivial
theorem hd.tw8959176491354863721 : True := trivial
theorem hd.tw8960069828448710407 : True := trivial
theorem hd.tw8965841893048198262 : True := trivial
theorem hd.tw8977307856219701671 : True := trivial
theorem hd.tw8990313861142287110 : True := trivial
theorem hd.tw9013056391748086436 : True := trivial
theorem hd.tw9073681462420916055 : True := trivial
theorem hd.tw9077708301081682751 : True := trivial
theorem hd.tw9087110039335098043 : True := trivial
theorem hd.tw9131607905817354932 : True := trivial
theorem hd.tw9132557439983319658 : True := trivial
theorem hd.tw9153386212771759811 : True := trivial
theorem hd.tw9170477692918782315 : True := trivial
theorem hd.tw9184186324627900627 : True := trivial
theorem hd.tw920214292312260371 : True := trivial
theorem hd.tw922143313871775805 : True := trivial
theorem hd.tw9228127785042440375 : True := trivial
theorem hd.tw9228397985900620932 : True := trivial
theorem hd.tw9237616624170024493 : True := trivial
theorem hd.tw9244321171653502345 : True := trivial
theorem hd.tw9251471199085437103 : True := trivial
theorem hd.tw9258712216579463092 : True := trivial
theorem hd.tw9271970288684553227 : True := trivial
theorem hd.tw9277588360372424766 : True := trivial
theorem hd.tw9298403506768410418 : True := trivial
theorem hd.tw9312369300949851271 : True := trivial
theorem hd.tw9325612240067072397 : True := trivial
theorem hd.tw9330943631129107780 : True := trivial
theorem hd.tw9345676750909349944 : True := trivial
theorem hd.tw9345929723534960622 : True := trivial
theorem hd.tw9386895884608548742 : True := trivial
theorem hd.tw9398405308114057262 : True := trivial
theorem hd.tw940617070666608080 : True := trivial
theorem hd.tw9406673726873002282 : True := trivial
theorem hd.tw9420132969298855359 : True := trivial
theorem hd.tw9421340871869096474 : True := trivial
theorem hd.tw9427301549700849589 : True := trivial
theorem hd.tw9430268157657104642 : True := trivial
theorem hd.tw9449672872311958731 : True := trivial
theorem hd.tw9459050058782445324 : True := trivial
theorem hd.tw9496365245306024149 : True := trivial
theorem hd.tw9499510787657705874 : True := trivial
theorem hd.tw9533747618267967006 : True := trivial
theorem hd.tw9555612238305686254 : True := trivial
theorem hd.tw9557236495431379559 : True := trivial
theorem hd.tw9566141503761928105 : True := trivial
theorem hd.tw9577689765879766989 : True := trivial
theorem hd.tw960944832710211464 : True := trivial
theorem hd.tw9617658007855726926 : True := trivial
theorem hd.tw9627899436633539337 : True := trivial
theorem hd.tw9631708518359487223 : True := trivial
theorem hd.tw9641152695372364146 : True := trivial
theorem hd.tw9657781627882305391 : True := trivial
theorem hd.tw9673543361469618366 : True := trivial
theorem hd.tw9702936160620672325 : True := trivial
theorem hd.tw9719896912496429819 : True := trivial
theorem hd.tw9731375825926819010 : True := trivial
theorem hd.tw9741134391959003819 : True := trivial
theorem hd.tw9753359207989701909 : True := trivial
theorem hd.tw9763420282994701918 : True := trivial
theorem hd.tw9783614193127449063 : True := trivial
theorem hd.tw978945382295711627 : True := trivial
theorem hd.tw9842699097658496709 : True := trivial
theorem hd.tw9908193460736022307 : True := trivial
theorem hd.tw991583007596301734 : True := trivial
theorem hd.tw9924250359123934098 : True := trivial
theorem hd.tw9960721518486171458 : True := trivial
theorem hd.tw9983995961361265002 : True := trivial
theorem hd.tw9990345226319884068 : True := trivial
set_option maxHeartbeats 80000000 in
set_option Elab.async true in
theorem hd : PySem.Challenge.rw_og0196_01.Holds := by
  w_on
  refine hd_said fun said => ?_
  o_head (kHook K Kas (fun P => K_as P))
  (case hw => w_witness2)
  exact law_walk rfl b_lawT
end Mine
theorem PySem.Challenge.cw_og0196_01_holds : PySem.Challenge.rw_og0196_01.Holds := by
  exact Mine.hd
