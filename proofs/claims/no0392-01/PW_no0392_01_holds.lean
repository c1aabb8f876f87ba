import PyProof.Rows.All
import Wide.All
import OpenK.AllK
import Wide.FinOn
import PySem.Challenge.RW_no0392_01
open PySem PySem.W PyProof.Rows
set_option linter.all false
set_option Elab.async false
set_option maxRecDepth 100000
set_option maxHeartbeats 8000000
namespace Mine
/-- the parts of the row's program that the written part needs -/
noncomputable def fnA : Stmt → Arguments
  | .FunctionDef _ a _ _ _ _ _ _ _ _ => a
  | _ => default
noncomputable def fnB : Stmt → List Stmt
  | .FunctionDef _ _ b _ _ _ _ _ _ _ => b
  | _ => []
noncomputable def fnS : Stmt → Scope
  | .FunctionDef _ _ _ _ _ _ s _ _ _ => s
  | _ => default
noncomputable def clB : Stmt → List Stmt
  | .ClassDef _ _ _ b _ _ _ _ _ _ _ => b
  | _ => []
noncomputable def fS (i : Nat) : Stmt := PySem.Challenge.pw_no0392_01.main.body.getD i (.Pass default)
noncomputable def mS (i j : Nat) : Stmt := (clB (fS i)).getD j (.Pass default)
noncomputable def vS (s : String) (t : Nat) : Value := .str (Str.ofString s) t
noncomputable def vR (a : Addr) : Value := .ref a
noncomputable def vI (i : Int) (t : Nat) : Value := .int i t
noncomputable def eD (P : Params) (s : String) (t : Nat) (v : Value) : DictEntry := DictEntry.mk (PyData.keyHash P (Str.ofString s)) (.str (Str.ofString s) t) v
noncomputable def K0 : Params → Frag := fun P => (nat_lit 2, Obj.mk Value.none none (Data.dict #[eD P "type.__subclasses__.Exception.0" 516 (Value.int 247 0), eD P "type.__subclasses__.Exception.n" 517 (Value.int 1 0)] 2) #[]) ::
(nat_lit 3, Obj.mk (Value.type "dict") none (Data.dict #[eD P "__name__" 165 (vS "law_no0392_01" 1156), eD P "__doc__" 166 Value.none, eD P "__package__" 167 Value.none, eD P "__loader__" 168 (Value.builtin "__main__.__loader__#opaque"), eD P "__spec__" 169 Value.none, eD P "__annotations__" 170 (vR 6), eD P "__builtins__" 171 (vR 4), eD P "__file__" 173 (vS "/claim/cut.py" 172), eD P "__cached__" 174 Value.none, eD P "_wall" 193 (vR 21), eD P "RETURN" 197 (Value.int 13 196), eD P "MOST_FIGURES" 199 (Value.int 20 198), eD P "Cursor" 309 (vR 103), eD P "lower_code" 316 (vR 114), eD P "lower" 322 (vR 119), eD P "lower_text" 328 (vR 124), eD P "line_spans" 345 (vR 132), eD P "WHITE_headers" 350 (vR 133), eD P "Field" 394 (vR 162), eD P "line_at" 404 (vR 173), eD P "is_name" 412 (vR 180), eD P "colon_in" 422 (vR 187), eD P "read_spans" 440 (vR 195), eD P "read_fields" 449 (vR 201), eD P "rows_of" 460 (vR 208), eD P "unfolded" 467 (vR 215), eD P "first_body" 477 (vR 222), eD P "PostError" 519 (vR 247), eD P "WordFault" 535 (vR 260), eD P "MimeFault" 551 (vR 272), eD P "ASCII" 555 (vS "us-ascii" 554), eD P "LATIN" 557 (vS "iso-8859-1" 556), eD P "UTF8" 559 (vS "utf-8" 558), eD P "CHARSETS" 560 (vR 275), eD P "UNKNOWN_SIGN" 563 (vS "�" 562), eD P "charset_names" 571 (vR 282), eD P "charset_name" 578 (vR 289), eD P "need_charset" 585 (vR 296), eD P "follower_span" 592 (vR 303), eD P "utf8_sign" 606 (vR 310), eD P "sign_at" 615 (vR 317), eD P "text_in" 627 (vR 324), eD P "strict_text" 639 (vR 331), eD P "guessed_text" 646 (vR 338), eD P "MOST_DEPTH_tokens" 650 (Value.int 20 649), eD P "NEVER_ESCAPED" 654 (vR 339), eD P "line_end" 662 (vR 346), eD P "inside_at" 672 (vR 353), eD P "closed_at" 685 (vR 360), eD P "comment_at" 698 (vR 367), eD P "WHITE_params" 705 (vR 368), eD P "SEMICOLON" 707 (Value.int 59 706), eD P "EQUALS" 709 (Value.int 61 708), eD P "QUOTE" 711 (Value.int 34 710), eD P "BRACKET" 713 (Value.int 40 712), eD P "PER_CENT" 715 (Value.int 37 714), eD P "BARRED" 717 (Value.bytes #[40, 41, 60, 62, 64, 44, 59, 58, 92, 34, 47, 91, 93, 63, 61] 716), eD P "HEX_FIGURES" 719 (Value.bytes #[48, 49, 50, 51, 52, 53, 54, 55, 56, 57, 65, 66, 67, 68, 69, 70] 718), eD P "Kind" 780 (vR 413), eD P "plain_kind" 786 (vR 424), eD P "is_token_code" 793 (vR 431), eD P "skip_between" 800 (vR 438), eD P "take_token" 808 (vR 445), eD P "is_worth_code" 815 (vR 452), eD P "take_worth" 824 (vR 459), eD P "small_word" 830 (vR 464), eD P "take_pairs" 839 (vR 471), eD P "part_number" 848 (vR 478), eD P "part_of" 858 (vR 485), eD P "hex_worth" 864 (vR 490), eD P "percent_decoded" 874 (vR 497), eD P "charset_cut" 880 (vR 502), eD P "joined_worth" 892 (vR 509), eD P "params_of" 907 (vR 516), eD P "strict_kind" 917 (vR 523), eD P "read_kind" 924 (vR 530), eD P "MOST_DEPTH_parts" 928 (Value.int 20 927), eD P "PLAIN_ENCODING" 930 (vS "7bit" 929), eD P "OPEN_ENCODINGS" 934 (vR 531), eD P "WORD_ENDS" 936 (Value.bytes #[32, 9, 40, 59] 935), eD P "BLANKS" 938 (Value.bytes #[32, 9] 937), eD P "Part" 985 (vR 555), eD P "encoding_of" 991 (vR 564), eD P "boundary_way" 1001 (vR 571), eD P "part_spans" 1018 (vR 578), eD P "kid_spans" 1024 (vR 583), eD P "has_inner" 1031 (vR 590), eD P "read_part" 1037 (vR 595), eD P "read_message" 1044 (vR 602), eD P "numbered_kids" 1052 (vR 609), eD P "part_at" 1064 (vR 616), eD P "FIELD_WORDS" 1069 (vR 617), eD P "Section" 1112 (vR 643), eD P "header_octets" 1118 (vR 652), eD P "word_octets" 1127 (vR 659), eD P "whole_octets" 1138 (vR 666), eD P "sliced" 1146 (vR 673), eD P "section_octets" 1155 (vR 680), eD P "_law_names" 1163 (vR 681), eD P "_law_ends" 1166 (vR 682), eD P "_law_draw" 1176 (vR 689), eD P "_law_field" 1186 (vR 696), eD P "law" 1192 (vR 701)] 103) #[]) ::
(nat_lit 15, Obj.mk (Value.type "tuple") none (Data.seq #[]) #[]) ::
(nat_lit 17, Obj.mk (Value.type "tuple") none (Data.seq #[Value.str (Str.ofString "k") 190]) #[]) ::
(nat_lit 18, Obj.mk (Value.type "tuple") none (Data.seq #[]) #[]) ::
(nat_lit 20, Obj.mk (Value.type "code") none (Data.fields #[Value.str (Str.ofString "_wall") 187, Value.str (Str.ofString "_wall") 188, Value.str (Str.ofString "/claim/cut.py") 189, Value.int 1 0, Value.int 1 0, Value.int 0 0, Value.int 0 0, Value.int 3 0, Value.ref 15, Value.bool true, Value.int 181 0, Value.ref 16, Value.none, Value.ref 17, Value.ref 18, Value.ref 19, Value.int 191 0, Value.int 1 0, Value.str (Str.ofString "/claim/cut.py") 192]) #[]) ::
(nat_lit 21, Obj.mk (Value.type "function") none (Data.func (FuncData.mk (Str.ofString "_wall") (Str.ofString "_wall") (fnA (fS 0)) (FuncBody.stmts (fnB (fS 0))) (fnS (fS 0)) 3 [] Value.none Value.none Value.none (Value.str (Str.ofString "__main__") 164) none (Value.ref 20) Value.none 0)) #[]) ::
(nat_lit 29, Obj.mk (Value.type "tuple") none (Data.seq #[Value.int 0 212, Value.int (-1) 214]) #[]) ::
(nat_lit 30, Obj.mk (Value.type "tuple") none (Data.seq #[]) #[]) ::
(nat_lit 32, Obj.mk (Value.type "tuple") none (Data.seq #[Value.str (Str.ofString "self") 218, Value.str (Str.ofString "data") 219, Value.str (Str.ofString "at") 220, Value.str (Str.ofString "end") 221]) #[]) ::
(nat_lit 33, Obj.mk (Value.type "tuple") none (Data.seq #[]) #[]) ::
(nat_lit 35, Obj.mk (Value.type "code") none (Data.fields #[Value.str (Str.ofString "__init__") 215, Value.str (Str.ofString "Cursor.__init__") 216, Value.str (Str.ofString "/claim/cut.py") 217, Value.int 9 0, Value.int 4 0, Value.int 0 0, Value.int 0 0, Value.int 3 0, Value.ref 30, Value.bool true, Value.int 181 0, Value.ref 31, Value.none, Value.ref 32, Value.ref 33, Value.ref 34, Value.int 222 0, Value.int 9 0, Value.str (Str.ofString "/claim/cut.py") 223]) #[]) ::
(nat_lit 36, Obj.mk (Value.type "function") none (Data.func (FuncData.mk (Str.ofString "__init__") (Str.ofString "Cursor.__init__") (fnA (mS 4 0)) (FuncBody.stmts (fnB (mS 4 0))) (fnS (mS 4 0)) 3 [] (Value.ref 29) Value.none Value.none (Value.str (Str.ofString "postkeep.octets") 194) none (Value.ref 35) Value.none 0)) #[]) ::
(nat_lit 37, Obj.mk (Value.type "tuple") none (Data.seq #[]) #[]) ::
(nat_lit 39, Obj.mk (Value.type "tuple") none (Data.seq #[Value.str (Str.ofString "self") 228]) #[]) ::
(nat_lit 40, Obj.mk (Value.type "tuple") none (Data.seq #[]) #[]) ::
(nat_lit 42, Obj.mk (Value.type "code") none (Data.fields #[Value.str (Str.ofString "is_done") 225, Value.str (Str.ofString "Cursor.is_done") 226, Value.str (Str.ofString "/claim/cut.py") 227, Value.int 14 0, Value.int 1 0, Value.int 0 0, Value.int 0 0, Value.int 3 0, Value.ref 37, Value.bool true, Value.int 181 0, Value.ref 38, Value.none, Value.ref 39, Value.ref 40, Value.ref 41, Value.int 229 0, Value.int 14 0, Value.str (Str.ofString "/claim/cut.py") 230]) #[]) ::
(nat_lit 43, Obj.mk (Value.type "function") none (Data.func (FuncData.mk (Str.ofString "is_done") (Str.ofString "Cursor.is_done") (fnA (mS 4 1)) (FuncBody.stmts (fnB (mS 4 1))) (fnS (mS 4 1)) 3 [] Value.none Value.none Value.none (Value.str (Str.ofString "postkeep.octets") 194) none (Value.ref 42) Value.none 0)) #[]) ::
(nat_lit 44, Obj.mk (Value.type "tuple") none (Data.seq #[Value.int 0 232]) #[]) ::
(nat_lit 45, Obj.mk (Value.type "tuple") none (Data.seq #[]) #[]) ::
(nat_lit 47, Obj.mk (Value.type "tuple") none (Data.seq #[Value.str (Str.ofString "self") 236, Value.str (Str.ofString "ahead") 237, Value.str (Str.ofString "place") 238]) #[]) ::
(nat_lit 48, Obj.mk (Value.type "tuple") none (Data.seq #[]) #[]) ::
(nat_lit 50, Obj.mk (Value.type "code") none (Data.fields #[Value.str (Str.ofString "peek") 233, Value.str (Str.ofString "Cursor.peek") 234, Value.str (Str.ofString "/claim/cut.py") 235, Value.int 17 0, Value.int 2 0, Value.int 0 0, Value.int 0 0, Value.int 3 0, Value.ref 45, Value.bool true, Value.int 181 0, Value.ref 46, Value.none, Value.ref 47, Value.ref 48, Value.ref 49, Value.int 239 0, Value.int 17 0, Value.str (Str.ofString "/claim/cut.py") 240]) #[]) ::
(nat_lit 51, Obj.mk (Value.type "function") none (Data.func (FuncData.mk (Str.ofString "peek") (Str.ofString "Cursor.peek") (fnA (mS 4 2)) (FuncBody.stmts (fnB (mS 4 2))) (fnS (mS 4 2)) 3 [] (Value.ref 44) Value.none Value.none (Value.str (Str.ofString "postkeep.octets") 194) none (Value.ref 50) Value.none 0)) #[]) ::
(nat_lit 52, Obj.mk (Value.type "tuple") none (Data.seq #[]) #[]) ::
(nat_lit 54, Obj.mk (Value.type "tuple") none (Data.seq #[Value.str (Str.ofString "self") 245, Value.str (Str.ofString "code") 246]) #[]) ::
(nat_lit 55, Obj.mk (Value.type "tuple") none (Data.seq #[]) #[]) ::
(nat_lit 57, Obj.mk (Value.type "code") none (Data.fields #[Value.str (Str.ofString "take") 242, Value.str (Str.ofString "Cursor.take") 243, Value.str (Str.ofString "/claim/cut.py") 244, Value.int 21 0, Value.int 1 0, Value.int 0 0, Value.int 0 0, Value.int 3 0, Value.ref 52, Value.bool true, Value.int 181 0, Value.ref 53, Value.none, Value.ref 54, Value.ref 55, Value.ref 56, Value.int 247 0, Value.int 21 0, Value.str (Str.ofString "/claim/cut.py") 248]) #[]) ::
(nat_lit 58, Obj.mk (Value.type "function") none (Data.func (FuncData.mk (Str.ofString "take") (Str.ofString "Cursor.take") (fnA (mS 4 3)) (FuncBody.stmts (fnB (mS 4 3))) (fnS (mS 4 3)) 3 [] Value.none Value.none Value.none (Value.str (Str.ofString "postkeep.octets") 194) none (Value.ref 57) Value.none 0)) #[]) ::
(nat_lit 59, Obj.mk (Value.type "tuple") none (Data.seq #[]) #[]) ::
(nat_lit 61, Obj.mk (Value.type "tuple") none (Data.seq #[Value.str (Str.ofString "self") 253, Value.str (Str.ofString "word") 254]) #[]) ::
(nat_lit 62, Obj.mk (Value.type "tuple") none (Data.seq #[]) #[]) ::
(nat_lit 64, Obj.mk (Value.type "code") none (Data.fields #[Value.str (Str.ofString "starts") 250, Value.str (Str.ofString "Cursor.starts") 251, Value.str (Str.ofString "/claim/cut.py") 252, Value.int 27 0, Value.int 2 0, Value.int 0 0, Value.int 0 0, Value.int 3 0, Value.ref 59, Value.bool true, Value.int 181 0, Value.ref 60, Value.none, Value.ref 61, Value.ref 62, Value.ref 63, Value.int 255 0, Value.int 27 0, Value.str (Str.ofString "/claim/cut.py") 256]) #[]) ::
(nat_lit 65, Obj.mk (Value.type "function") none (Data.func (FuncData.mk (Str.ofString "starts") (Str.ofString "Cursor.starts") (fnA (mS 4 4)) (FuncBody.stmts (fnB (mS 4 4))) (fnS (mS 4 4)) 3 [] Value.none Value.none Value.none (Value.str (Str.ofString "postkeep.octets") 194) none (Value.ref 64) Value.none 0)) #[]) ::
(nat_lit 66, Obj.mk (Value.type "tuple") none (Data.seq #[]) #[]) ::
(nat_lit 68, Obj.mk (Value.type "tuple") none (Data.seq #[Value.str (Str.ofString "self") 261, Value.str (Str.ofString "word") 262]) #[]) ::
(nat_lit 69, Obj.mk (Value.type "tuple") none (Data.seq #[]) #[]) ::
(nat_lit 71, Obj.mk (Value.type "code") none (Data.fields #[Value.str (Str.ofString "skip") 258, Value.str (Str.ofString "Cursor.skip") 259, Value.str (Str.ofString "/claim/cut.py") 260, Value.int 30 0, Value.int 2 0, Value.int 0 0, Value.int 0 0, Value.int 3 0, Value.ref 66, Value.bool true, Value.int 181 0, Value.ref 67, Value.none, Value.ref 68, Value.ref 69, Value.ref 70, Value.int 263 0, Value.int 30 0, Value.str (Str.ofString "/claim/cut.py") 264]) #[]) ::
(nat_lit 72, Obj.mk (Value.type "function") none (Data.func (FuncData.mk (Str.ofString "skip") (Str.ofString "Cursor.skip") (fnA (mS 4 5)) (FuncBody.stmts (fnB (mS 4 5))) (fnS (mS 4 5)) 3 [] Value.none Value.none Value.none (Value.str (Str.ofString "postkeep.octets") 194) none (Value.ref 71) Value.none 0)) #[]) ::
(nat_lit 73, Obj.mk (Value.type "tuple") none (Data.seq #[]) #[]) ::
(nat_lit 75, Obj.mk (Value.type "tuple") none (Data.seq #[Value.str (Str.ofString "self") 269, Value.str (Str.ofString "codes") 270]) #[]) ::
(nat_lit 76, Obj.mk (Value.type "tuple") none (Data.seq #[]) #[]) ::
(nat_lit 78, Obj.mk (Value.type "code") none (Data.fields #[Value.str (Str.ofString "take_while") 266, Value.str (Str.ofString "Cursor.take_while") 267, Value.str (Str.ofString "/claim/cut.py") 268, Value.int 36 0, Value.int 2 0, Value.int 0 0, Value.int 0 0, Value.int 3 0, Value.ref 73, Value.bool true, Value.int 181 0, Value.ref 74, Value.none, Value.ref 75, Value.ref 76, Value.ref 77, Value.int 271 0, Value.int 36 0, Value.str (Str.ofString "/claim/cut.py") 272]) #[]) ::
(nat_lit 79, Obj.mk (Value.type "function") none (Data.func (FuncData.mk (Str.ofString "take_while") (Str.ofString "Cursor.take_while") (fnA (mS 4 6)) (FuncBody.stmts (fnB (mS 4 6))) (fnS (mS 4 6)) 3 [] Value.none Value.none Value.none (Value.str (Str.ofString "postkeep.octets") 194) none (Value.ref 78) Value.none 0)) #[]) ::
(nat_lit 80, Obj.mk (Value.type "tuple") none (Data.seq #[]) #[]) ::
(nat_lit 82, Obj.mk (Value.type "tuple") none (Data.seq #[Value.str (Str.ofString "self") 277, Value.str (Str.ofString "codes") 278]) #[]) ::
(nat_lit 83, Obj.mk (Value.type "tuple") none (Data.seq #[]) #[]) ::
(nat_lit 85, Obj.mk (Value.type "code") none (Data.fields #[Value.str (Str.ofString "take_until") 274, Value.str (Str.ofString "Cursor.take_until") 275, Value.str (Str.ofString "/claim/cut.py") 276, Value.int 39 0, Value.int 2 0, Value.int 0 0, Value.int 0 0, Value.int 3 0, Value.ref 80, Value.bool true, Value.int 181 0, Value.ref 81, Value.none, Value.ref 82, Value.ref 83, Value.ref 84, Value.int 279 0, Value.int 39 0, Value.str (Str.ofString "/claim/cut.py") 280]) #[]) ::
(nat_lit 86, Obj.mk (Value.type "function") none (Data.func (FuncData.mk (Str.ofString "take_until") (Str.ofString "Cursor.take_until") (fnA (mS 4 7)) (FuncBody.stmts (fnB (mS 4 7))) (fnS (mS 4 7)) 3 [] Value.none Value.none Value.none (Value.str (Str.ofString "postkeep.octets") 194) none (Value.ref 85) Value.none 0)) #[]) ::
(nat_lit 87, Obj.mk (Value.type "tuple") none (Data.seq #[]) #[]) ::
(nat_lit 89, Obj.mk (Value.type "tuple") none (Data.seq #[Value.str (Str.ofString "self") 285, Value.str (Str.ofString "first") 286, Value.str (Str.ofString "number") 287]) #[]) ::
(nat_lit 90, Obj.mk (Value.type "tuple") none (Data.seq #[]) #[]) ::
(nat_lit 92, Obj.mk (Value.type "code") none (Data.fields #[Value.str (Str.ofString "number") 282, Value.str (Str.ofString "Cursor.number") 283, Value.str (Str.ofString "/claim/cut.py") 284, Value.int 42 0, Value.int 1 0, Value.int 0 0, Value.int 0 0, Value.int 3 0, Value.ref 87, Value.bool true, Value.int 181 0, Value.ref 88, Value.none, Value.ref 89, Value.ref 90, Value.ref 91, Value.int 288 0, Value.int 42 0, Value.str (Str.ofString "/claim/cut.py") 289]) #[]) ::
(nat_lit 93, Obj.mk (Value.type "function") none (Data.func (FuncData.mk (Str.ofString "number") (Str.ofString "Cursor.number") (fnA (mS 4 8)) (FuncBody.stmts (fnB (mS 4 8))) (fnS (mS 4 8)) 3 [] Value.none Value.none Value.none (Value.str (Str.ofString "postkeep.octets") 194) none (Value.ref 92) Value.none 0)) #[]) ::
(nat_lit 94, Obj.mk (Value.type "tuple") none (Data.seq #[]) #[]) ::
(nat_lit 96, Obj.mk (Value.type "tuple") none (Data.seq #[Value.str (Str.ofString "self") 294, Value.str (Str.ofString "word") 295]) #[]) ::
(nat_lit 97, Obj.mk (Value.type "tuple") none (Data.seq #[]) #[]) ::
(nat_lit 99, Obj.mk (Value.type "code") none (Data.fields #[Value.str (Str.ofString "find") 291, Value.str (Str.ofString "Cursor.find") 292, Value.str (Str.ofString "/claim/cut.py") 293, Value.int 52 0, Value.int 2 0, Value.int 0 0, Value.int 0 0, Value.int 3 0, Value.ref 94, Value.bool true, Value.int 181 0, Value.ref 95, Value.none, Value.ref 96, Value.ref 97, Value.ref 98, Value.int 296 0, Value.int 52 0, Value.str (Str.ofString "/claim/cut.py") 297]) #[]) ::
(nat_lit 100, Obj.mk (Value.type "function") none (Data.func (FuncData.mk (Str.ofString "find") (Str.ofString "Cursor.find") (fnA (mS 4 9)) (FuncBody.stmts (fnB (mS 4 9))) (fnS (mS 4 9)) 3 [] Value.none Value.none Value.none (Value.str (Str.ofString "postkeep.octets") 194) none (Value.ref 99) Value.none 0)) #[]) ::
(nat_lit 101, Obj.mk (Value.type "tuple") none (Data.seq #[Value.str (Str.ofString "at") 299, Value.str (Str.ofString "data") 300, Value.str (Str.ofString "end") 301]) #[]) ::
(nat_lit 102, Obj.mk (Value.type "dict") none (Data.dict #[eD P "__module__" 207 (vS "postkeep.octets" 194), eD P "__firstlineno__" 211 (Value.int 7 210), eD P "__init__" 224 (vR 36), eD P "is_done" 231 (vR 43), eD P "peek" 241 (vR 51), eD P "take" 249 (vR 58), eD P "starts" 257 (vR 65), eD P "skip" 265 (vR 72), eD P "take_while" 273 (vR 79), eD P "take_until" 281 (vR 86), eD P "number" 290 (vR 93), eD P "find" 298 (vR 100), eD P "__static_attributes__" 302 (vR 101), eD P "__dict__" 304 (vR 104), eD P "__weakref__" 306 (vR 105), eD P "__doc__" 307 Value.none] 4) #[]) ::
(nat_lit 103, Obj.mk (Value.type "type") none (Data.cls (ClassData.mk (Str.ofString "Cursor") [Value.type "object"] [Value.ref 103, Value.type "object"] 102 (Str.ofString "Cursor") true [] [] false none false)) #[none, none, some (Value.str (Str.ofString "Cursor") 200), some (Value.str (Str.ofString "Cursor") 208), some (Value.builtin "object.__new__"), some (Value.bool true)]) ::
(nat_lit 104, Obj.mk (Value.type "getset_descriptor") none (Data.fields #[Value.str (Str.ofString "__dict__") 303, Value.ref 103, Value.builtin "function.__dict__", Value.builtin "function.__dict__#set"]) #[]) ::
(nat_lit 105, Obj.mk (Value.type "getset_descriptor") none (Data.fields #[Value.str (Str.ofString "__weakref__") 305, Value.ref 103, Value.builtin "ExceptionGroup.__weakref__", Value.none]) #[]) ::
(nat_lit 108, Obj.mk (Value.type "tuple") none (Data.seq #[]) #[]) ::
(nat_lit 110, Obj.mk (Value.type "tuple") none (Data.seq #[Value.str (Str.ofString "code") 313]) #[]) ::
(nat_lit 111, Obj.mk (Value.type "tuple") none (Data.seq #[]) #[]) ::
(nat_lit 113, Obj.mk (Value.type "code") none (Data.fields #[Value.str (Str.ofString "lower_code") 310, Value.str (Str.ofString "lower_code") 311, Value.str (Str.ofString "/claim/cut.py") 312, Value.int 54 0, Value.int 1 0, Value.int 0 0, Value.int 0 0, Value.int 3 0, Value.ref 108, Value.bool true, Value.int 181 0, Value.ref 109, Value.none, Value.ref 110, Value.ref 111, Value.ref 112, Value.int 314 0, Value.int 54 0, Value.str (Str.ofString "/claim/cut.py") 315]) #[]) ::
(nat_lit 114, Obj.mk (Value.type "function") none (Data.func (FuncData.mk (Str.ofString "lower_code") (Str.ofString "lower_code") (fnA (fS 5)) (FuncBody.stmts (fnB (fS 5))) (fnS (fS 5)) 3 [] Value.none Value.none Value.none (Value.str (Str.ofString "postkeep.octets") 194) none (Value.ref 113) Value.none 0)) #[]) ::
(nat_lit 115, Obj.mk (Value.type "tuple") none (Data.seq #[]) #[]) ::
(nat_lit 118, Obj.mk (Value.type "code") none (Data.fields #[Value.str (Str.ofString "lower") 317, Value.str (Str.ofString "lower") 318, Value.str (Str.ofString "/claim/cut.py") 319, Value.int 56 0, Value.int 1 0, Value.int 0 0, Value.int 0 0, Value.int 3 0, Value.ref 115, Value.bool true, Value.int 181 0, Value.ref 116, Value.none, Value.none, Value.none, Value.ref 117, Value.int 320 0, Value.int 56 0, Value.str (Str.ofString "/claim/cut.py") 321]) #[]) ::
(nat_lit 119, Obj.mk (Value.type "function") none (Data.func (FuncData.mk (Str.ofString "lower") (Str.ofString "lower") (fnA (fS 6)) (FuncBody.stmts (fnB (fS 6))) (fnS (fS 6)) 3 [] Value.none Value.none Value.none (Value.str (Str.ofString "postkeep.octets") 194) none (Value.ref 118) Value.none 0)) #[]) ::
(nat_lit 120, Obj.mk (Value.type "tuple") none (Data.seq #[]) #[]) ::
(nat_lit 123, Obj.mk (Value.type "code") none (Data.fields #[Value.str (Str.ofString "lower_text") 323, Value.str (Str.ofString "lower_text") 324, Value.str (Str.ofString "/claim/cut.py") 325, Value.int 58 0, Value.int 1 0, Value.int 0 0, Value.int 0 0, Value.int 3 0, Value.ref 120, Value.bool true, Value.int 181 0, Value.ref 121, Value.none, Value.none, Value.none, Value.ref 122, Value.int 326 0, Value.int 58 0, Value.str (Str.ofString "/claim/cut.py") 327]) #[]) ::
(nat_lit 124, Obj.mk (Value.type "function") none (Data.func (FuncData.mk (Str.ofString "lower_text") (Str.ofString "lower_text") (fnA (fS 7)) (FuncBody.stmts (fnB (fS 7))) (fnS (fS 7)) 3 [] Value.none Value.none Value.none (Value.str (Str.ofString "postkeep.octets") 194) none (Value.ref 123) Value.none 0)) #[]) ::
(nat_lit 125, Obj.mk (Value.type "tuple") none (Data.seq #[Value.int 0 329, Value.int (-1) 331]) #[]) ::
(nat_lit 126, Obj.mk (Value.type "tuple") none (Data.seq #[]) #[]) ::
(nat_lit 128, Obj.mk (Value.type "tuple") none (Data.seq #[Value.str (Str.ofString "data") 335, Value.str (Str.ofString "at") 336, Value.str (Str.ofString "end") 337, Value.str (Str.ofString "behind") 338, Value.str (Str.ofString "found") 339, Value.str (Str.ofString "begin") 340, Value.str (Str.ofString "feed") 341, Value.str (Str.ofString "last") 342]) #[]) ::
(nat_lit 129, Obj.mk (Value.type "tuple") none (Data.seq #[]) #[]) ::
(nat_lit 131, Obj.mk (Value.type "code") none (Data.fields #[Value.str (Str.ofString "line_spans") 332, Value.str (Str.ofString "line_spans") 333, Value.str (Str.ofString "/claim/cut.py") 334, Value.int 60 0, Value.int 3 0, Value.int 0 0, Value.int 0 0, Value.int 3 0, Value.ref 126, Value.bool true, Value.int 181 0, Value.ref 127, Value.none, Value.ref 128, Value.ref 129, Value.ref 130, Value.int 343 0, Value.int 60 0, Value.str (Str.ofString "/claim/cut.py") 344]) #[]) ::
(nat_lit 132, Obj.mk (Value.type "function") none (Data.func (FuncData.mk (Str.ofString "line_spans") (Str.ofString "line_spans") (fnA (fS 8)) (FuncBody.stmts (fnB (fS 8))) (fnS (fS 8)) 3 [] (Value.ref 125) Value.none Value.none (Value.str (Str.ofString "postkeep.octets") 194) none (Value.ref 131) Value.none 0)) #[]) ::
(nat_lit 133, Obj.mk (Value.type "tuple") none (Data.seq #[Value.int 32 348, Value.int 9 349]) #[]) ::
(nat_lit 141, Obj.mk (Value.type "tuple") none (Data.seq #[]) #[]) ::
(nat_lit 143, Obj.mk (Value.type "tuple") none (Data.seq #[Value.str (Str.ofString "self") 366, Value.str (Str.ofString "name") 367, Value.str (Str.ofString "raw") 368]) #[]) ::
(nat_lit 144, Obj.mk (Value.type "tuple") none (Data.seq #[]) #[]) ::
(nat_lit 146, Obj.mk (Value.type "code") none (Data.fields #[Value.str (Str.ofString "__init__") 363, Value.str (Str.ofString "Field.__init__") 364, Value.str (Str.ofString "/claim/cut.py") 365, Value.int 77 0, Value.int 3 0, Value.int 0 0, Value.int 0 0, Value.int 3 0, Value.ref 141, Value.bool true, Value.int 181 0, Value.ref 142, Value.none, Value.ref 143, Value.ref 144, Value.ref 145, Value.int 369 0, Value.int 77 0, Value.str (Str.ofString "/claim/cut.py") 370]) #[]) ::
(nat_lit 147, Obj.mk (Value.type "function") none (Data.func (FuncData.mk (Str.ofString "__init__") (Str.ofString "Field.__init__") (fnA (mS 11 0)) (FuncBody.stmts (fnB (mS 11 0))) (fnS (mS 11 0)) 3 [] Value.none Value.none Value.none (Value.str (Str.ofString "postkeep.headers") 346) none (Value.ref 146) Value.none 0)) #[]) ::
(nat_lit 148, Obj.mk (Value.type "tuple") none (Data.seq #[]) #[]) ::
(nat_lit 151, Obj.mk (Value.type "code") none (Data.fields #[Value.str (Str.ofString "word") 372, Value.str (Str.ofString "Field.word") 373, Value.str (Str.ofString "/claim/cut.py") 374, Value.int 81 0, Value.int 1 0, Value.int 0 0, Value.int 0 0, Value.int 3 0, Value.ref 148, Value.bool true, Value.int 181 0, Value.ref 149, Value.none, Value.none, Value.none, Value.ref 150, Value.int 375 0, Value.int 81 0, Value.str (Str.ofString "/claim/cut.py") 376]) #[]) ::
(nat_lit 152, Obj.mk (Value.type "function") none (Data.func (FuncData.mk (Str.ofString "word") (Str.ofString "Field.word") (fnA (mS 11 1)) (FuncBody.stmts (fnB (mS 11 1))) (fnS (mS 11 1)) 3 [] Value.none Value.none Value.none (Value.str (Str.ofString "postkeep.headers") 346) none (Value.ref 151) Value.none 0)) #[]) ::
(nat_lit 153, Obj.mk (Value.type "tuple") none (Data.seq #[]) #[]) ::
(nat_lit 155, Obj.mk (Value.type "tuple") none (Data.seq #[Value.str (Str.ofString "self") 381]) #[]) ::
(nat_lit 156, Obj.mk (Value.type "tuple") none (Data.seq #[]) #[]) ::
(nat_lit 158, Obj.mk (Value.type "code") none (Data.fields #[Value.str (Str.ofString "told") 378, Value.str (Str.ofString "Field.told") 379, Value.str (Str.ofString "/claim/cut.py") 380, Value.int 84 0, Value.int 1 0, Value.int 0 0, Value.int 0 0, Value.int 3 0, Value.ref 153, Value.bool true, Value.int 181 0, Value.ref 154, Value.none, Value.ref 155, Value.ref 156, Value.ref 157, Value.int 382 0, Value.int 84 0, Value.str (Str.ofString "/claim/cut.py") 383]) #[]) ::
(nat_lit 159, Obj.mk (Value.type "function") none (Data.func (FuncData.mk (Str.ofString "told") (Str.ofString "Field.told") (fnA (mS 11 2)) (FuncBody.stmts (fnB (mS 11 2))) (fnS (mS 11 2)) 3 [] Value.none Value.none Value.none (Value.str (Str.ofString "postkeep.headers") 346) none (Value.ref 158) Value.none 0)) #[]) ::
(nat_lit 160, Obj.mk (Value.type "tuple") none (Data.seq #[Value.str (Str.ofString "name") 385, Value.str (Str.ofString "raw") 386]) #[]) ::
(nat_lit 161, Obj.mk (Value.type "dict") none (Data.dict #[eD P "__module__" 358 (vS "postkeep.headers" 346), eD P "__firstlineno__" 362 (Value.int 75 361), eD P "__init__" 371 (vR 147), eD P "word" 377 (vR 152), eD P "told" 384 (vR 159), eD P "__static_attributes__" 387 (vR 160), eD P "__dict__" 389 (vR 163), eD P "__weakref__" 391 (vR 164), eD P "__doc__" 392 Value.none] 4) #[]) ::
(nat_lit 162, Obj.mk (Value.type "type") none (Data.cls (ClassData.mk (Str.ofString "Field") [Value.type "object"] [Value.ref 162, Value.type "object"] 161 (Str.ofString "Field") true [] [] false none false)) #[none, none, some (Value.str (Str.ofString "Field") 351), some (Value.str (Str.ofString "Field") 359), some (Value.builtin "object.__new__"), some (Value.bool true)]) ::
(nat_lit 163, Obj.mk (Value.type "getset_descriptor") none (Data.fields #[Value.str (Str.ofString "__dict__") 388, Value.ref 162, Value.builtin "function.__dict__", Value.builtin "function.__dict__#set"]) #[]) ::
(nat_lit 164, Obj.mk (Value.type "getset_descriptor") none (Data.fields #[Value.str (Str.ofString "__weakref__") 390, Value.ref 162, Value.builtin "ExceptionGroup.__weakref__", Value.none]) #[]) ::
(nat_lit 167, Obj.mk (Value.type "tuple") none (Data.seq #[]) #[]) ::
(nat_lit 169, Obj.mk (Value.type "tuple") none (Data.seq #[Value.str (Str.ofString "data") 398, Value.str (Str.ofString "at") 399, Value.str (Str.ofString "end") 400, Value.str (Str.ofString "spot") 401]) #[]) ::
(nat_lit 170, Obj.mk (Value.type "tuple") none (Data.seq #[]) #[]) ::
(nat_lit 172, Obj.mk (Value.type "code") none (Data.fields #[Value.str (Str.ofString "line_at") 395, Value.str (Str.ofString "line_at") 396, Value.str (Str.ofString "/claim/cut.py") 397, Value.int 86 0, Value.int 3 0, Value.int 0 0, Value.int 0 0, Value.int 3 0, Value.ref 167, Value.bool true, Value.int 181 0, Value.ref 168, Value.none, Value.ref 169, Value.ref 170, Value.ref 171, Value.int 402 0, Value.int 86 0, Value.str (Str.ofString "/claim/cut.py") 403]) #[]) ::
(nat_lit 173, Obj.mk (Value.type "function") none (Data.func (FuncData.mk (Str.ofString "line_at") (Str.ofString "line_at") (fnA (fS 12)) (FuncBody.stmts (fnB (fS 12))) (fnS (fS 12)) 3 [] Value.none Value.none Value.none (Value.str (Str.ofString "postkeep.headers") 346) none (Value.ref 172) Value.none 0)) #[]) ::
(nat_lit 174, Obj.mk (Value.type "tuple") none (Data.seq #[]) #[]) ::
(nat_lit 176, Obj.mk (Value.type "tuple") none (Data.seq #[Value.str (Str.ofString "octets") 408, Value.str (Str.ofString "code") 409]) #[]) ::
(nat_lit 177, Obj.mk (Value.type "tuple") none (Data.seq #[]) #[]) ::
(nat_lit 179, Obj.mk (Value.type "code") none (Data.fields #[Value.str (Str.ofString "is_name") 405, Value.str (Str.ofString "is_name") 406, Value.str (Str.ofString "/claim/cut.py") 407, Value.int 93 0, Value.int 1 0, Value.int 0 0, Value.int 0 0, Value.int 3 0, Value.ref 174, Value.bool true, Value.int 181 0, Value.ref 175, Value.none, Value.ref 176, Value.ref 177, Value.ref 178, Value.int 410 0, Value.int 93 0, Value.str (Str.ofString "/claim/cut.py") 411]) #[]) ::
(nat_lit 180, Obj.mk (Value.type "function") none (Data.func (FuncData.mk (Str.ofString "is_name") (Str.ofString "is_name") (fnA (fS 13)) (FuncBody.stmts (fnB (fS 13))) (fnS (fS 13)) 3 [] Value.none Value.none Value.none (Value.str (Str.ofString "postkeep.headers") 346) none (Value.ref 179) Value.none 0)) #[]) ::
(nat_lit 181, Obj.mk (Value.type "tuple") none (Data.seq #[]) #[]) ::
(nat_lit 183, Obj.mk (Value.type "tuple") none (Data.seq #[Value.str (Str.ofString "data") 416, Value.str (Str.ofString "at") 417, Value.str (Str.ofString "end") 418, Value.str (Str.ofString "spot") 419]) #[]) ::
(nat_lit 184, Obj.mk (Value.type "tuple") none (Data.seq #[]) #[]) ::
(nat_lit 186, Obj.mk (Value.type "code") none (Data.fields #[Value.str (Str.ofString "colon_in") 413, Value.str (Str.ofString "colon_in") 414, Value.str (Str.ofString "/claim/cut.py") 415, Value.int 98 0, Value.int 3 0, Value.int 0 0, Value.int 0 0, Value.int 3 0, Value.ref 181, Value.bool true, Value.int 181 0, Value.ref 182, Value.none, Value.ref 183, Value.ref 184, Value.ref 185, Value.int 420 0, Value.int 98 0, Value.str (Str.ofString "/claim/cut.py") 421]) #[]) ::
(nat_lit 187, Obj.mk (Value.type "function") none (Data.func (FuncData.mk (Str.ofString "colon_in") (Str.ofString "colon_in") (fnA (fS 14)) (FuncBody.stmts (fnB (fS 14))) (fnS (fS 14)) 3 [] Value.none Value.none Value.none (Value.str (Str.ofString "postkeep.headers") 346) none (Value.ref 186) Value.none 0)) #[]) ::
(nat_lit 188, Obj.mk (Value.type "tuple") none (Data.seq #[Value.int 0 423, Value.int (-1) 425]) #[]) ::
(nat_lit 189, Obj.mk (Value.type "tuple") none (Data.seq #[]) #[]) ::
(nat_lit 191, Obj.mk (Value.type "tuple") none (Data.seq #[Value.str (Str.ofString "data") 429, Value.str (Str.ofString "at") 430, Value.str (Str.ofString "end") 431, Value.str (Str.ofString "stop") 432, Value.str (Str.ofString "rows") 433, Value.str (Str.ofString "here") 434, Value.str (Str.ofString "last") 435, Value.str (Str.ofString "later") 436, Value.str (Str.ofString "colon") 437]) #[]) ::
(nat_lit 192, Obj.mk (Value.type "tuple") none (Data.seq #[]) #[]) ::
(nat_lit 194, Obj.mk (Value.type "code") none (Data.fields #[Value.str (Str.ofString "read_spans") 426, Value.str (Str.ofString "read_spans") 427, Value.str (Str.ofString "/claim/cut.py") 428, Value.int 101 0, Value.int 3 0, Value.int 0 0, Value.int 0 0, Value.int 3 0, Value.ref 189, Value.bool true, Value.int 181 0, Value.ref 190, Value.none, Value.ref 191, Value.ref 192, Value.ref 193, Value.int 438 0, Value.int 101 0, Value.str (Str.ofString "/claim/cut.py") 439]) #[]) ::
(nat_lit 195, Obj.mk (Value.type "function") none (Data.func (FuncData.mk (Str.ofString "read_spans") (Str.ofString "read_spans") (fnA (fS 15)) (FuncBody.stmts (fnB (fS 15))) (fnS (fS 15)) 3 [] (Value.ref 188) Value.none Value.none (Value.str (Str.ofString "postkeep.headers") 346) none (Value.ref 194) Value.none 0)) #[]) ::
(nat_lit 196, Obj.mk (Value.type "tuple") none (Data.seq #[Value.int 0 441, Value.int (-1) 443]) #[]) ::
(nat_lit 197, Obj.mk (Value.type "tuple") none (Data.seq #[]) #[]) ::
(nat_lit 200, Obj.mk (Value.type "code") none (Data.fields #[Value.str (Str.ofString "read_fields") 444, Value.str (Str.ofString "read_fields") 445, Value.str (Str.ofString "/claim/cut.py") 446, Value.int 117 0, Value.int 3 0, Value.int 0 0, Value.int 0 0, Value.int 3 0, Value.ref 197, Value.bool true, Value.int 181 0, Value.ref 198, Value.none, Value.none, Value.none, Value.ref 199, Value.int 447 0, Value.int 117 0, Value.str (Str.ofString "/claim/cut.py") 448]) #[]) ::
(nat_lit 201, Obj.mk (Value.type "function") none (Data.func (FuncData.mk (Str.ofString "read_fields") (Str.ofString "read_fields") (fnA (fS 16)) (FuncBody.stmts (fnB (fS 16))) (fnS (fS 16)) 3 [] (Value.ref 196) Value.none Value.none (Value.str (Str.ofString "postkeep.headers") 346) none (Value.ref 200) Value.none 0)) #[]) ::
(nat_lit 202, Obj.mk (Value.type "tuple") none (Data.seq #[]) #[]) ::
(nat_lit 204, Obj.mk (Value.type "tuple") none (Data.seq #[Value.str (Str.ofString "raw") 453, Value.str (Str.ofString "rows") 454, Value.str (Str.ofString "at") 455, Value.str (Str.ofString "last") 456, Value.str (Str.ofString "later") 457]) #[]) ::
(nat_lit 205, Obj.mk (Value.type "tuple") none (Data.seq #[]) #[]) ::
(nat_lit 207, Obj.mk (Value.type "code") none (Data.fields #[Value.str (Str.ofString "rows_of") 450, Value.str (Str.ofString "rows_of") 451, Value.str (Str.ofString "/claim/cut.py") 452, Value.int 120 0, Value.int 1 0, Value.int 0 0, Value.int 0 0, Value.int 3 0, Value.ref 202, Value.bool true, Value.int 181 0, Value.ref 203, Value.none, Value.ref 204, Value.ref 205, Value.ref 206, Value.int 458 0, Value.int 120 0, Value.str (Str.ofString "/claim/cut.py") 459]) #[]) ::
(nat_lit 208, Obj.mk (Value.type "function") none (Data.func (FuncData.mk (Str.ofString "rows_of") (Str.ofString "rows_of") (fnA (fS 17)) (FuncBody.stmts (fnB (fS 17))) (fnS (fS 17)) 3 [] Value.none Value.none Value.none (Value.str (Str.ofString "postkeep.headers") 346) none (Value.ref 207) Value.none 0)) #[]) ::
(nat_lit 209, Obj.mk (Value.type "tuple") none (Data.seq #[]) #[]) ::
(nat_lit 211, Obj.mk (Value.type "tuple") none (Data.seq #[Value.str (Str.ofString "raw") 464]) #[]) ::
(nat_lit 212, Obj.mk (Value.type "tuple") none (Data.seq #[]) #[]) ::
(nat_lit 214, Obj.mk (Value.type "code") none (Data.fields #[Value.str (Str.ofString "unfolded") 461, Value.str (Str.ofString "unfolded") 462, Value.str (Str.ofString "/claim/cut.py") 463, Value.int 129 0, Value.int 1 0, Value.int 0 0, Value.int 0 0, Value.int 3 0, Value.ref 209, Value.bool true, Value.int 181 0, Value.ref 210, Value.none, Value.ref 211, Value.ref 212, Value.ref 213, Value.int 465 0, Value.int 129 0, Value.str (Str.ofString "/claim/cut.py") 466]) #[]) ::
(nat_lit 215, Obj.mk (Value.type "function") none (Data.func (FuncData.mk (Str.ofString "unfolded") (Str.ofString "unfolded") (fnA (fS 18)) (FuncBody.stmts (fnB (fS 18))) (fnS (fS 18)) 3 [] Value.none Value.none Value.none (Value.str (Str.ofString "postkeep.headers") 346) none (Value.ref 214) Value.none 0)) #[]) ::
(nat_lit 216, Obj.mk (Value.type "tuple") none (Data.seq #[]) #[]) ::
(nat_lit 218, Obj.mk (Value.type "tuple") none (Data.seq #[Value.str (Str.ofString "fields") 471, Value.str (Str.ofString "word") 472, Value.str (Str.ofString "wanted") 473, Value.str (Str.ofString "field") 474]) #[]) ::
(nat_lit 219, Obj.mk (Value.type "tuple") none (Data.seq #[]) #[]) ::
(nat_lit 221, Obj.mk (Value.type "code") none (Data.fields #[Value.str (Str.ofString "first_body") 468, Value.str (Str.ofString "first_body") 469, Value.str (Str.ofString "/claim/cut.py") 470, Value.int 131 0, Value.int 2 0, Value.int 0 0, Value.int 0 0, Value.int 3 0, Value.ref 216, Value.bool true, Value.int 181 0, Value.ref 217, Value.none, Value.ref 218, Value.ref 219, Value.ref 220, Value.int 475 0, Value.int 131 0, Value.str (Str.ofString "/claim/cut.py") 476]) #[]) ::
(nat_lit 222, Obj.mk (Value.type "function") none (Data.func (FuncData.mk (Str.ofString "first_body") (Str.ofString "first_body") (fnA (fS 19)) (FuncBody.stmts (fnB (fS 19))) (fnS (fS 19)) 3 [] Value.none Value.none Value.none (Value.str (Str.ofString "postkeep.headers") 346) none (Value.ref 221) Value.none 0)) #[]) ::
(nat_lit 223, Obj.mk (Value.type "tuple") none (Data.seq #[Value.type "Exception"]) #[]) ::
(nat_lit 230, Obj.mk (Value.type "tuple") none (Data.seq #[Value.int (-1) 493]) #[]) ::
(nat_lit 231, Obj.mk (Value.type "tuple") none (Data.seq #[]) #[]) ::
(nat_lit 233, Obj.mk (Value.type "tuple") none (Data.seq #[Value.str (Str.ofString "self") 497, Value.str (Str.ofString "what") 498, Value.str (Str.ofString "at") 499]) #[]) ::
(nat_lit 234, Obj.mk (Value.type "tuple") none (Data.seq #[]) #[]) ::
(nat_lit 236, Obj.mk (Value.type "code") none (Data.fields #[Value.str (Str.ofString "__init__") 494, Value.str (Str.ofString "PostError.__init__") 495, Value.str (Str.ofString "/claim/cut.py") 496, Value.int 140 0, Value.int 3 0, Value.int 0 0, Value.int 0 0, Value.int 3 0, Value.ref 231, Value.bool true, Value.int 181 0, Value.ref 232, Value.none, Value.ref 233, Value.ref 234, Value.ref 235, Value.int 500 0, Value.int 140 0, Value.str (Str.ofString "/claim/cut.py") 501]) #[]) ::
(nat_lit 237, Obj.mk (Value.type "function") none (Data.func (FuncData.mk (Str.ofString "__init__") (Str.ofString "PostError.__init__") (fnA (mS 21 0)) (FuncBody.stmts (fnB (mS 21 0))) (fnS (mS 21 0)) 3 [] (Value.ref 230) Value.none Value.none (Value.str (Str.ofString "postkeep.errors") 478) none (Value.ref 236) Value.none 0)) #[]) ::
(nat_lit 238, Obj.mk (Value.type "tuple") none (Data.seq #[]) #[]) ::
(nat_lit 240, Obj.mk (Value.type "tuple") none (Data.seq #[Value.str (Str.ofString "self") 506]) #[]) ::
(nat_lit 241, Obj.mk (Value.type "tuple") none (Data.seq #[]) #[]) ::
(nat_lit 243, Obj.mk (Value.type "code") none (Data.fields #[Value.str (Str.ofString "told") 503, Value.str (Str.ofString "PostError.told") 504, Value.str (Str.ofString "/claim/cut.py") 505, Value.int 145 0, Value.int 1 0, Value.int 0 0, Value.int 0 0, Value.int 3 0, Value.ref 238, Value.bool true, Value.int 181 0, Value.ref 239, Value.none, Value.ref 240, Value.ref 241, Value.ref 242, Value.int 507 0, Value.int 145 0, Value.str (Str.ofString "/claim/cut.py") 508]) #[]) ::
(nat_lit 244, Obj.mk (Value.type "function") none (Data.func (FuncData.mk (Str.ofString "told") (Str.ofString "PostError.told") (fnA (mS 21 1)) (FuncBody.stmts (fnB (mS 21 1))) (fnS (mS 21 1)) 3 [] Value.none Value.none Value.none (Value.str (Str.ofString "postkeep.errors") 478) none (Value.ref 243) Value.none 0)) #[]) ::
(nat_lit 245, Obj.mk (Value.type "tuple") none (Data.seq #[Value.str (Str.ofString "at") 510, Value.str (Str.ofString "what") 511]) #[]) ::
(nat_lit 246, Obj.mk (Value.type "dict") none (Data.dict #[eD P "__module__" 487 (vS "postkeep.errors" 478), eD P "__firstlineno__" 491 (Value.int 138 490), eD P "__init__" 502 (vR 237), eD P "told" 509 (vR 244), eD P "__static_attributes__" 512 (vR 245), eD P "__weakref__" 514 (vR 248), eD P "__doc__" 515 Value.none] 3) #[]) ::
(nat_lit 247, Obj.mk (Value.type "type") none (Data.cls (ClassData.mk (Str.ofString "PostError") [Value.type "Exception"] [Value.ref 247, Value.type "Exception", Value.type "BaseException", Value.type "object"] 246 (Str.ofString "PostError") true [] [Value.ref 260, Value.ref 272] false none false)) #[some (Value.ref 223), none, some (Value.str (Str.ofString "PostError") 480), some (Value.str (Str.ofString "PostError") 488), some (Value.builtin "Exception.__new__"), some (Value.bool true)]) ::
(nat_lit 248, Obj.mk (Value.type "getset_descriptor") none (Data.fields #[Value.str (Str.ofString "__weakref__") 513, Value.ref 247, Value.builtin "ExceptionGroup.__weakref__", Value.none]) #[]) ::
(nat_lit 251, Obj.mk (Value.type "tuple") none (Data.seq #[Value.ref 247]) #[]) ::
(nat_lit 258, Obj.mk (Value.type "tuple") none (Data.seq #[]) #[]) ::
(nat_lit 259, Obj.mk (Value.type "dict") none (Data.dict #[eD P "__module__" 527 (vS "postkeep.errors" 478), eD P "__firstlineno__" 531 (Value.int 147 530), eD P "__static_attributes__" 532 (vR 258), eD P "__doc__" 533 Value.none] 2) #[]) ::
(nat_lit 260, Obj.mk (Value.type "type") none (Data.cls (ClassData.mk (Str.ofString "WordFault") [Value.ref 247] [Value.ref 260, Value.ref 247, Value.type "Exception", Value.type "BaseException", Value.type "object"] 259 (Str.ofString "WordFault") true [] [] false none false)) #[some (Value.ref 251), none, some (Value.str (Str.ofString "WordFault") 520), some (Value.str (Str.ofString "WordFault") 528), some (Value.builtin "Exception.__new__"), some (Value.bool true)]) ::
(nat_lit 263, Obj.mk (Value.type "tuple") none (Data.seq #[Value.ref 247]) #[]) ::
(nat_lit 270, Obj.mk (Value.type "tuple") none (Data.seq #[]) #[]) ::
(nat_lit 271, Obj.mk (Value.type "dict") none (Data.dict #[eD P "__module__" 543 (vS "postkeep.errors" 478), eD P "__firstlineno__" 547 (Value.int 149 546), eD P "__static_attributes__" 548 (vR 270), eD P "__doc__" 549 Value.none] 2) #[]) ::
(nat_lit 272, Obj.mk (Value.type "type") none (Data.cls (ClassData.mk (Str.ofString "MimeFault") [Value.ref 247] [Value.ref 272, Value.ref 247, Value.type "Exception", Value.type "BaseException", Value.type "object"] 271 (Str.ofString "MimeFault") true [] [] false none false)) #[some (Value.ref 263), none, some (Value.str (Str.ofString "MimeFault") 536), some (Value.str (Str.ofString "MimeFault") 544), some (Value.builtin "Exception.__new__"), some (Value.bool true)]) ::
(nat_lit 275, Obj.mk (Value.type "tuple") none (Data.seq #[Value.str (Str.ofString "us-ascii") 554, Value.str (Str.ofString "iso-8859-1") 556, Value.str (Str.ofString "utf-8") 558]) #[]) ::
(nat_lit 276, Obj.mk (Value.type "tuple") none (Data.seq #[]) #[]) ::
(nat_lit 278, Obj.mk (Value.type "tuple") none (Data.seq #[Value.str (Str.ofString "found") 567, Value.str (Str.ofString "alias") 568]) #[]) ::
(nat_lit 279, Obj.mk (Value.type "tuple") none (Data.seq #[]) #[]) ::
(nat_lit 281, Obj.mk (Value.type "code") none (Data.fields #[Value.str (Str.ofString "charset_names") 564, Value.str (Str.ofString "charset_names") 565, Value.str (Str.ofString "/claim/cut.py") 566, Value.int 157 0, Value.int 0 0, Value.int 0 0, Value.int 0 0, Value.int 3 0, Value.ref 276, Value.bool true, Value.int 181 0, Value.ref 277, Value.none, Value.ref 278, Value.ref 279, Value.ref 280, Value.int 569 0, Value.int 157 0, Value.str (Str.ofString "/claim/cut.py") 570]) #[]) ::
(nat_lit 282, Obj.mk (Value.type "function") none (Data.func (FuncData.mk (Str.ofString "charset_names") (Str.ofString "charset_names") (fnA (fS 30)) (FuncBody.stmts (fnB (fS 30))) (fnS (fS 30)) 3 [] Value.none Value.none Value.none (Value.str (Str.ofString "postkeep.charsets") 552) none (Value.ref 281) Value.none 0)) #[]) ::
(nat_lit 283, Obj.mk (Value.type "tuple") none (Data.seq #[]) #[]) ::
(nat_lit 285, Obj.mk (Value.type "tuple") none (Data.seq #[Value.str (Str.ofString "text") 575]) #[]) ::
(nat_lit 286, Obj.mk (Value.type "tuple") none (Data.seq #[]) #[]) ::
(nat_lit 288, Obj.mk (Value.type "code") none (Data.fields #[Value.str (Str.ofString "charset_name") 572, Value.str (Str.ofString "charset_name") 573, Value.str (Str.ofString "/claim/cut.py") 574, Value.int 166 0, Value.int 1 0, Value.int 0 0, Value.int 0 0, Value.int 3 0, Value.ref 283, Value.bool true, Value.int 181 0, Value.ref 284, Value.none, Value.ref 285, Value.ref 286, Value.ref 287, Value.int 576 0, Value.int 166 0, Value.str (Str.ofString "/claim/cut.py") 577]) #[]) ::
(nat_lit 289, Obj.mk (Value.type "function") none (Data.func (FuncData.mk (Str.ofString "charset_name") (Str.ofString "charset_name") (fnA (fS 31)) (FuncBody.stmts (fnB (fS 31))) (fnS (fS 31)) 3 [] Value.none Value.none Value.none (Value.str (Str.ofString "postkeep.charsets") 552) none (Value.ref 288) Value.none 0)) #[]) ::
(nat_lit 290, Obj.mk (Value.type "tuple") none (Data.seq #[]) #[]) ::
(nat_lit 292, Obj.mk (Value.type "tuple") none (Data.seq #[Value.str (Str.ofString "charset") 582]) #[]) ::
(nat_lit 293, Obj.mk (Value.type "tuple") none (Data.seq #[]) #[]) ::
(nat_lit 295, Obj.mk (Value.type "code") none (Data.fields #[Value.str (Str.ofString "need_charset") 579, Value.str (Str.ofString "need_charset") 580, Value.str (Str.ofString "/claim/cut.py") 581, Value.int 168 0, Value.int 1 0, Value.int 0 0, Value.int 0 0, Value.int 3 0, Value.ref 290, Value.bool true, Value.int 181 0, Value.ref 291, Value.none, Value.ref 292, Value.ref 293, Value.ref 294, Value.int 583 0, Value.int 168 0, Value.str (Str.ofString "/claim/cut.py") 584]) #[]) ::
(nat_lit 296, Obj.mk (Value.type "function") none (Data.func (FuncData.mk (Str.ofString "need_charset") (Str.ofString "need_charset") (fnA (fS 32)) (FuncBody.stmts (fnB (fS 32))) (fnS (fS 32)) 3 [] Value.none Value.none Value.none (Value.str (Str.ofString "postkeep.charsets") 552) none (Value.ref 295) Value.none 0)) #[]) ::
(nat_lit 297, Obj.mk (Value.type "tuple") none (Data.seq #[]) #[]) ::
(nat_lit 299, Obj.mk (Value.type "tuple") none (Data.seq #[Value.str (Str.ofString "lead") 589]) #[]) ::
(nat_lit 300, Obj.mk (Value.type "tuple") none (Data.seq #[]) #[]) ::
(nat_lit 302, Obj.mk (Value.type "code") none (Data.fields #[Value.str (Str.ofString "follower_span") 586, Value.str (Str.ofString "follower_span") 587, Value.str (Str.ofString "/claim/cut.py") 588, Value.int 171 0, Value.int 1 0, Value.int 0 0, Value.int 0 0, Value.int 3 0, Value.ref 297, Value.bool true, Value.int 181 0, Value.ref 298, Value.none, Value.ref 299, Value.ref 300, Value.ref 301, Value.int 590 0, Value.int 171 0, Value.str (Str.ofString "/claim/cut.py") 591]) #[]) ::
(nat_lit 303, Obj.mk (Value.type "function") none (Data.func (FuncData.mk (Str.ofString "follower_span") (Str.ofString "follower_span") (fnA (fS 33)) (FuncBody.stmts (fnB (fS 33))) (fnS (fS 33)) 3 [] Value.none Value.none Value.none (Value.str (Str.ofString "postkeep.charsets") 552) none (Value.ref 302) Value.none 0)) #[]) ::
(nat_lit 304, Obj.mk (Value.type "tuple") none (Data.seq #[]) #[]) ::
(nat_lit 306, Obj.mk (Value.type "tuple") none (Data.seq #[Value.str (Str.ofString "octets") 596, Value.str (Str.ofString "at") 597, Value.str (Str.ofString "lead") 598, Value.str (Str.ofString "least") 599, Value.str (Str.ofString "most") 600, Value.str (Str.ofString "count") 601, Value.str (Str.ofString "code") 602, Value.str (Str.ofString "place") 603]) #[]) ::
(nat_lit 307, Obj.mk (Value.type "tuple") none (Data.seq #[]) #[]) ::
(nat_lit 309, Obj.mk (Value.type "code") none (Data.fields #[Value.str (Str.ofString "utf8_sign") 593, Value.str (Str.ofString "utf8_sign") 594, Value.str (Str.ofString "/claim/cut.py") 595, Value.int 179 0, Value.int 2 0, Value.int 0 0, Value.int 0 0, Value.int 3 0, Value.ref 304, Value.bool true, Value.int 181 0, Value.ref 305, Value.none, Value.ref 306, Value.ref 307, Value.ref 308, Value.int 604 0, Value.int 179 0, Value.str (Str.ofString "/claim/cut.py") 605]) #[]) ::
(nat_lit 310, Obj.mk (Value.type "function") none (Data.func (FuncData.mk (Str.ofString "utf8_sign") (Str.ofString "utf8_sign") (fnA (fS 34)) (FuncBody.stmts (fnB (fS 34))) (fnS (fS 34)) 3 [] Value.none Value.none Value.none (Value.str (Str.ofString "postkeep.charsets") 552) none (Value.ref 309) Value.none 0)) #[]) ::
(nat_lit 311, Obj.mk (Value.type "tuple") none (Data.seq #[]) #[]) ::
(nat_lit 313, Obj.mk (Value.type "tuple") none (Data.seq #[Value.str (Str.ofString "charset") 610, Value.str (Str.ofString "octets") 611, Value.str (Str.ofString "at") 612]) #[]) ::
(nat_lit 314, Obj.mk (Value.type "tuple") none (Data.seq #[]) #[]) ::
(nat_lit 316, Obj.mk (Value.type "code") none (Data.fields #[Value.str (Str.ofString "sign_at") 607, Value.str (Str.ofString "sign_at") 608, Value.str (Str.ofString "/claim/cut.py") 609, Value.int 193 0, Value.int 3 0, Value.int 0 0, Value.int 0 0, Value.int 3 0, Value.ref 311, Value.bool true, Value.int 181 0, Value.ref 312, Value.none, Value.ref 313, Value.ref 314, Value.ref 315, Value.int 613 0, Value.int 193 0, Value.str (Str.ofString "/claim/cut.py") 614]) #[]) ::
(nat_lit 317, Obj.mk (Value.type "function") none (Data.func (FuncData.mk (Str.ofString "sign_at") (Str.ofString "sign_at") (fnA (fS 35)) (FuncBody.stmts (fnB (fS 35))) (fnS (fS 35)) 3 [] Value.none Value.none Value.none (Value.str (Str.ofString "postkeep.charsets") 552) none (Value.ref 316) Value.none 0)) #[]) ::
(nat_lit 318, Obj.mk (Value.type "tuple") none (Data.seq #[]) #[]) ::
(nat_lit 320, Obj.mk (Value.type "tuple") none (Data.seq #[Value.str (Str.ofString "charset") 619, Value.str (Str.ofString "octets") 620, Value.str (Str.ofString "signs") 621, Value.str (Str.ofString "at") 622, Value.str (Str.ofString "code") 623, Value.str (Str.ofString "length") 624]) #[]) ::
(nat_lit 321, Obj.mk (Value.type "tuple") none (Data.seq #[]) #[]) ::
(nat_lit 323, Obj.mk (Value.type "code") none (Data.fields #[Value.str (Str.ofString "text_in") 616, Value.str (Str.ofString "text_in") 617, Value.str (Str.ofString "/claim/cut.py") 618, Value.int 199 0, Value.int 2 0, Value.int 0 0, Value.int 0 0, Value.int 3 0, Value.ref 318, Value.bool true, Value.int 181 0, Value.ref 319, Value.none, Value.ref 320, Value.ref 321, Value.ref 322, Value.int 625 0, Value.int 199 0, Value.str (Str.ofString "/claim/cut.py") 626]) #[]) ::
(nat_lit 324, Obj.mk (Value.type "function") none (Data.func (FuncData.mk (Str.ofString "text_in") (Str.ofString "text_in") (fnA (fS 36)) (FuncBody.stmts (fnB (fS 36))) (fnS (fS 36)) 3 [] Value.none Value.none Value.none (Value.str (Str.ofString "postkeep.charsets") 552) none (Value.ref 323) Value.none 0)) #[]) ::
(nat_lit 325, Obj.mk (Value.type "tuple") none (Data.seq #[]) #[]) ::
(nat_lit 327, Obj.mk (Value.type "tuple") none (Data.seq #[Value.str (Str.ofString "charset") 631, Value.str (Str.ofString "octets") 632, Value.str (Str.ofString "signs") 633, Value.str (Str.ofString "at") 634, Value.str (Str.ofString "code") 635, Value.str (Str.ofString "length") 636]) #[]) ::
(nat_lit 328, Obj.mk (Value.type "tuple") none (Data.seq #[]) #[]) ::
(nat_lit 330, Obj.mk (Value.type "code") none (Data.fields #[Value.str (Str.ofString "strict_text") 628, Value.str (Str.ofString "strict_text") 629, Value.str (Str.ofString "/claim/cut.py") 630, Value.int 208 0, Value.int 2 0, Value.int 0 0, Value.int 0 0, Value.int 3 0, Value.ref 325, Value.bool true, Value.int 181 0, Value.ref 326, Value.none, Value.ref 327, Value.ref 328, Value.ref 329, Value.int 637 0, Value.int 208 0, Value.str (Str.ofString "/claim/cut.py") 638]) #[]) ::
(nat_lit 331, Obj.mk (Value.type "function") none (Data.func (FuncData.mk (Str.ofString "strict_text") (Str.ofString "strict_text") (fnA (fS 37)) (FuncBody.stmts (fnB (fS 37))) (fnS (fS 37)) 3 [] Value.none Value.none Value.none (Value.str (Str.ofString "postkeep.charsets") 552) none (Value.ref 330) Value.none 0)) #[]) ::
(nat_lit 332, Obj.mk (Value.type "tuple") none (Data.seq #[]) #[]) ::
(nat_lit 334, Obj.mk (Value.type "tuple") none (Data.seq #[Value.str (Str.ofString "octets") 643]) #[]) ::
(nat_lit 335, Obj.mk (Value.type "tuple") none (Data.seq #[]) #[]) ::
(nat_lit 337, Obj.mk (Value.type "code") none (Data.fields #[Value.str (Str.ofString "guessed_text") 640, Value.str (Str.ofString "guessed_text") 641, Value.str (Str.ofString "/claim/cut.py") 642, Value.int 219 0, Value.int 1 0, Value.int 0 0, Value.int 0 0, Value.int 3 0, Value.ref 332, Value.bool true, Value.int 181 0, Value.ref 333, Value.none, Value.ref 334, Value.ref 335, Value.ref 336, Value.int 644 0, Value.int 219 0, Value.str (Str.ofString "/claim/cut.py") 645]) #[]) ::
(nat_lit 338, Obj.mk (Value.type "function") none (Data.func (FuncData.mk (Str.ofString "guessed_text") (Str.ofString "guessed_text") (fnA (fS 38)) (FuncBody.stmts (fnB (fS 38))) (fnS (fS 38)) 3 [] Value.none Value.none Value.none (Value.str (Str.ofString "postkeep.charsets") 552) none (Value.ref 337) Value.none 0)) #[]) ::
(nat_lit 339, Obj.mk (Value.type "tuple") none (Data.seq #[Value.int 0 651, Value.int 10 652, Value.int 13 653]) #[]) ::
(nat_lit 340, Obj.mk (Value.type "tuple") none (Data.seq #[]) #[]) ::
(nat_lit 342, Obj.mk (Value.type "tuple") none (Data.seq #[Value.str (Str.ofString "data") 658, Value.str (Str.ofString "at") 659]) #[]) ::
(nat_lit 343, Obj.mk (Value.type "tuple") none (Data.seq #[]) #[]) ::
(nat_lit 345, Obj.mk (Value.type "code") none (Data.fields #[Value.str (Str.ofString "line_end") 655, Value.str (Str.ofString "line_end") 656, Value.str (Str.ofString "/claim/cut.py") 657, Value.int 227 0, Value.int 2 0, Value.int 0 0, Value.int 0 0, Value.int 3 0, Value.ref 340, Value.bool true, Value.int 181 0, Value.ref 341, Value.none, Value.ref 342, Value.ref 343, Value.ref 344, Value.int 660 0, Value.int 227 0, Value.str (Str.ofString "/claim/cut.py") 661]) #[]) ::
(nat_lit 346, Obj.mk (Value.type "function") none (Data.func (FuncData.mk (Str.ofString "line_end") (Str.ofString "line_end") (fnA (fS 42)) (FuncBody.stmts (fnB (fS 42))) (fnS (fS 42)) 3 [] Value.none Value.none Value.none (Value.str (Str.ofString "postkeep.tokens") 647) none (Value.ref 345) Value.none 0)) #[]) ::
(nat_lit 347, Obj.mk (Value.type "tuple") none (Data.seq #[]) #[]) ::
(nat_lit 349, Obj.mk (Value.type "tuple") none (Data.seq #[Value.str (Str.ofString "data") 666, Value.str (Str.ofString "at") 667, Value.str (Str.ofString "begun") 668, Value.str (Str.ofString "behind") 669]) #[]) ::
(nat_lit 350, Obj.mk (Value.type "tuple") none (Data.seq #[]) #[]) ::
(nat_lit 352, Obj.mk (Value.type "code") none (Data.fields #[Value.str (Str.ofString "inside_at") 663, Value.str (Str.ofString "inside_at") 664, Value.str (Str.ofString "/claim/cut.py") 665, Value.int 231 0, Value.int 3 0, Value.int 0 0, Value.int 0 0, Value.int 3 0, Value.ref 347, Value.bool true, Value.int 181 0, Value.ref 348, Value.none, Value.ref 349, Value.ref 350, Value.ref 351, Value.int 670 0, Value.int 231 0, Value.str (Str.ofString "/claim/cut.py") 671]) #[]) ::
(nat_lit 353, Obj.mk (Value.type "function") none (Data.func (FuncData.mk (Str.ofString "inside_at") (Str.ofString "inside_at") (fnA (fS 43)) (FuncBody.stmts (fnB (fS 43))) (fnS (fS 43)) 3 [] Value.none Value.none Value.none (Value.str (Str.ofString "postkeep.tokens") 647) none (Value.ref 352) Value.none 0)) #[]) ::
(nat_lit 354, Obj.mk (Value.type "tuple") none (Data.seq #[]) #[]) ::
(nat_lit 356, Obj.mk (Value.type "tuple") none (Data.seq #[Value.str (Str.ofString "data") 676, Value.str (Str.ofString "begun") 677, Value.str (Str.ofString "closing") 678, Value.str (Str.ofString "barred") 679, Value.str (Str.ofString "parts") 680, Value.str (Str.ofString "at") 681, Value.str (Str.ofString "octets") 682]) #[]) ::
(nat_lit 357, Obj.mk (Value.type "tuple") none (Data.seq #[]) #[]) ::
(nat_lit 359, Obj.mk (Value.type "code") none (Data.fields #[Value.str (Str.ofString "closed_at") 673, Value.str (Str.ofString "closed_at") 674, Value.str (Str.ofString "/claim/cut.py") 675, Value.int 244 0, Value.int 4 0, Value.int 0 0, Value.int 0 0, Value.int 3 0, Value.ref 354, Value.bool true, Value.int 181 0, Value.ref 355, Value.none, Value.ref 356, Value.ref 357, Value.ref 358, Value.int 683 0, Value.int 244 0, Value.str (Str.ofString "/claim/cut.py") 684]) #[]) ::
(nat_lit 360, Obj.mk (Value.type "function") none (Data.func (FuncData.mk (Str.ofString "closed_at") (Str.ofString "closed_at") (fnA (fS 44)) (FuncBody.stmts (fnB (fS 44))) (fnS (fS 44)) 3 [] Value.none Value.none Value.none (Value.str (Str.ofString "postkeep.tokens") 647) none (Value.ref 359) Value.none 0)) #[]) ::
(nat_lit 361, Obj.mk (Value.type "tuple") none (Data.seq #[]) #[]) ::
(nat_lit 363, Obj.mk (Value.type "tuple") none (Data.seq #[Value.str (Str.ofString "data") 689, Value.str (Str.ofString "begun") 690, Value.str (Str.ofString "parts") 691, Value.str (Str.ofString "depth") 692, Value.str (Str.ofString "at") 693, Value.str (Str.ofString "sign") 694, Value.str (Str.ofString "octets") 695]) #[]) ::
(nat_lit 364, Obj.mk (Value.type "tuple") none (Data.seq #[]) #[]) ::
(nat_lit 366, Obj.mk (Value.type "code") none (Data.fields #[Value.str (Str.ofString "comment_at") 686, Value.str (Str.ofString "comment_at") 687, Value.str (Str.ofString "/claim/cut.py") 688, Value.int 253 0, Value.int 2 0, Value.int 0 0, Value.int 0 0, Value.int 3 0, Value.ref 361, Value.bool true, Value.int 181 0, Value.ref 362, Value.none, Value.ref 363, Value.ref 364, Value.ref 365, Value.int 696 0, Value.int 253 0, Value.str (Str.ofString "/claim/cut.py") 697]) #[]) ::
(nat_lit 367, Obj.mk (Value.type "function") none (Data.func (FuncData.mk (Str.ofString "comment_at") (Str.ofString "comment_at") (fnA (fS 45)) (FuncBody.stmts (fnB (fS 45))) (fnS (fS 45)) 3 [] Value.none Value.none Value.none (Value.str (Str.ofString "postkeep.tokens") 647) none (Value.ref 366) Value.none 0)) #[]) ::
(nat_lit 368, Obj.mk (Value.type "tuple") none (Data.seq #[Value.int 9 701, Value.int 10 702, Value.int 13 703, Value.int 32 704]) #[]) ::
(nat_lit 376, Obj.mk (Value.type "tuple") none (Data.seq #[]) #[]) ::
(nat_lit 378, Obj.mk (Value.type "tuple") none (Data.seq #[Value.str (Str.ofString "self") 735, Value.str (Str.ofString "top") 736, Value.str (Str.ofString "sub") 737, Value.str (Str.ofString "params") 738]) #[]) ::
(nat_lit 379, Obj.mk (Value.type "tuple") none (Data.seq #[]) #[]) ::
(nat_lit 381, Obj.mk (Value.type "code") none (Data.fields #[Value.str (Str.ofString "__init__") 732, Value.str (Str.ofString "Kind.__init__") 733, Value.str (Str.ofString "/claim/cut.py") 734, Value.int 279 0, Value.int 4 0, Value.int 0 0, Value.int 0 0, Value.int 3 0, Value.ref 376, Value.bool true, Value.int 181 0, Value.ref 377, Value.none, Value.ref 378, Value.ref 379, Value.ref 380, Value.int 739 0, Value.int 279 0, Value.str (Str.ofString "/claim/cut.py") 740]) #[]) ::
(nat_lit 382, Obj.mk (Value.type "function") none (Data.func (FuncData.mk (Str.ofString "__init__") (Str.ofString "Kind.__init__") (fnA (mS 55 0)) (FuncBody.stmts (fnB (mS 55 0))) (fnS (mS 55 0)) 3 [] Value.none Value.none Value.none (Value.str (Str.ofString "postkeep.params") 699) none (Value.ref 381) Value.none 0)) #[]) ::
(nat_lit 383, Obj.mk (Value.type "tuple") none (Data.seq #[]) #[]) ::
(nat_lit 385, Obj.mk (Value.type "tuple") none (Data.seq #[Value.str (Str.ofString "self") 745]) #[]) ::
(nat_lit 386, Obj.mk (Value.type "tuple") none (Data.seq #[]) #[]) ::
(nat_lit 388, Obj.mk (Value.type "code") none (Data.fields #[Value.str (Str.ofString "told") 742, Value.str (Str.ofString "Kind.told") 743, Value.str (Str.ofString "/claim/cut.py") 744, Value.int 284 0, Value.int 1 0, Value.int 0 0, Value.int 0 0, Value.int 3 0, Value.ref 383, Value.bool true, Value.int 181 0, Value.ref 384, Value.none, Value.ref 385, Value.ref 386, Value.ref 387, Value.int 746 0, Value.int 284 0, Value.str (Str.ofString "/claim/cut.py") 747]) #[]) ::
(nat_lit 389, Obj.mk (Value.type "function") none (Data.func (FuncData.mk (Str.ofString "told") (Str.ofString "Kind.told") (fnA (mS 55 1)) (FuncBody.stmts (fnB (mS 55 1))) (fnS (mS 55 1)) 3 [] Value.none Value.none Value.none (Value.str (Str.ofString "postkeep.params") 699) none (Value.ref 388) Value.none 0)) #[]) ::
(nat_lit 390, Obj.mk (Value.type "tuple") none (Data.seq #[]) #[]) ::
(nat_lit 392, Obj.mk (Value.type "tuple") none (Data.seq #[Value.str (Str.ofString "self") 752]) #[]) ::
(nat_lit 393, Obj.mk (Value.type "tuple") none (Data.seq #[]) #[]) ::
(nat_lit 395, Obj.mk (Value.type "code") none (Data.fields #[Value.str (Str.ofString "is_multi") 749, Value.str (Str.ofString "Kind.is_multi") 750, Value.str (Str.ofString "/claim/cut.py") 751, Value.int 287 0, Value.int 1 0, Value.int 0 0, Value.int 0 0, Value.int 3 0, Value.ref 390, Value.bool true, Value.int 181 0, Value.ref 391, Value.none, Value.ref 392, Value.ref 393, Value.ref 394, Value.int 753 0, Value.int 287 0, Value.str (Str.ofString "/claim/cut.py") 754]) #[]) ::
(nat_lit 396, Obj.mk (Value.type "function") none (Data.func (FuncData.mk (Str.ofString "is_multi") (Str.ofString "Kind.is_multi") (fnA (mS 55 2)) (FuncBody.stmts (fnB (mS 55 2))) (fnS (mS 55 2)) 3 [] Value.none Value.none Value.none (Value.str (Str.ofString "postkeep.params") 699) none (Value.ref 395) Value.none 0)) #[]) ::
(nat_lit 397, Obj.mk (Value.type "tuple") none (Data.seq #[]) #[]) ::
(nat_lit 399, Obj.mk (Value.type "tuple") none (Data.seq #[Value.str (Str.ofString "self") 759]) #[]) ::
(nat_lit 400, Obj.mk (Value.type "tuple") none (Data.seq #[]) #[]) ::
(nat_lit 402, Obj.mk (Value.type "code") none (Data.fields #[Value.str (Str.ofString "is_letter") 756, Value.str (Str.ofString "Kind.is_letter") 757, Value.str (Str.ofString "/claim/cut.py") 758, Value.int 290 0, Value.int 1 0, Value.int 0 0, Value.int 0 0, Value.int 3 0, Value.ref 397, Value.bool true, Value.int 181 0, Value.ref 398, Value.none, Value.ref 399, Value.ref 400, Value.ref 401, Value.int 760 0, Value.int 290 0, Value.str (Str.ofString "/claim/cut.py") 761]) #[]) ::
(nat_lit 403, Obj.mk (Value.type "function") none (Data.func (FuncData.mk (Str.ofString "is_letter") (Str.ofString "Kind.is_letter") (fnA (mS 55 3)) (FuncBody.stmts (fnB (mS 55 3))) (fnS (mS 55 3)) 3 [] Value.none Value.none Value.none (Value.str (Str.ofString "postkeep.params") 699) none (Value.ref 402) Value.none 0)) #[]) ::
(nat_lit 404, Obj.mk (Value.type "tuple") none (Data.seq #[]) #[]) ::
(nat_lit 406, Obj.mk (Value.type "tuple") none (Data.seq #[Value.str (Str.ofString "self") 766]) #[]) ::
(nat_lit 407, Obj.mk (Value.type "tuple") none (Data.seq #[]) #[]) ::
(nat_lit 409, Obj.mk (Value.type "code") none (Data.fields #[Value.str (Str.ofString "is_text") 763, Value.str (Str.ofString "Kind.is_text") 764, Value.str (Str.ofString "/claim/cut.py") 765, Value.int 293 0, Value.int 1 0, Value.int 0 0, Value.int 0 0, Value.int 3 0, Value.ref 404, Value.bool true, Value.int 181 0, Value.ref 405, Value.none, Value.ref 406, Value.ref 407, Value.ref 408, Value.int 767 0, Value.int 293 0, Value.str (Str.ofString "/claim/cut.py") 768]) #[]) ::
(nat_lit 410, Obj.mk (Value.type "function") none (Data.func (FuncData.mk (Str.ofString "is_text") (Str.ofString "Kind.is_text") (fnA (mS 55 4)) (FuncBody.stmts (fnB (mS 55 4))) (fnS (mS 55 4)) 3 [] Value.none Value.none Value.none (Value.str (Str.ofString "postkeep.params") 699) none (Value.ref 409) Value.none 0)) #[]) ::
(nat_lit 411, Obj.mk (Value.type "tuple") none (Data.seq #[Value.str (Str.ofString "params") 770, Value.str (Str.ofString "sub") 771, Value.str (Str.ofString "top") 772]) #[]) ::
(nat_lit 412, Obj.mk (Value.type "dict") none (Data.dict #[eD P "__module__" 727 (vS "postkeep.params" 699), eD P "__firstlineno__" 731 (Value.int 277 730), eD P "__init__" 741 (vR 382), eD P "told" 748 (vR 389), eD P "is_multi" 755 (vR 396), eD P "is_letter" 762 (vR 403), eD P "is_text" 769 (vR 410), eD P "__static_attributes__" 773 (vR 411), eD P "__dict__" 775 (vR 414), eD P "__weakref__" 777 (vR 415), eD P "__doc__" 778 Value.none] 4) #[]) ::
(nat_lit 413, Obj.mk (Value.type "type") none (Data.cls (ClassData.mk (Str.ofString "Kind") [Value.type "object"] [Value.ref 413, Value.type "object"] 412 (Str.ofString "Kind") true [] [] false none false)) #[none, none, some (Value.str (Str.ofString "Kind") 720), some (Value.str (Str.ofString "Kind") 728), some (Value.builtin "object.__new__"), some (Value.bool true)]) ::
(nat_lit 414, Obj.mk (Value.type "getset_descriptor") none (Data.fields #[Value.str (Str.ofString "__dict__") 774, Value.ref 413, Value.builtin "function.__dict__", Value.builtin "function.__dict__#set"]) #[]) ::
(nat_lit 415, Obj.mk (Value.type "getset_descriptor") none (Data.fields #[Value.str (Str.ofString "__weakref__") 776, Value.ref 413, Value.builtin "ExceptionGroup.__weakref__", Value.none]) #[]) ::
(nat_lit 418, Obj.mk (Value.type "tuple") none (Data.seq #[]) #[]) ::
(nat_lit 420, Obj.mk (Value.type "tuple") none (Data.seq #[]) #[]) ::
(nat_lit 421, Obj.mk (Value.type "tuple") none (Data.seq #[]) #[]) ::
(nat_lit 423, Obj.mk (Value.type "code") none (Data.fields #[Value.str (Str.ofString "plain_kind") 781, Value.str (Str.ofString "plain_kind") 782, Value.str (Str.ofString "/claim/cut.py") 783, Value.int 295 0, Value.int 0 0, Value.int 0 0, Value.int 0 0, Value.int 3 0, Value.ref 418, Value.bool true, Value.int 181 0, Value.ref 419, Value.none, Value.ref 420, Value.ref 421, Value.ref 422, Value.int 784 0, Value.int 295 0, Value.str (Str.ofString "/claim/cut.py") 785]) #[]) ::
(nat_lit 424, Obj.mk (Value.type "function") none (Data.func (FuncData.mk (Str.ofString "plain_kind") (Str.ofString "plain_kind") (fnA (fS 56)) (FuncBody.stmts (fnB (fS 56))) (fnS (fS 56)) 3 [] Value.none Value.none Value.none (Value.str (Str.ofString "postkeep.params") 699) none (Value.ref 423) Value.none 0)) #[]) ::
(nat_lit 425, Obj.mk (Value.type "tuple") none (Data.seq #[]) #[]) ::
(nat_lit 427, Obj.mk (Value.type "tuple") none (Data.seq #[Value.str (Str.ofString "code") 790]) #[]) ::
(nat_lit 428, Obj.mk (Value.type "tuple") none (Data.seq #[]) #[]) ::
(nat_lit 430, Obj.mk (Value.type "code") none (Data.fields #[Value.str (Str.ofString "is_token_code") 787, Value.str (Str.ofString "is_token_code") 788, Value.str (Str.ofString "/claim/cut.py") 789, Value.int 297 0, Value.int 1 0, Value.int 0 0, Value.int 0 0, Value.int 3 0, Value.ref 425, Value.bool true, Value.int 181 0, Value.ref 426, Value.none, Value.ref 427, Value.ref 428, Value.ref 429, Value.int 791 0, Value.int 297 0, Value.str (Str.ofString "/claim/cut.py") 792]) #[]) ::
(nat_lit 431, Obj.mk (Value.type "function") none (Data.func (FuncData.mk (Str.ofString "is_token_code") (Str.ofString "is_token_code") (fnA (fS 57)) (FuncBody.stmts (fnB (fS 57))) (fnS (fS 57)) 3 [] Value.none Value.none Value.none (Value.str (Str.ofString "postkeep.params") 699) none (Value.ref 430) Value.none 0)) #[]) ::
(nat_lit 432, Obj.mk (Value.type "tuple") none (Data.seq #[]) #[]) ::
(nat_lit 434, Obj.mk (Value.type "tuple") none (Data.seq #[Value.str (Str.ofString "cursor") 797]) #[]) ::
(nat_lit 435, Obj.mk (Value.type "tuple") none (Data.seq #[]) #[]) ::
(nat_lit 437, Obj.mk (Value.type "code") none (Data.fields #[Value.str (Str.ofString "skip_between") 794, Value.str (Str.ofString "skip_between") 795, Value.str (Str.ofString "/claim/cut.py") 796, Value.int 299 0, Value.int 1 0, Value.int 0 0, Value.int 0 0, Value.int 3 0, Value.ref 432, Value.bool true, Value.int 181 0, Value.ref 433, Value.none, Value.ref 434, Value.ref 435, Value.ref 436, Value.int 798 0, Value.int 299 0, Value.str (Str.ofString "/claim/cut.py") 799]) #[]) ::
(nat_lit 438, Obj.mk (Value.type "function") none (Data.func (FuncData.mk (Str.ofString "skip_between") (Str.ofString "skip_between") (fnA (fS 58)) (FuncBody.stmts (fnB (fS 58))) (fnS (fS 58)) 3 [] Value.none Value.none Value.none (Value.str (Str.ofString "postkeep.params") 699) none (Value.ref 437) Value.none 0)) #[]) ::
(nat_lit 439, Obj.mk (Value.type "tuple") none (Data.seq #[]) #[]) ::
(nat_lit 441, Obj.mk (Value.type "tuple") none (Data.seq #[Value.str (Str.ofString "cursor") 804, Value.str (Str.ofString "first") 805]) #[]) ::
(nat_lit 442, Obj.mk (Value.type "tuple") none (Data.seq #[]) #[]) ::
(nat_lit 444, Obj.mk (Value.type "code") none (Data.fields #[Value.str (Str.ofString "take_token") 801, Value.str (Str.ofString "take_token") 802, Value.str (Str.ofString "/claim/cut.py") 803, Value.int 307 0, Value.int 1 0, Value.int 0 0, Value.int 0 0, Value.int 3 0, Value.ref 439, Value.bool true, Value.int 181 0, Value.ref 440, Value.none, Value.ref 441, Value.ref 442, Value.ref 443, Value.int 806 0, Value.int 307 0, Value.str (Str.ofString "/claim/cut.py") 807]) #[]) ::
(nat_lit 445, Obj.mk (Value.type "function") none (Data.func (FuncData.mk (Str.ofString "take_token") (Str.ofString "take_token") (fnA (fS 59)) (FuncBody.stmts (fnB (fS 59))) (fnS (fS 59)) 3 [] Value.none Value.none Value.none (Value.str (Str.ofString "postkeep.params") 699) none (Value.ref 444) Value.none 0)) #[]) ::
(nat_lit 446, Obj.mk (Value.type "tuple") none (Data.seq #[]) #[]) ::
(nat_lit 448, Obj.mk (Value.type "tuple") none (Data.seq #[Value.str (Str.ofString "code") 812]) #[]) ::
(nat_lit 449, Obj.mk (Value.type "tuple") none (Data.seq #[]) #[]) ::
(nat_lit 451, Obj.mk (Value.type "code") none (Data.fields #[Value.str (Str.ofString "is_worth_code") 809, Value.str (Str.ofString "is_worth_code") 810, Value.str (Str.ofString "/claim/cut.py") 811, Value.int 314 0, Value.int 1 0, Value.int 0 0, Value.int 0 0, Value.int 3 0, Value.ref 446, Value.bool true, Value.int 181 0, Value.ref 447, Value.none, Value.ref 448, Value.ref 449, Value.ref 450, Value.int 813 0, Value.int 314 0, Value.str (Str.ofString "/claim/cut.py") 814]) #[]) ::
(nat_lit 452, Obj.mk (Value.type "function") none (Data.func (FuncData.mk (Str.ofString "is_worth_code") (Str.ofString "is_worth_code") (fnA (fS 60)) (FuncBody.stmts (fnB (fS 60))) (fnS (fS 60)) 3 [] Value.none Value.none Value.none (Value.str (Str.ofString "postkeep.params") 699) none (Value.ref 451) Value.none 0)) #[]) ::
(nat_lit 453, Obj.mk (Value.type "tuple") none (Data.seq #[]) #[]) ::
(nat_lit 455, Obj.mk (Value.type "tuple") none (Data.seq #[Value.str (Str.ofString "cursor") 819, Value.str (Str.ofString "worth") 820, Value.str (Str.ofString "first") 821]) #[]) ::
(nat_lit 456, Obj.mk (Value.type "tuple") none (Data.seq #[]) #[]) ::
(nat_lit 458, Obj.mk (Value.type "code") none (Data.fields #[Value.str (Str.ofString "take_worth") 816, Value.str (Str.ofString "take_worth") 817, Value.str (Str.ofString "/claim/cut.py") 818, Value.int 316 0, Value.int 1 0, Value.int 0 0, Value.int 0 0, Value.int 3 0, Value.ref 453, Value.bool true, Value.int 181 0, Value.ref 454, Value.none, Value.ref 455, Value.ref 456, Value.ref 457, Value.int 822 0, Value.int 316 0, Value.str (Str.ofString "/claim/cut.py") 823]) #[]) ::
(nat_lit 459, Obj.mk (Value.type "function") none (Data.func (FuncData.mk (Str.ofString "take_worth") (Str.ofString "take_worth") (fnA (fS 61)) (FuncBody.stmts (fnB (fS 61))) (fnS (fS 61)) 3 [] Value.none Value.none Value.none (Value.str (Str.ofString "postkeep.params") 699) none (Value.ref 458) Value.none 0)) #[]) ::
(nat_lit 460, Obj.mk (Value.type "tuple") none (Data.seq #[]) #[]) ::
(nat_lit 463, Obj.mk (Value.type "code") none (Data.fields #[Value.str (Str.ofString "small_word") 825, Value.str (Str.ofString "small_word") 826, Value.str (Str.ofString "/claim/cut.py") 827, Value.int 326 0, Value.int 1 0, Value.int 0 0, Value.int 0 0, Value.int 3 0, Value.ref 460, Value.bool true, Value.int 181 0, Value.ref 461, Value.none, Value.none, Value.none, Value.ref 462, Value.int 828 0, Value.int 326 0, Value.str (Str.ofString "/claim/cut.py") 829]) #[]) ::
(nat_lit 464, Obj.mk (Value.type "function") none (Data.func (FuncData.mk (Str.ofString "small_word") (Str.ofString "small_word") (fnA (fS 62)) (FuncBody.stmts (fnB (fS 62))) (fnS (fS 62)) 3 [] Value.none Value.none Value.none (Value.str (Str.ofString "postkeep.params") 699) none (Value.ref 463) Value.none 0)) #[]) ::
(nat_lit 465, Obj.mk (Value.type "tuple") none (Data.seq #[]) #[]) ::
(nat_lit 467, Obj.mk (Value.type "tuple") none (Data.seq #[Value.str (Str.ofString "cursor") 834, Value.str (Str.ofString "pairs") 835, Value.str (Str.ofString "name") 836]) #[]) ::
(nat_lit 468, Obj.mk (Value.type "tuple") none (Data.seq #[]) #[]) ::
(nat_lit 470, Obj.mk (Value.type "code") none (Data.fields #[Value.str (Str.ofString "take_pairs") 831, Value.str (Str.ofString "take_pairs") 832, Value.str (Str.ofString "/claim/cut.py") 833, Value.int 328 0, Value.int 1 0, Value.int 0 0, Value.int 0 0, Value.int 3 0, Value.ref 465, Value.bool true, Value.int 181 0, Value.ref 466, Value.none, Value.ref 467, Value.ref 468, Value.ref 469, Value.int 837 0, Value.int 328 0, Value.str (Str.ofString "/claim/cut.py") 838]) #[]) ::
(nat_lit 471, Obj.mk (Value.type "function") none (Data.func (FuncData.mk (Str.ofString "take_pairs") (Str.ofString "take_pairs") (fnA (fS 63)) (FuncBody.stmts (fnB (fS 63))) (fnS (fS 63)) 3 [] Value.none Value.none Value.none (Value.str (Str.ofString "postkeep.params") 699) none (Value.ref 470) Value.none 0)) #[]) ::
(nat_lit 472, Obj.mk (Value.type "tuple") none (Data.seq #[]) #[]) ::
(nat_lit 474, Obj.mk (Value.type "tuple") none (Data.seq #[Value.str (Str.ofString "figures") 843, Value.str (Str.ofString "number") 844, Value.str (Str.ofString "sign") 845]) #[]) ::
(nat_lit 475, Obj.mk (Value.type "tuple") none (Data.seq #[]) #[]) ::
(nat_lit 477, Obj.mk (Value.type "code") none (Data.fields #[Value.str (Str.ofString "part_number") 840, Value.str (Str.ofString "part_number") 841, Value.str (Str.ofString "/claim/cut.py") 842, Value.int 344 0, Value.int 1 0, Value.int 0 0, Value.int 0 0, Value.int 3 0, Value.ref 472, Value.bool true, Value.int 181 0, Value.ref 473, Value.none, Value.ref 474, Value.ref 475, Value.ref 476, Value.int 846 0, Value.int 344 0, Value.str (Str.ofString "/claim/cut.py") 847]) #[]) ::
(nat_lit 478, Obj.mk (Value.type "function") none (Data.func (FuncData.mk (Str.ofString "part_number") (Str.ofString "part_number") (fnA (fS 64)) (FuncBody.stmts (fnB (fS 64))) (fnS (fS 64)) 3 [] Value.none Value.none Value.none (Value.str (Str.ofString "postkeep.params") 699) none (Value.ref 477) Value.none 0)) #[]) ::
(nat_lit 479, Obj.mk (Value.type "tuple") none (Data.seq #[]) #[]) ::
(nat_lit 481, Obj.mk (Value.type "tuple") none (Data.seq #[Value.str (Str.ofString "name") 852, Value.str (Str.ofString "spot") 853, Value.str (Str.ofString "is_encoded") 854, Value.str (Str.ofString "number") 855]) #[]) ::
(nat_lit 482, Obj.mk (Value.type "tuple") none (Data.seq #[]) #[]) ::
(nat_lit 484, Obj.mk (Value.type "code") none (Data.fields #[Value.str (Str.ofString "part_of") 849, Value.str (Str.ofString "part_of") 850, Value.str (Str.ofString "/claim/cut.py") 851, Value.int 353 0, Value.int 1 0, Value.int 0 0, Value.int 0 0, Value.int 3 0, Value.ref 479, Value.bool true, Value.int 181 0, Value.ref 480, Value.none, Value.ref 481, Value.ref 482, Value.ref 483, Value.int 856 0, Value.int 353 0, Value.str (Str.ofString "/claim/cut.py") 857]) #[]) ::
(nat_lit 485, Obj.mk (Value.type "function") none (Data.func (FuncData.mk (Str.ofString "part_of") (Str.ofString "part_of") (fnA (fS 65)) (FuncBody.stmts (fnB (fS 65))) (fnS (fS 65)) 3 [] Value.none Value.none Value.none (Value.str (Str.ofString "postkeep.params") 699) none (Value.ref 484) Value.none 0)) #[]) ::
(nat_lit 486, Obj.mk (Value.type "tuple") none (Data.seq #[]) #[]) ::
(nat_lit 489, Obj.mk (Value.type "code") none (Data.fields #[Value.str (Str.ofString "hex_worth") 859, Value.str (Str.ofString "hex_worth") 860, Value.str (Str.ofString "/claim/cut.py") 861, Value.int 362 0, Value.int 1 0, Value.int 0 0, Value.int 0 0, Value.int 3 0, Value.ref 486, Value.bool true, Value.int 181 0, Value.ref 487, Value.none, Value.none, Value.none, Value.ref 488, Value.int 862 0, Value.int 362 0, Value.str (Str.ofString "/claim/cut.py") 863]) #[]) ::
(nat_lit 490, Obj.mk (Value.type "function") none (Data.func (FuncData.mk (Str.ofString "hex_worth") (Str.ofString "hex_worth") (fnA (fS 66)) (FuncBody.stmts (fnB (fS 66))) (fnS (fS 66)) 3 [] Value.none Value.none Value.none (Value.str (Str.ofString "postkeep.params") 699) none (Value.ref 489) Value.none 0)) #[]) ::
(nat_lit 491, Obj.mk (Value.type "tuple") none (Data.seq #[]) #[]) ::
(nat_lit 493, Obj.mk (Value.type "tuple") none (Data.seq #[Value.str (Str.ofString "octets") 868, Value.str (Str.ofString "found") 869, Value.str (Str.ofString "at") 870, Value.str (Str.ofString "worth") 871]) #[]) ::
(nat_lit 494, Obj.mk (Value.type "tuple") none (Data.seq #[]) #[]) ::
(nat_lit 496, Obj.mk (Value.type "code") none (Data.fields #[Value.str (Str.ofString "percent_decoded") 865, Value.str (Str.ofString "percent_decoded") 866, Value.str (Str.ofString "/claim/cut.py") 867, Value.int 367 0, Value.int 1 0, Value.int 0 0, Value.int 0 0, Value.int 3 0, Value.ref 491, Value.bool true, Value.int 181 0, Value.ref 492, Value.none, Value.ref 493, Value.ref 494, Value.ref 495, Value.int 872 0, Value.int 367 0, Value.str (Str.ofString "/claim/cut.py") 873]) #[]) ::
(nat_lit 497, Obj.mk (Value.type "function") none (Data.func (FuncData.mk (Str.ofString "percent_decoded") (Str.ofString "percent_decoded") (fnA (fS 67)) (FuncBody.stmts (fnB (fS 67))) (fnS (fS 67)) 3 [] Value.none Value.none Value.none (Value.str (Str.ofString "postkeep.params") 699) none (Value.ref 496) Value.none 0)) #[]) ::
(nat_lit 498, Obj.mk (Value.type "tuple") none (Data.seq #[]) #[]) ::
(nat_lit 501, Obj.mk (Value.type "code") none (Data.fields #[Value.str (Str.ofString "charset_cut") 875, Value.str (Str.ofString "charset_cut") 876, Value.str (Str.ofString "/claim/cut.py") 877, Value.int 375 0, Value.int 1 0, Value.int 0 0, Value.int 0 0, Value.int 3 0, Value.ref 498, Value.bool true, Value.int 181 0, Value.ref 499, Value.none, Value.none, Value.none, Value.ref 500, Value.int 878 0, Value.int 375 0, Value.str (Str.ofString "/claim/cut.py") 879]) #[]) ::
(nat_lit 502, Obj.mk (Value.type "function") none (Data.func (FuncData.mk (Str.ofString "charset_cut") (Str.ofString "charset_cut") (fnA (fS 68)) (FuncBody.stmts (fnB (fS 68))) (fnS (fS 68)) 3 [] Value.none Value.none Value.none (Value.str (Str.ofString "postkeep.params") 699) none (Value.ref 501) Value.none 0)) #[]) ::
(nat_lit 503, Obj.mk (Value.type "tuple") none (Data.seq #[]) #[]) ::
(nat_lit 505, Obj.mk (Value.type "tuple") none (Data.seq #[Value.str (Str.ofString "parts") 884, Value.str (Str.ofString "charset") 885, Value.str (Str.ofString "octets") 886, Value.str (Str.ofString "number") 887, Value.str (Str.ofString "is_encoded") 888, Value.str (Str.ofString "worth") 889]) #[]) ::
(nat_lit 506, Obj.mk (Value.type "tuple") none (Data.seq #[]) #[]) ::
(nat_lit 508, Obj.mk (Value.type "code") none (Data.fields #[Value.str (Str.ofString "joined_worth") 881, Value.str (Str.ofString "joined_worth") 882, Value.str (Str.ofString "/claim/cut.py") 883, Value.int 380 0, Value.int 1 0, Value.int 0 0, Value.int 0 0, Value.int 3 0, Value.ref 503, Value.bool true, Value.int 181 0, Value.ref 504, Value.none, Value.ref 505, Value.ref 506, Value.ref 507, Value.int 890 0, Value.int 380 0, Value.str (Str.ofString "/claim/cut.py") 891]) #[]) ::
(nat_lit 509, Obj.mk (Value.type "function") none (Data.func (FuncData.mk (Str.ofString "joined_worth") (Str.ofString "joined_worth") (fnA (fS 69)) (FuncBody.stmts (fnB (fS 69))) (fnS (fS 69)) 3 [] Value.none Value.none Value.none (Value.str (Str.ofString "postkeep.params") 699) none (Value.ref 508) Value.none 0)) #[]) ::
(nat_lit 510, Obj.mk (Value.type "tuple") none (Data.seq #[]) #[]) ::
(nat_lit 512, Obj.mk (Value.type "tuple") none (Data.seq #[Value.str (Str.ofString "pairs") 896, Value.str (Str.ofString "plain") 897, Value.str (Str.ofString "parted") 898, Value.str (Str.ofString "name") 899, Value.str (Str.ofString "worth") 900, Value.str (Str.ofString "part") 901, Value.str (Str.ofString "base") 902, Value.str (Str.ofString "number") 903, Value.str (Str.ofString "is_encoded") 904]) #[]) ::
(nat_lit 513, Obj.mk (Value.type "tuple") none (Data.seq #[]) #[]) ::
(nat_lit 515, Obj.mk (Value.type "code") none (Data.fields #[Value.str (Str.ofString "params_of") 893, Value.str (Str.ofString "params_of") 894, Value.str (Str.ofString "/claim/cut.py") 895, Value.int 391 0, Value.int 1 0, Value.int 0 0, Value.int 0 0, Value.int 3 0, Value.ref 510, Value.bool true, Value.int 181 0, Value.ref 511, Value.none, Value.ref 512, Value.ref 513, Value.ref 514, Value.int 905 0, Value.int 391 0, Value.str (Str.ofString "/claim/cut.py") 906]) #[]) ::
(nat_lit 516, Obj.mk (Value.type "function") none (Data.func (FuncData.mk (Str.ofString "params_of") (Str.ofString "params_of") (fnA (fS 70)) (FuncBody.stmts (fnB (fS 70))) (fnS (fS 70)) 3 [] Value.none Value.none Value.none (Value.str (Str.ofString "postkeep.params") 699) none (Value.ref 515) Value.none 0)) #[]) ::
(nat_lit 517, Obj.mk (Value.type "tuple") none (Data.seq #[]) #[]) ::
(nat_lit 519, Obj.mk (Value.type "tuple") none (Data.seq #[Value.str (Str.ofString "octets") 911, Value.str (Str.ofString "cursor") 912, Value.str (Str.ofString "top") 913, Value.str (Str.ofString "sub") 914]) #[]) ::
(nat_lit 520, Obj.mk (Value.type "tuple") none (Data.seq #[]) #[]) ::
(nat_lit 522, Obj.mk (Value.type "code") none (Data.fields #[Value.str (Str.ofString "strict_kind") 908, Value.str (Str.ofString "strict_kind") 909, Value.str (Str.ofString "/claim/cut.py") 910, Value.int 409 0, Value.int 1 0, Value.int 0 0, Value.int 0 0, Value.int 3 0, Value.ref 517, Value.bool true, Value.int 181 0, Value.ref 518, Value.none, Value.ref 519, Value.ref 520, Value.ref 521, Value.int 915 0, Value.int 409 0, Value.str (Str.ofString "/claim/cut.py") 916]) #[]) ::
(nat_lit 523, Obj.mk (Value.type "function") none (Data.func (FuncData.mk (Str.ofString "strict_kind") (Str.ofString "strict_kind") (fnA (fS 71)) (FuncBody.stmts (fnB (fS 71))) (fnS (fS 71)) 3 [] Value.none Value.none Value.none (Value.str (Str.ofString "postkeep.params") 699) none (Value.ref 522) Value.none 0)) #[]) ::
(nat_lit 524, Obj.mk (Value.type "tuple") none (Data.seq #[]) #[]) ::
(nat_lit 526, Obj.mk (Value.type "tuple") none (Data.seq #[Value.str (Str.ofString "octets") 921]) #[]) ::
(nat_lit 527, Obj.mk (Value.type "tuple") none (Data.seq #[]) #[]) ::
(nat_lit 529, Obj.mk (Value.type "code") none (Data.fields #[Value.str (Str.ofString "read_kind") 918, Value.str (Str.ofString "read_kind") 919, Value.str (Str.ofString "/claim/cut.py") 920, Value.int 419 0, Value.int 1 0, Value.int 0 0, Value.int 0 0, Value.int 3 0, Value.ref 524, Value.bool true, Value.int 181 0, Value.ref 525, Value.none, Value.ref 526, Value.ref 527, Value.ref 528, Value.int 922 0, Value.int 419 0, Value.str (Str.ofString "/claim/cut.py") 923]) #[]) ::
(nat_lit 530, Obj.mk (Value.type "function") none (Data.func (FuncData.mk (Str.ofString "read_kind") (Str.ofString "read_kind") (fnA (fS 72)) (FuncBody.stmts (fnB (fS 72))) (fnS (fS 72)) 3 [] Value.none Value.none Value.none (Value.str (Str.ofString "postkeep.params") 699) none (Value.ref 529) Value.none 0)) #[]) ::
(nat_lit 531, Obj.mk (Value.type "tuple") none (Data.seq #[Value.str (Str.ofString "7bit") 931, Value.str (Str.ofString "8bit") 932, Value.str (Str.ofString "binary") 933]) #[]) ::
(nat_lit 539, Obj.mk (Value.type "tuple") none (Data.seq #[]) #[]) ::
(nat_lit 541, Obj.mk (Value.type "tuple") none (Data.seq #[Value.str (Str.ofString "self") 954, Value.str (Str.ofString "begin") 955, Value.str (Str.ofString "body") 956, Value.str (Str.ofString "end") 957, Value.str (Str.ofString "fields") 958, Value.str (Str.ofString "kind") 959]) #[]) ::
(nat_lit 542, Obj.mk (Value.type "tuple") none (Data.seq #[]) #[]) ::
(nat_lit 544, Obj.mk (Value.type "code") none (Data.fields #[Value.str (Str.ofString "__init__") 951, Value.str (Str.ofString "Part.__init__") 952, Value.str (Str.ofString "/claim/cut.py") 953, Value.int 434 0, Value.int 6 0, Value.int 0 0, Value.int 0 0, Value.int 3 0, Value.ref 539, Value.bool true, Value.int 181 0, Value.ref 540, Value.none, Value.ref 541, Value.ref 542, Value.ref 543, Value.int 960 0, Value.int 434 0, Value.str (Str.ofString "/claim/cut.py") 961]) #[]) ::
(nat_lit 545, Obj.mk (Value.type "function") none (Data.func (FuncData.mk (Str.ofString "__init__") (Str.ofString "Part.__init__") (fnA (mS 79 0)) (FuncBody.stmts (fnB (mS 79 0))) (fnS (mS 79 0)) 3 [] Value.none Value.none Value.none (Value.str (Str.ofString "postkeep.parts") 925) none (Value.ref 544) Value.none 0)) #[]) ::
(nat_lit 546, Obj.mk (Value.type "tuple") none (Data.seq #[]) #[]) ::
(nat_lit 548, Obj.mk (Value.type "tuple") none (Data.seq #[Value.str (Str.ofString "self") 966]) #[]) ::
(nat_lit 549, Obj.mk (Value.type "tuple") none (Data.seq #[]) #[]) ::
(nat_lit 551, Obj.mk (Value.type "code") none (Data.fields #[Value.str (Str.ofString "told") 963, Value.str (Str.ofString "Part.told") 964, Value.str (Str.ofString "/claim/cut.py") 965, Value.int 444 0, Value.int 1 0, Value.int 0 0, Value.int 0 0, Value.int 3 0, Value.ref 546, Value.bool true, Value.int 181 0, Value.ref 547, Value.none, Value.ref 548, Value.ref 549, Value.ref 550, Value.int 967 0, Value.int 444 0, Value.str (Str.ofString "/claim/cut.py") 968]) #[]) ::
(nat_lit 552, Obj.mk (Value.type "function") none (Data.func (FuncData.mk (Str.ofString "told") (Str.ofString "Part.told") (fnA (mS 79 1)) (FuncBody.stmts (fnB (mS 79 1))) (fnS (mS 79 1)) 3 [] Value.none Value.none Value.none (Value.str (Str.ofString "postkeep.parts") 925) none (Value.ref 551) Value.none 0)) #[]) ::
(nat_lit 553, Obj.mk (Value.type "tuple") none (Data.seq #[Value.str (Str.ofString "begin") 970, Value.str (Str.ofString "body") 971, Value.str (Str.ofString "encoding") 972, Value.str (Str.ofString "end") 973, Value.str (Str.ofString "fields") 974, Value.str (Str.ofString "inner") 975, Value.str (Str.ofString "kids") 976, Value.str (Str.ofString "kind") 977]) #[]) ::
(nat_lit 554, Obj.mk (Value.type "dict") none (Data.dict #[eD P "__module__" 946 (vS "postkeep.parts" 925), eD P "__firstlineno__" 950 (Value.int 432 949), eD P "__init__" 962 (vR 545), eD P "told" 969 (vR 552), eD P "__static_attributes__" 978 (vR 553), eD P "__dict__" 980 (vR 556), eD P "__weakref__" 982 (vR 557), eD P "__doc__" 983 Value.none] 4) #[]) ::
(nat_lit 555, Obj.mk (Value.type "type") none (Data.cls (ClassData.mk (Str.ofString "Part") [Value.type "object"] [Value.ref 555, Value.type "object"] 554 (Str.ofString "Part") true [] [] false none false)) #[none, none, some (Value.str (Str.ofString "Part") 939), some (Value.str (Str.ofString "Part") 947), some (Value.builtin "object.__new__"), some (Value.bool true)]) ::
(nat_lit 556, Obj.mk (Value.type "getset_descriptor") none (Data.fields #[Value.str (Str.ofString "__dict__") 979, Value.ref 555, Value.builtin "function.__dict__", Value.builtin "function.__dict__#set"]) #[]) ::
(nat_lit 557, Obj.mk (Value.type "getset_descriptor") none (Data.fields #[Value.str (Str.ofString "__weakref__") 981, Value.ref 555, Value.builtin "ExceptionGroup.__weakref__", Value.none]) #[]) ::
(nat_lit 560, Obj.mk (Value.type "tuple") none (Data.seq #[]) #[]) ::
(nat_lit 563, Obj.mk (Value.type "code") none (Data.fields #[Value.str (Str.ofString "encoding_of") 986, Value.str (Str.ofString "encoding_of") 987, Value.str (Str.ofString "/claim/cut.py") 988, Value.int 446 0, Value.int 1 0, Value.int 0 0, Value.int 0 0, Value.int 3 0, Value.ref 560, Value.bool true, Value.int 181 0, Value.ref 561, Value.none, Value.none, Value.none, Value.ref 562, Value.int 989 0, Value.int 446 0, Value.str (Str.ofString "/claim/cut.py") 990]) #[]) ::
(nat_lit 564, Obj.mk (Value.type "function") none (Data.func (FuncData.mk (Str.ofString "encoding_of") (Str.ofString "encoding_of") (fnA (fS 80)) (FuncBody.stmts (fnB (fS 80))) (fnS (fS 80)) 3 [] Value.none Value.none Value.none (Value.str (Str.ofString "postkeep.parts") 925) none (Value.ref 563) Value.none 0)) #[]) ::
(nat_lit 565, Obj.mk (Value.type "tuple") none (Data.seq #[]) #[]) ::
(nat_lit 567, Obj.mk (Value.type "tuple") none (Data.seq #[Value.str (Str.ofString "line") 995, Value.str (Str.ofString "boundary") 996, Value.str (Str.ofString "mark") 997, Value.str (Str.ofString "rest") 998]) #[]) ::
(nat_lit 568, Obj.mk (Value.type "tuple") none (Data.seq #[]) #[]) ::
(nat_lit 570, Obj.mk (Value.type "code") none (Data.fields #[Value.str (Str.ofString "boundary_way") 992, Value.str (Str.ofString "boundary_way") 993, Value.str (Str.ofString "/claim/cut.py") 994, Value.int 455 0, Value.int 2 0, Value.int 0 0, Value.int 0 0, Value.int 3 0, Value.ref 565, Value.bool true, Value.int 181 0, Value.ref 566, Value.none, Value.ref 567, Value.ref 568, Value.ref 569, Value.int 999 0, Value.int 455 0, Value.str (Str.ofString "/claim/cut.py") 1000]) #[]) ::
(nat_lit 571, Obj.mk (Value.type "function") none (Data.func (FuncData.mk (Str.ofString "boundary_way") (Str.ofString "boundary_way") (fnA (fS 81)) (FuncBody.stmts (fnB (fS 81))) (fnS (fS 81)) 3 [] Value.none Value.none Value.none (Value.str (Str.ofString "postkeep.parts") 925) none (Value.ref 570) Value.none 0)) #[]) ::
(nat_lit 572, Obj.mk (Value.type "tuple") none (Data.seq #[]) #[]) ::
(nat_lit 574, Obj.mk (Value.type "tuple") none (Data.seq #[Value.str (Str.ofString "data") 1005, Value.str (Str.ofString "at") 1006, Value.str (Str.ofString "end") 1007, Value.str (Str.ofString "boundary") 1008, Value.str (Str.ofString "found") 1009, Value.str (Str.ofString "begun") 1010, Value.str (Str.ofString "before") 1011, Value.str (Str.ofString "first") 1012, Value.str (Str.ofString "last") 1013, Value.str (Str.ofString "behind") 1014, Value.str (Str.ofString "way") 1015]) #[]) ::
(nat_lit 575, Obj.mk (Value.type "tuple") none (Data.seq #[]) #[]) ::
(nat_lit 577, Obj.mk (Value.type "code") none (Data.fields #[Value.str (Str.ofString "part_spans") 1002, Value.str (Str.ofString "part_spans") 1003, Value.str (Str.ofString "/claim/cut.py") 1004, Value.int 463 0, Value.int 4 0, Value.int 0 0, Value.int 0 0, Value.int 3 0, Value.ref 572, Value.bool true, Value.int 181 0, Value.ref 573, Value.none, Value.ref 574, Value.ref 575, Value.ref 576, Value.int 1016 0, Value.int 463 0, Value.str (Str.ofString "/claim/cut.py") 1017]) #[]) ::
(nat_lit 578, Obj.mk (Value.type "function") none (Data.func (FuncData.mk (Str.ofString "part_spans") (Str.ofString "part_spans") (fnA (fS 82)) (FuncBody.stmts (fnB (fS 82))) (fnS (fS 82)) 3 [] Value.none Value.none Value.none (Value.str (Str.ofString "postkeep.parts") 925) none (Value.ref 577) Value.none 0)) #[]) ::
(nat_lit 579, Obj.mk (Value.type "tuple") none (Data.seq #[]) #[]) ::
(nat_lit 582, Obj.mk (Value.type "code") none (Data.fields #[Value.str (Str.ofString "kid_spans") 1019, Value.str (Str.ofString "kid_spans") 1020, Value.str (Str.ofString "/claim/cut.py") 1021, Value.int 479 0, Value.int 2 0, Value.int 0 0, Value.int 0 0, Value.int 3 0, Value.ref 579, Value.bool true, Value.int 181 0, Value.ref 580, Value.none, Value.none, Value.none, Value.ref 581, Value.int 1022 0, Value.int 479 0, Value.str (Str.ofString "/claim/cut.py") 1023]) #[]) ::
(nat_lit 583, Obj.mk (Value.type "function") none (Data.func (FuncData.mk (Str.ofString "kid_spans") (Str.ofString "kid_spans") (fnA (fS 83)) (FuncBody.stmts (fnB (fS 83))) (fnS (fS 83)) 3 [] Value.none Value.none Value.none (Value.str (Str.ofString "postkeep.parts") 925) none (Value.ref 582) Value.none 0)) #[]) ::
(nat_lit 584, Obj.mk (Value.type "tuple") none (Data.seq #[]) #[]) ::
(nat_lit 586, Obj.mk (Value.type "tuple") none (Data.seq #[Value.str (Str.ofString "part") 1028]) #[]) ::
(nat_lit 587, Obj.mk (Value.type "tuple") none (Data.seq #[]) #[]) ::
(nat_lit 589, Obj.mk (Value.type "code") none (Data.fields #[Value.str (Str.ofString "has_inner") 1025, Value.str (Str.ofString "has_inner") 1026, Value.str (Str.ofString "/claim/cut.py") 1027, Value.int 486 0, Value.int 1 0, Value.int 0 0, Value.int 0 0, Value.int 3 0, Value.ref 584, Value.bool true, Value.int 181 0, Value.ref 585, Value.none, Value.ref 586, Value.ref 587, Value.ref 588, Value.int 1029 0, Value.int 486 0, Value.str (Str.ofString "/claim/cut.py") 1030]) #[]) ::
(nat_lit 590, Obj.mk (Value.type "function") none (Data.func (FuncData.mk (Str.ofString "has_inner") (Str.ofString "has_inner") (fnA (fS 84)) (FuncBody.stmts (fnB (fS 84))) (fnS (fS 84)) 3 [] Value.none Value.none Value.none (Value.str (Str.ofString "postkeep.parts") 925) none (Value.ref 589) Value.none 0)) #[]) ::
(nat_lit 591, Obj.mk (Value.type "tuple") none (Data.seq #[]) #[]) ::
(nat_lit 594, Obj.mk (Value.type "code") none (Data.fields #[Value.str (Str.ofString "read_part") 1032, Value.str (Str.ofString "read_part") 1033, Value.str (Str.ofString "/claim/cut.py") 1034, Value.int 488 0, Value.int 5 0, Value.int 0 0, Value.int 0 0, Value.int 3 0, Value.ref 591, Value.bool true, Value.int 181 0, Value.ref 592, Value.none, Value.none, Value.none, Value.ref 593, Value.int 1035 0, Value.int 488 0, Value.str (Str.ofString "/claim/cut.py") 1036]) #[]) ::
(nat_lit 595, Obj.mk (Value.type "function") none (Data.func (FuncData.mk (Str.ofString "read_part") (Str.ofString "read_part") (fnA (fS 85)) (FuncBody.stmts (fnB (fS 85))) (fnS (fS 85)) 3 [] Value.none Value.none Value.none (Value.str (Str.ofString "postkeep.parts") 925) none (Value.ref 594) Value.none 0)) #[]) ::
(nat_lit 596, Obj.mk (Value.type "tuple") none (Data.seq #[]) #[]) ::
(nat_lit 598, Obj.mk (Value.type "tuple") none (Data.seq #[Value.str (Str.ofString "data") 1041]) #[]) ::
(nat_lit 599, Obj.mk (Value.type "tuple") none (Data.seq #[]) #[]) ::
(nat_lit 601, Obj.mk (Value.type "code") none (Data.fields #[Value.str (Str.ofString "read_message") 1038, Value.str (Str.ofString "read_message") 1039, Value.str (Str.ofString "/claim/cut.py") 1040, Value.int 499 0, Value.int 1 0, Value.int 0 0, Value.int 0 0, Value.int 3 0, Value.ref 596, Value.bool true, Value.int 181 0, Value.ref 597, Value.none, Value.ref 598, Value.ref 599, Value.ref 600, Value.int 1042 0, Value.int 499 0, Value.str (Str.ofString "/claim/cut.py") 1043]) #[]) ::
(nat_lit 602, Obj.mk (Value.type "function") none (Data.func (FuncData.mk (Str.ofString "read_message") (Str.ofString "read_message") (fnA (fS 86)) (FuncBody.stmts (fnB (fS 86))) (fnS (fS 86)) 3 [] Value.none Value.none Value.none (Value.str (Str.ofString "postkeep.parts") 925) none (Value.ref 601) Value.none 0)) #[]) ::
(nat_lit 603, Obj.mk (Value.type "tuple") none (Data.seq #[]) #[]) ::
(nat_lit 605, Obj.mk (Value.type "tuple") none (Data.seq #[Value.str (Str.ofString "part") 1048, Value.str (Str.ofString "is_letter") 1049]) #[]) ::
(nat_lit 606, Obj.mk (Value.type "tuple") none (Data.seq #[]) #[]) ::
(nat_lit 608, Obj.mk (Value.type "code") none (Data.fields #[Value.str (Str.ofString "numbered_kids") 1045, Value.str (Str.ofString "numbered_kids") 1046, Value.str (Str.ofString "/claim/cut.py") 1047, Value.int 501 0, Value.int 2 0, Value.int 0 0, Value.int 0 0, Value.int 3 0, Value.ref 603, Value.bool true, Value.int 181 0, Value.ref 604, Value.none, Value.ref 605, Value.ref 606, Value.ref 607, Value.int 1050 0, Value.int 501 0, Value.str (Str.ofString "/claim/cut.py") 1051]) #[]) ::
(nat_lit 609, Obj.mk (Value.type "function") none (Data.func (FuncData.mk (Str.ofString "numbered_kids") (Str.ofString "numbered_kids") (fnA (fS 87)) (FuncBody.stmts (fnB (fS 87))) (fnS (fS 87)) 3 [] Value.none Value.none Value.none (Value.str (Str.ofString "postkeep.parts") 925) none (Value.ref 608) Value.none 0)) #[]) ::
(nat_lit 610, Obj.mk (Value.type "tuple") none (Data.seq #[]) #[]) ::
(nat_lit 612, Obj.mk (Value.type "tuple") none (Data.seq #[Value.str (Str.ofString "part") 1056, Value.str (Str.ofString "path") 1057, Value.str (Str.ofString "here") 1058, Value.str (Str.ofString "is_letter") 1059, Value.str (Str.ofString "number") 1060, Value.str (Str.ofString "row") 1061]) #[]) ::
(nat_lit 613, Obj.mk (Value.type "tuple") none (Data.seq #[]) #[]) ::
(nat_lit 615, Obj.mk (Value.type "code") none (Data.fields #[Value.str (Str.ofString "part_at") 1053, Value.str (Str.ofString "part_at") 1054, Value.str (Str.ofString "/claim/cut.py") 1055, Value.int 507 0, Value.int 2 0, Value.int 0 0, Value.int 0 0, Value.int 3 0, Value.ref 610, Value.bool true, Value.int 181 0, Value.ref 611, Value.none, Value.ref 612, Value.ref 613, Value.ref 614, Value.int 1062 0, Value.int 507 0, Value.str (Str.ofString "/claim/cut.py") 1063]) #[]) ::
(nat_lit 616, Obj.mk (Value.type "function") none (Data.func (FuncData.mk (Str.ofString "part_at") (Str.ofString "part_at") (fnA (fS 88)) (FuncBody.stmts (fnB (fS 88))) (fnS (fS 88)) 3 [] Value.none Value.none Value.none (Value.str (Str.ofString "postkeep.parts") 925) none (Value.ref 615) Value.none 0)) #[]) ::
(nat_lit 617, Obj.mk (Value.type "tuple") none (Data.seq #[Value.str (Str.ofString "HEADER.FIELDS") 1067, Value.str (Str.ofString "HEADER.FIELDS.NOT") 1068]) #[]) ::
(nat_lit 625, Obj.mk (Value.type "tuple") none (Data.seq #[]) #[]) ::
(nat_lit 626, Obj.mk (Value.type "tuple") none (Data.seq #[Value.str (Str.ofString "") 1082, Value.ref 625, Value.none]) #[]) ::
(nat_lit 627, Obj.mk (Value.type "tuple") none (Data.seq #[]) #[]) ::
(nat_lit 629, Obj.mk (Value.type "tuple") none (Data.seq #[Value.str (Str.ofString "self") 1086, Value.str (Str.ofString "path") 1087, Value.str (Str.ofString "word") 1088, Value.str (Str.ofString "names") 1089, Value.str (Str.ofString "partial") 1090]) #[]) ::
(nat_lit 630, Obj.mk (Value.type "tuple") none (Data.seq #[]) #[]) ::
(nat_lit 632, Obj.mk (Value.type "code") none (Data.fields #[Value.str (Str.ofString "__init__") 1083, Value.str (Str.ofString "Section.__init__") 1084, Value.str (Str.ofString "/claim/cut.py") 1085, Value.int 521 0, Value.int 5 0, Value.int 0 0, Value.int 0 0, Value.int 3 0, Value.ref 627, Value.bool true, Value.int 181 0, Value.ref 628, Value.none, Value.ref 629, Value.ref 630, Value.ref 631, Value.int 1091 0, Value.int 521 0, Value.str (Str.ofString "/claim/cut.py") 1092]) #[]) ::
(nat_lit 633, Obj.mk (Value.type "function") none (Data.func (FuncData.mk (Str.ofString "__init__") (Str.ofString "Section.__init__") (fnA (mS 91 0)) (FuncBody.stmts (fnB (mS 91 0))) (fnS (mS 91 0)) 3 [] (Value.ref 626) Value.none Value.none (Value.str (Str.ofString "postkeep.sections") 1065) none (Value.ref 632) Value.none 0)) #[]) ::
(nat_lit 634, Obj.mk (Value.type "tuple") none (Data.seq #[]) #[]) ::
(nat_lit 636, Obj.mk (Value.type "tuple") none (Data.seq #[Value.str (Str.ofString "self") 1097]) #[]) ::
(nat_lit 637, Obj.mk (Value.type "tuple") none (Data.seq #[]) #[]) ::
(nat_lit 639, Obj.mk (Value.type "code") none (Data.fields #[Value.str (Str.ofString "told") 1094, Value.str (Str.ofString "Section.told") 1095, Value.str (Str.ofString "/claim/cut.py") 1096, Value.int 527 0, Value.int 1 0, Value.int 0 0, Value.int 0 0, Value.int 3 0, Value.ref 634, Value.bool true, Value.int 181 0, Value.ref 635, Value.none, Value.ref 636, Value.ref 637, Value.ref 638, Value.int 1098 0, Value.int 527 0, Value.str (Str.ofString "/claim/cut.py") 1099]) #[]) ::
(nat_lit 640, Obj.mk (Value.type "function") none (Data.func (FuncData.mk (Str.ofString "told") (Str.ofString "Section.told") (fnA (mS 91 1)) (FuncBody.stmts (fnB (mS 91 1))) (fnS (mS 91 1)) 3 [] Value.none Value.none Value.none (Value.str (Str.ofString "postkeep.sections") 1065) none (Value.ref 639) Value.none 0)) #[]) ::
(nat_lit 641, Obj.mk (Value.type "tuple") none (Data.seq #[Value.str (Str.ofString "names") 1101, Value.str (Str.ofString "partial") 1102, Value.str (Str.ofString "path") 1103, Value.str (Str.ofString "word") 1104]) #[]) ::
(nat_lit 642, Obj.mk (Value.type "dict") none (Data.dict #[eD P "__module__" 1077 (vS "postkeep.sections" 1065), eD P "__firstlineno__" 1081 (Value.int 519 1080), eD P "__init__" 1093 (vR 633), eD P "told" 1100 (vR 640), eD P "__static_attributes__" 1105 (vR 641), eD P "__dict__" 1107 (vR 644), eD P "__weakref__" 1109 (vR 645), eD P "__doc__" 1110 Value.none] 4) #[]) ::
(nat_lit 643, Obj.mk (Value.type "type") none (Data.cls (ClassData.mk (Str.ofString "Section") [Value.type "object"] [Value.ref 643, Value.type "object"] 642 (Str.ofString "Section") true [] [] false none false)) #[none, none, some (Value.str (Str.ofString "Section") 1070), some (Value.str (Str.ofString "Section") 1078), some (Value.builtin "object.__new__"), some (Value.bool true)]) ::
(nat_lit 644, Obj.mk (Value.type "getset_descriptor") none (Data.fields #[Value.str (Str.ofString "__dict__") 1106, Value.ref 643, Value.builtin "function.__dict__", Value.builtin "function.__dict__#set"]) #[]) ::
(nat_lit 645, Obj.mk (Value.type "getset_descriptor") none (Data.fields #[Value.str (Str.ofString "__weakref__") 1108, Value.ref 643, Value.builtin "ExceptionGroup.__weakref__", Value.none]) #[]) ::
(nat_lit 648, Obj.mk (Value.type "tuple") none (Data.seq #[]) #[]) ::
(nat_lit 651, Obj.mk (Value.type "code") none (Data.fields #[Value.str (Str.ofString "header_octets") 1113, Value.str (Str.ofString "header_octets") 1114, Value.str (Str.ofString "/claim/cut.py") 1115, Value.int 529 0, Value.int 4 0, Value.int 0 0, Value.int 0 0, Value.int 3 0, Value.ref 648, Value.bool true, Value.int 181 0, Value.ref 649, Value.none, Value.none, Value.none, Value.ref 650, Value.int 1116 0, Value.int 529 0, Value.str (Str.ofString "/claim/cut.py") 1117]) #[]) ::
(nat_lit 652, Obj.mk (Value.type "function") none (Data.func (FuncData.mk (Str.ofString "header_octets") (Str.ofString "header_octets") (fnA (fS 92)) (FuncBody.stmts (fnB (fS 92))) (fnS (fS 92)) 3 [] Value.none Value.none Value.none (Value.str (Str.ofString "postkeep.sections") 1065) none (Value.ref 651) Value.none 0)) #[]) ::
(nat_lit 653, Obj.mk (Value.type "tuple") none (Data.seq #[]) #[]) ::
(nat_lit 655, Obj.mk (Value.type "tuple") none (Data.seq #[Value.str (Str.ofString "data") 1122, Value.str (Str.ofString "part") 1123, Value.str (Str.ofString "section") 1124]) #[]) ::
(nat_lit 656, Obj.mk (Value.type "tuple") none (Data.seq #[]) #[]) ::
(nat_lit 658, Obj.mk (Value.type "code") none (Data.fields #[Value.str (Str.ofString "word_octets") 1119, Value.str (Str.ofString "word_octets") 1120, Value.str (Str.ofString "/claim/cut.py") 1121, Value.int 535 0, Value.int 3 0, Value.int 0 0, Value.int 0 0, Value.int 3 0, Value.ref 653, Value.bool true, Value.int 181 0, Value.ref 654, Value.none, Value.ref 655, Value.ref 656, Value.ref 657, Value.int 1125 0, Value.int 535 0, Value.str (Str.ofString "/claim/cut.py") 1126]) #[]) ::
(nat_lit 659, Obj.mk (Value.type "function") none (Data.func (FuncData.mk (Str.ofString "word_octets") (Str.ofString "word_octets") (fnA (fS 93)) (FuncBody.stmts (fnB (fS 93))) (fnS (fS 93)) 3 [] Value.none Value.none Value.none (Value.str (Str.ofString "postkeep.sections") 1065) none (Value.ref 658) Value.none 0)) #[]) ::
(nat_lit 660, Obj.mk (Value.type "tuple") none (Data.seq #[]) #[]) ::
(nat_lit 662, Obj.mk (Value.type "tuple") none (Data.seq #[Value.str (Str.ofString "data") 1131, Value.str (Str.ofString "part") 1132, Value.str (Str.ofString "section") 1133, Value.str (Str.ofString "find") 1134, Value.str (Str.ofString "here") 1135]) #[]) ::
(nat_lit 663, Obj.mk (Value.type "tuple") none (Data.seq #[]) #[]) ::
(nat_lit 665, Obj.mk (Value.type "code") none (Data.fields #[Value.str (Str.ofString "whole_octets") 1128, Value.str (Str.ofString "whole_octets") 1129, Value.str (Str.ofString "/claim/cut.py") 1130, Value.int 543 0, Value.int 4 0, Value.int 0 0, Value.int 0 0, Value.int 3 0, Value.ref 660, Value.bool true, Value.int 181 0, Value.ref 661, Value.none, Value.ref 662, Value.ref 663, Value.ref 664, Value.int 1136 0, Value.int 543 0, Value.str (Str.ofString "/claim/cut.py") 1137]) #[]) ::
(nat_lit 666, Obj.mk (Value.type "function") none (Data.func (FuncData.mk (Str.ofString "whole_octets") (Str.ofString "whole_octets") (fnA (fS 94)) (FuncBody.stmts (fnB (fS 94))) (fnS (fS 94)) 3 [] Value.none Value.none Value.none (Value.str (Str.ofString "postkeep.sections") 1065) none (Value.ref 665) Value.none 0)) #[]) ::
(nat_lit 667, Obj.mk (Value.type "tuple") none (Data.seq #[]) #[]) ::
(nat_lit 669, Obj.mk (Value.type "tuple") none (Data.seq #[Value.str (Str.ofString "octets") 1142, Value.str (Str.ofString "partial") 1143]) #[]) ::
(nat_lit 670, Obj.mk (Value.type "tuple") none (Data.seq #[]) #[]) ::
(nat_lit 672, Obj.mk (Value.type "code") none (Data.fields #[Value.str (Str.ofString "sliced") 1139, Value.str (Str.ofString "sliced") 1140, Value.str (Str.ofString "/claim/cut.py") 1141, Value.int 554 0, Value.int 2 0, Value.int 0 0, Value.int 0 0, Value.int 3 0, Value.ref 667, Value.bool true, Value.int 181 0, Value.ref 668, Value.none, Value.ref 669, Value.ref 670, Value.ref 671, Value.int 1144 0, Value.int 554 0, Value.str (Str.ofString "/claim/cut.py") 1145]) #[]) ::
(nat_lit 673, Obj.mk (Value.type "function") none (Data.func (FuncData.mk (Str.ofString "sliced") (Str.ofString "sliced") (fnA (fS 95)) (FuncBody.stmts (fnB (fS 95))) (fnS (fS 95)) 3 [] Value.none Value.none Value.none (Value.str (Str.ofString "postkeep.sections") 1065) none (Value.ref 672) Value.none 0)) #[]) ::
(nat_lit 674, Obj.mk (Value.type "tuple") none (Data.seq #[]) #[]) ::
(nat_lit 676, Obj.mk (Value.type "tuple") none (Data.seq #[Value.str (Str.ofString "data") 1150, Value.str (Str.ofString "part") 1151, Value.str (Str.ofString "section") 1152]) #[]) ::
(nat_lit 677, Obj.mk (Value.type "tuple") none (Data.seq #[]) #[]) ::
(nat_lit 679, Obj.mk (Value.type "code") none (Data.fields #[Value.str (Str.ofString "section_octets") 1147, Value.str (Str.ofString "section_octets") 1148, Value.str (Str.ofString "/claim/cut.py") 1149, Value.int 558 0, Value.int 3 0, Value.int 0 0, Value.int 0 0, Value.int 3 0, Value.ref 674, Value.bool true, Value.int 181 0, Value.ref 675, Value.none, Value.ref 676, Value.ref 677, Value.ref 678, Value.int 1153 0, Value.int 558 0, Value.str (Str.ofString "/claim/cut.py") 1154]) #[]) ::
(nat_lit 680, Obj.mk (Value.type "function") none (Data.func (FuncData.mk (Str.ofString "section_octets") (Str.ofString "section_octets") (fnA (fS 96)) (FuncBody.stmts (fnB (fS 96))) (fnS (fS 96)) 3 [] Value.none Value.none Value.none (Value.str (Str.ofString "postkeep.sections") 1065) none (Value.ref 679) Value.none 0)) #[]) ::
(nat_lit 681, Obj.mk (Value.type "tuple") none (Data.seq #[Value.bytes #[84, 111] 1158, Value.bytes #[116, 79] 1159, Value.bytes #[70, 114, 111, 109] 1160, Value.bytes #[88, 45, 97] 1161, Value.bytes #[83, 117, 98, 106, 101, 99, 116] 1162]) #[]) ::
(nat_lit 682, Obj.mk (Value.type "tuple") none (Data.seq #[Value.bytes #[13, 10] 1164, Value.bytes #[10] 1165]) #[]) ::
(nat_lit 683, Obj.mk (Value.type "tuple") none (Data.seq #[]) #[]) ::
(nat_lit 685, Obj.mk (Value.type "tuple") none (Data.seq #[Value.str (Str.ofString "tape") 1170, Value.str (Str.ofString "many") 1171, Value.str (Str.ofString "cells") 1172, Value.str (Str.ofString "at") 1173]) #[]) ::
(nat_lit 686, Obj.mk (Value.type "tuple") none (Data.seq #[]) #[]) ::
(nat_lit 688, Obj.mk (Value.type "code") none (Data.fields #[Value.str (Str.ofString "_law_draw") 1167, Value.str (Str.ofString "_law_draw") 1168, Value.str (Str.ofString "/claim/cut.py") 1169, Value.int 563 0, Value.int 2 0, Value.int 0 0, Value.int 0 0, Value.int 3 0, Value.ref 683, Value.bool true, Value.int 181 0, Value.ref 684, Value.none, Value.ref 685, Value.ref 686, Value.ref 687, Value.int 1174 0, Value.int 563 0, Value.str (Str.ofString "/claim/cut.py") 1175]) #[]) ::
(nat_lit 689, Obj.mk (Value.type "function") none (Data.func (FuncData.mk (Str.ofString "_law_draw") (Str.ofString "_law_draw") (fnA (fS 100)) (FuncBody.stmts (fnB (fS 100))) (fnS (fS 100)) 3 [] Value.none Value.none Value.none (Value.str (Str.ofString "law_no0392_01") 1156) none (Value.ref 688) Value.none 0)) #[]) ::
(nat_lit 690, Obj.mk (Value.type "tuple") none (Data.seq #[]) #[]) ::
(nat_lit 692, Obj.mk (Value.type "tuple") none (Data.seq #[Value.str (Str.ofString "tape") 1180, Value.str (Str.ofString "name") 1181, Value.str (Str.ofString "octets") 1182, Value.str (Str.ofString "turn") 1183]) #[]) ::
(nat_lit 693, Obj.mk (Value.type "tuple") none (Data.seq #[]) #[]) ::
(nat_lit 695, Obj.mk (Value.type "code") none (Data.fields #[Value.str (Str.ofString "_law_field") 1177, Value.str (Str.ofString "_law_field") 1178, Value.str (Str.ofString "/claim/cut.py") 1179, Value.int 567 0, Value.int 1 0, Value.int 0 0, Value.int 0 0, Value.int 3 0, Value.ref 690, Value.bool true, Value.int 181 0, Value.ref 691, Value.none, Value.ref 692, Value.ref 693, Value.ref 694, Value.int 1184 0, Value.int 567 0, Value.str (Str.ofString "/claim/cut.py") 1185]) #[]) ::
(nat_lit 696, Obj.mk (Value.type "function") none (Data.func (FuncData.mk (Str.ofString "_law_field") (Str.ofString "_law_field") (fnA (fS 101)) (FuncBody.stmts (fnB (fS 101))) (fnS (fS 101)) 3 [] Value.none Value.none Value.none (Value.str (Str.ofString "law_no0392_01") 1156) none (Value.ref 695) Value.none 0)) #[]) ::
(nat_lit 697, Obj.mk (Value.type "tuple") none (Data.seq #[]) #[]) ::
(nat_lit 700, Obj.mk (Value.type "code") none (Data.fields #[Value.str (Str.ofString "law") 1187, Value.str (Str.ofString "law") 1188, Value.str (Str.ofString "/claim/cut.py") 1189, Value.int 573 0, Value.int 1 0, Value.int 0 0, Value.int 0 0, Value.int 3 0, Value.ref 697, Value.bool true, Value.int 181 0, Value.ref 698, Value.none, Value.none, Value.none, Value.ref 699, Value.int 1190 0, Value.int 573 0, Value.str (Str.ofString "/claim/cut.py") 1191]) #[]) ::
(nat_lit 701, Obj.mk (Value.type "function") none (Data.func (FuncData.mk (Str.ofString "law") (Str.ofString "law") (fnA (fS 102)) (FuncBody.stmts (fnB (fS 102))) (fnS (fS 102)) 3 [] Value.none Value.none Value.none (Value.str (Str.ofString "law_no0392_01") 1156) none (Value.ref 700) Value.none 0)) #[]) :: []
end Mine
theorem Mine.fill_it : PySem.Challenge.rw_no0392_01 = PySem.Challenge.rw_no0392_01 ∧ Mine.K0 = Mine.K0 := by
  k_fill
  exact ⟨rfl, rfl⟩
namespace Mine
section
open Builtin
/-- the first place of the octet c in xs from i up to j -/
noncomputable def findAt (xs : List UInt8) (c : UInt8) (i j : Nat) : Option Nat := (((xs.take j).drop i).findIdx? (· == c)).map (· + i)
noncomputable def findZ (xs : List UInt8) (c : UInt8) (i j : Nat) : Int := match findAt xs c i j with | some k => (k : Int) | none => -1

theorem slot_find : Slot "bytes" "find" "bytes.find" :=
  .of (owner := "bytes") (n := "find") (by rw [typeLookup_type, builtinLookup_eq_fast]; kernel_rfl) (by decide +kernel) (by decide +kernel) (by decide +kernel)
    (by first | exact .inl (by decide +kernel) | exact .inr (by decide +kernel)) (by rw [isSubtype_type]; kernel_rfl)
theorem type_find : typeOf (.builtin "bytes.find") = pure (.type "method_descriptor") := by show builtinType _ = _; rw [builtinType_eq_fast]; kernel_rfl
theorem entry_find : entryFor table "bytes.find" = some Builtin.«bytes.find» := entryFor_of_tree (by kernel_rfl)
theorem args_find (a b c d : Value) : argsOk "bytes.find" ⟨[a, b, c, d], []⟩ := by
  unfold argsOk; rw [signature?_of (id := "bytes.find") (n := ['d', 'n', 'i', 'f']) (o := ['s', 'e', 't', 'y', 'b']) (by kernel_rfl) FB.owner_bytes]; kernel_rfl

theorem range_find (f : Nat → Bool) : ∀ (k n : Nat), (((List.range n).map (· + k)).find? f) = ((List.range n).find? fun m => f (m + k)).map (· + k) := by
  intro k n
  rw [List.find?_map]
  rfl

theorem extract_one (b : Array UInt8) (c : UInt8) (i : Nat) (h : i < b.size) : (b.extract i (i + 1) == #[c]) = (b[i] == c) := by
  have : b.extract i (i + 1) = #[b[i]] := by
    apply Array.ext
    · simp; omega
    · intro j h1 h2
      have : j = 0 := by simp at h2; omega
      subst this
      simp
  rw [this]
  rw [Bool.eq_iff_iff]
  simp

theorem find_range_list (l : List UInt8) (c : UInt8) : ∀ (p : Nat → Bool), (∀ (i : Nat) (h : i < l.length), p i = (l[i] == c)) → (List.range l.length).find? p = l.findIdx? (· == c) := by
  induction l with
  | nil => intro p _; rfl
  | cons x r ih =>
    intro p hp
    rw [List.length_cons, List.range_succ_eq_map, List.find?_cons, List.findIdx?_cons]
    have h0 := hp 0 (by simp)
    simp only [List.getElem_cons_zero] at h0
    rw [h0]
    cases hx : (x == c) with
    | true => rfl
    | false =>
      simp only [Bool.false_eq_true, if_false]
      rw [List.find?_map]
      rw [← ih (fun i => p (i + 1)) (fun i h => by rw [hp (i + 1) (by simpa using h)]; simp)]
      rfl

theorem find_eq (b : Array UInt8) (c : UInt8) (i j : Nat) (hj : j ≤ b.size) : Bytes.find? b #[c] i j = findAt b.toList c i j := by
  unfold Bytes.find? findAt
  rw [range_find]
  have hl : (((b.toList.take j).drop i)).length = j + 1 - (i + #[c].size) := by
    simp; omega
  rw [← hl]
  rw [find_range_list ((b.toList.take j).drop i) c]
  intro k hk
  have hk' : k < j - i := by simp at hk; omega
  show (b.extract (k + i) (k + i + 1) == #[c]) = _
  rw [extract_one b c (k + i) (by omega)]
  simp [Nat.add_comm]

theorem bound_int (i : Int) (t : Tok) : Bytes.bound? (some (.int i t)) = pure (some i) := by
  unfold Bytes.bound?
  have e : specialOf (.int i t) "__index__" = pure (some (.builtin "int.__index__")) := F.slot_int_index.lookup
  simp only [e]
  rfl

theorem gives_find {b : Array UInt8} {c : UInt8} {i j : Int} {t u v x : Tok} (h0 : 0 ≤ i) (h1 : 0 ≤ j) (h2 : j ≤ b.size) :
    Gives («bytes.find» ⟨[.bytes b t, .bytes #[c] u, .int i v, .int j x], []⟩) (.int (findZ b.toList c i.toNat j.toNat)) := by
  refine .of_wp fun M A E s Q hq => ?_
  show wpAny M A ((Bytes.bound? (some (.int i v)) >>= fun r => _) >>= fun r => _) _ E s
  refine wpAny_bind (wpAny_bind (wpAny_of_eq (bound_int i v) ?_))
  show wpAny M A (Bytes.bound? (some (.int j x)) >>= fun r => _) _ E s
  refine wpAny_bind (wpAny_of_eq (bound_int j x) ?_)
  show wpAny M A (Bytes.buffer? "bytes.find" (.bytes #[c] u) >>= fun r => _) _ E s
  refine wpAny_bind (wpAny_of_eq KBy.buffer_eq ?_)
  show wpAny M A (Bytes.payload (.bytes b t) >>= fun r => _) _ E s
  refine wpAny_bind (wpAny_of_eq (a := b) rfl ?_)
  refine wpAny_pure ?_
  have hm : min (b.size : Int) j = j := by omega
  simp only [Option.getD_some, if_neg (show ¬ i < 0 by omega), if_neg (show ¬ j < 0 by omega), hm]
  by_cases hlt : j - i < ((#[c] : Array UInt8).size : Int)
  · rw [if_pos hlt]
    have hn : findZ b.toList c i.toNat j.toNat = -1 := by
      have hz : (b.toList.take j.toNat).drop i.toNat = [] := by
        apply List.drop_eq_nil_of_le
        simp at hlt ⊢
        omega
      unfold findZ findAt
      rw [hz]
      rfl
    rw [hn] at hq
    show wpAny M A (rule _ >>= fun _ => _) _ E s
    refine wpAny_bind (wpAny_rule ?_)
    show wpAny M A (retInt (-1)) _ E s
    exact wpAny_bind (wpAny_mkInt (wpAny_pure ⟨_, rfl, hq⟩))
  · rw [if_neg hlt]
    dsimp only [Option.bind]
    simp only [Bool.false_eq_true, if_false]
    rw [find_eq b c _ _ (by omega)]
    unfold findZ at hq
    revert hq
    cases hf : findAt b.toList c i.toNat j.toNat with
    | some k =>
      intro hq
      show wpAny M A (retInt k) _ E s
      exact wpAny_bind (wpAny_mkInt (wpAny_pure ⟨_, rfl, hq⟩))
    | none =>
      intro hq
      show wpAny M A (rule _ >>= fun _ => _) _ E s
      refine wpAny_bind (wpAny_rule ?_)
      show wpAny M A (retInt (-1)) _ E s
      exact wpAny_bind (wpAny_mkInt (wpAny_pure ⟨_, rfl, hq⟩))

section
variable {prog : Program} {w : World} {A : Around} {E : Value → Shared → Prop} {s : Shared} {Q : Value → Shared → Prop}
theorem find_K {xs : List UInt8} {c : UInt8} {i j : Int} {t u v x : Tok} (h0 : 0 ≤ i) (h1 : 0 ≤ j) (h2 : j ≤ (xs.length : Int))
    (hq : ∀ t' k, Q (.int (findZ xs c i.toNat j.toNat) t') { s with toks := k }) :
    wpAny (model prog w) A (call (.builtin "bytes.find") [.bytes xs.toArray t, .bytes [c].toArray u, .int i v, .int j x]) Q E s :=
  call_gives slot_find (typeIs_bytes _ _ _) entry_find (args_find _ _ _ _) (gives_find h0 h1 (by simpa using h2)) (hq _ _)
theorem meth_find {M : Model} {b : Array UInt8} {t : Tok} {pl : Sem Bool} {Q : Value × List Value → Shared → Prop} (h : Q (.builtin "bytes.find", [.bytes b t]) s) : wpAny M A (getMethod (.bytes b t) "find" pl) Q E s := by
  with_reducible exact KBd.method_of (.bytes b t) (typeIs_bytes _ _ _) slot_find type_find KBd.noRef h
end

end
section
open KBw
section
variable {prog : Program} {w : World} {A : Around} {E : Value → Shared → Prop} {s : Shared} {env : Env} {h₀ : Heap} {x : PySem.Str} {body : List Stmt} {Q : Flow → Shared → Prop} {tb : Tok}
  {m₀ : PySem.Str → Option Value} {news : List (Addr × Obj)}
/-- a search over bytes: what is so of each octet that the loop went past -/
theorem bytes_search {xs : List UInt8} (P : UInt8 → Prop)
    (hh : A.handled = none) (F : Fr h₀ env.locals s.heap m₀) (N : News h₀ env.locals s.heap news)
    (turn : ∀ c t h tk own, c ∈ xs → OwnOff own (news.map (·.1)) → Fr h₀ env.locals h (fun y => if y = x then some (.int ((c.toNat : Nat) : Int) t) else m₀ y) → News h₀ env.locals h (news ++ own) →
      wpAny (model prog w) A (execs body env) (InvPostN h₀ env.locals (fun m' nx => nx = news ∧ (∀ z, z ≠ x → m' z = m₀ z) ∧ P c) own (news.map (·.1)) { s with heap := h, toks := tk } Q) E { s with heap := h, toks := tk })
    (done : ∀ (u : PySem.Str → Option Value) h tk, (∀ c ∈ xs, P c) → Fr h₀ env.locals h (fun z => if z = x then u z else m₀ z) → News h₀ env.locals h news → Q .next { s with heap := h, toks := tk }) :
    wpAny (model prog w) A (pyIter (.bytes xs.toArray tb)) (fun it s₂ => LoopAtV prog w A h₀ env x body Q E it s₂) E s := by
  refine KBmo.iter_bytesN (ks := xs.map fun c => ((c.toNat : Nat) : Int)) (fun i m nx => nx = news ∧ (∀ z, z ≠ x → m z = m₀ z) ∧ ∀ c ∈ xs.take i, P c) (ints_list xs) hh F N ⟨rfl, fun _ _ => rfl, by simp⟩ ?_ ?_
  · rintro i k t m₁ nx h tk own hk _ _ hoff ⟨rfl, hm, hP⟩ F₁ N₁
    rw [map_none hm] at F₁
    rw [List.getElem?_map, Option.map_eq_some_iff] at hk
    obtain ⟨c, hc, rfl⟩ := hk
    refine wpAny_mono (turn c t h tk own (List.mem_of_getElem? hc) hoff F₁ N₁) (fun f s₂ q => ?_) fun _ _ e => e
    have fin : InvEndN h₀ env.locals (fun m' nx' => nx' = nx ∧ (∀ z, z ≠ x → m' z = m₀ z) ∧ P c) own (nx.map (·.1)) { s with heap := h, toks := tk } s₂ →
        InvEndN h₀ env.locals (fun m' nx' => nx' = nx ∧ (∀ z, z ≠ x → m' z = m₀ z) ∧ ∀ c ∈ xs.take (i + 1), P c) own (nx.map (·.1)) { s with heap := h, toks := tk } s₂ := by
      rintro ⟨h', tk', m', news', nx', e, F', N', a, b, d, e1, e2, e3⟩
      refine ⟨h', tk', m', news', nx', e, F', N', a, b, d, e1, e2, ?_⟩
      intro y hy
      rw [List.take_add_one, hc] at hy
      rcases List.mem_append.mp hy with hy | hy
      · exact hP y hy
      · rw [Option.toList_some] at hy
        rw [List.mem_singleton.mp hy]
        exact e3
    cases f with
    | ret v => exact q
    | brk => exact q
    | next => exact fin q
    | cont => exact fin q
  · rintro m₁ nx h tk ⟨rfl, hm, hP⟩ F₁ N₁
    refine done m₁ h tk ?_ ?_ N₁
    · rw [List.length_map, List.take_length] at hP
      exact hP
    · rw [done_none hm]; exact F₁
end
inductive Two {α β : Type} (R : α → β → Prop) : List α → List β → Prop
  | nil : Two R [] []
  | cons {a : α} {b : β} {as : List α} {bs : List β} : R a b → Two R as bs → Two R (a :: as) (b :: bs)
theorem Two.imp {α β : Type} {R R' : α → β → Prop} (h : ∀ a b, R a b → R' a b) : ∀ {l : List α} {k : List β}, Two R l k → Two R' l k
  | _, _, .nil => .nil
  | _, _, .cons x r => .cons (h _ _ x) (r.imp h)
theorem Two.snoc {α β : Type} {R : α → β → Prop} {a : α} {b : β} (h : R a b) : ∀ {l : List α} {k : List β}, Two R l k → Two R (l ++ [a]) (k ++ [b])
  | _, _, .nil => .cons h .nil
  | _, _, .cons x r => .cons x (r.snoc h)
theorem Two.length {α β : Type} {R : α → β → Prop} : ∀ {l : List α} {k : List β}, Two R l k → l.length = k.length
  | _, _, .nil => rfl
  | _, _, .cons _ r => by rw [List.length_cons, List.length_cons, r.length]
theorem Two.get {α β : Type} {R : α → β → Prop} : ∀ {l : List α} {k : List β}, Two R l k → ∀ {i : Nat} {a : α}, l[i]? = some a → ∃ b, k[i]? = some b ∧ R a b
  | _, _, .nil, _, _, h => by simp at h
  | _, _, .cons x r, 0, _, h => by
    rw [List.getElem?_cons_zero] at h
    cases h
    exact ⟨_, rfl, x⟩
  | _, _, .cons _ r, i + 1, _, h => by
    rw [List.getElem?_cons_succ] at h
    obtain ⟨b, hb, hr⟩ := r.get h
    exact ⟨b, by rw [List.getElem?_cons_succ]; exact hb, hr⟩

noncomputable def AccEnd {β : Type} (R : List (Addr × Obj) → Value → β → Prop) (h₀ : Heap) (L : Addr) (s : Shared) (l : Addr) (news : List (Addr × Obj)) (y : Str) (stored : List Str) (m₀ : Str → Option Value) (I : Int → List β → Prop) (μ : Int → Nat) (a : Int) (s₂ : Shared) : Prop :=
  ∃ (h' : Heap) (tk : Nat) (m' : Str → Option Value) (a' : Int) (ta' : Tok) (vs' : List Value) (k' : Nat) (led' : List (Addr × Obj)) (bs' : List β) (all : List (Addr × Obj)),
    s₂ = { s with heap := h', toks := tk } ∧ Fr h₀ L h' m' ∧ News h₀ L h' all ∧ (∀ p ∈ (l, listOf vs'.toArray k') :: (led' ++ news), p ∈ all) ∧ Two (R led') vs' bs' ∧ I a' bs' ∧ μ a' < μ a ∧ m' y = some (.int a' ta') ∧ (∀ z, z ≠ y → stored.contains z = false → m' z = m₀ z) ∧ (∀ q ∈ led', @LT.lt Nat _ l q.1)
noncomputable def AccPost {β : Type} (R : List (Addr × Obj) → Value → β → Prop) (h₀ : Heap) (L : Addr) (s : Shared) (l : Addr) (news : List (Addr × Obj)) (y : Str) (stored : List Str) (m₀ : Str → Option Value) (I : Int → List β → Prop) (μ : Int → Nat) (a : Int) (Q : Flow → Shared → Prop) (f : Flow) (s₂ : Shared) : Prop :=
  match f with
  | .ret v => Q (.ret v) s₂
  | .brk => Q .next s₂
  | _ => AccEnd R h₀ L s l news y stored m₀ I μ a s₂
theorem acc_while {β : Type} {prog : Program} {w : World} {A : Around} {E : Value → Shared → Prop} {Q : Flow → Shared → Prop} {s : Shared} {env : Env} {h₀ : Heap} {L l : Addr} {news : List (Addr × Obj)} {test : PySem.Expr} {body : List Stmt} {pos : Pos} {m₀ : Str → Option Value} {y : Str} {a₀ : Int} {t₀ : Tok}
    (R : List (Addr × Obj) → Value → β → Prop) (stored : List Str) (I : Int → List β → Prop) (μ : Int → Nat)
    (F : Fr h₀ L s.heap m₀) (N : News h₀ L s.heap ((l, listOf #[] 0) :: news)) (hy : m₀ y = some (.int a₀ t₀)) (hl : ∀ p ∈ news, p.1 < l) (hI : I a₀ [])
    (turn : ∀ a ta vs k led bs (u : Str → Option Value) h tk, Two (R led) vs bs → I a bs → (∀ q ∈ led, @LT.lt Nat _ l q.1) → (∀ p ∈ led ++ news, p.1 ≠ l) → Fr h₀ L h (fun z => if z = y then some (.int a ta) else if stored.contains z then u z else m₀ z) → News h₀ L h ((l, listOf vs.toArray k) :: (led ++ news)) →
      wpAny (model prog w) A (PySem.isTrue test env (eval test env)) (fun b s₂ =>
        if b = true then wpAny (model prog w) A (execs body env) (AccPost R h₀ L s l news y stored m₀ I μ a Q) E s₂ else Q .next s₂) E { s with heap := h, toks := tk })
    (hE : PassesOwn (model prog w) A env E := by passes_own) :
    wpAny (model prog w) A (exec (.While test body [] pos) env) Q E s := by
  have hl' : ∀ p ∈ news, @LT.lt Nat _ p.1 l := hl
  refine While_inv2 (fun n m nx => ∃ a ta vs k led bs, nx = (l, listOf vs.toArray k) :: (led ++ news) ∧ μ a = n ∧ Two (R led) vs bs ∧ I a bs ∧ (∀ q ∈ led, @LT.lt Nat _ l q.1) ∧ m y = some (.int a ta) ∧ ∀ z, z ≠ y → stored.contains z = false → m z = m₀ z) F N ⟨a₀, t₀, [], 0, [], [], rfl, rfl, .nil, hI, (fun _ h => nomatch h), hy, fun _ _ _ => rfl⟩ ?_ hE
  rintro n m₁ nx h tk F₁ N₁ ⟨a, ta, vs, k, led, bs, hnx, hsz, h2, hI', hgt, hv, hm⟩
  rw [hnx] at N₁
  rw [← hsz]
  have e : (fun x => if x = y then some (.int a ta) else if stored.contains x then m₁ x else m₀ x) = m₁ := by
    funext x
    by_cases h1 : x = y
    · subst h1; simp [hv]
    · simp only [if_neg h1]
      cases h9 : stored.contains x with
      | true => simp
      | false => simp only [Bool.false_eq_true, if_false]; exact (hm x h1 h9).symm
  refine wpAny_mono (turn a ta vs k led bs m₁ h tk h2 hI' hgt ?_ (by rw [e]; exact F₁) N₁) (fun b s₂ p => ?_) fun _ _ x => x
  · intro p hp e2
    have e2' : p.1 = l := e2
    rcases List.mem_append.mp hp with hp | hp
    · have := hgt p hp; rw [e2'] at this; exact absurd this (Nat.lt_irrefl _)
    · have := hl' p hp; rw [e2'] at this; exact absurd this (Nat.lt_irrefl _)
  cases b with
  | false => simpa using p
  | true =>
    simp only [if_true] at p ⊢
    refine wpAny_mono p (fun f s₃ q => ?_) fun _ _ x => x
    have fin : AccEnd R h₀ L s l news y stored m₀ I μ a s₃ → WhileStep2 h₀ L s (fun n m nx => ∃ a ta vs k led bs, nx = (l, listOf vs.toArray k) :: (led ++ news) ∧ μ a = n ∧ Two (R led) vs bs ∧ I a bs ∧ (∀ q ∈ led, @LT.lt Nat _ l q.1) ∧ m y = some (.int a ta) ∧ ∀ z, z ≠ y → stored.contains z = false → m z = m₀ z) Q (μ a) .next s₃ := by
      rintro ⟨h', tk', m', a', ta', vs', k', led', bs', all, rfl, F', N', hs, h2', hI2, hmu, hy', hm', hg'⟩
      exact ⟨h', tk', m', _, μ a', rfl, F', fun p hp => N' p (hs p hp), hmu, a', ta', vs', k', led', bs', rfl, rfl, h2', hI2, hg', hy', hm'⟩
    cases f with
    | ret v => exact q
    | brk => exact q
    | next => exact fin q
    | cont => exact fin q
noncomputable def I2End (h₀ : Heap) (L : Addr) (s : Shared) (news : List (Addr × Obj)) (y y' : Str) (stored : List Str) (m₀ : Str → Option Value) (I : Int → Int → Prop) (μ : Int → Int → Nat) (a b : Int) (s₂ : Shared) : Prop :=
  ∃ (h' : Heap) (tk : Nat) (m' : Str → Option Value) (a' : Int) (ta' : Tok) (b' : Int) (tb' : Tok) (all : List (Addr × Obj)),
    s₂ = { s with heap := h', toks := tk } ∧ Fr h₀ L h' m' ∧ News h₀ L h' all ∧ (∀ p ∈ news, p ∈ all) ∧ I a' b' ∧ μ a' b' < μ a b ∧ m' y = some (.int a' ta') ∧ m' y' = some (.int b' tb') ∧ (∀ z, z ≠ y → z ≠ y' → stored.contains z = false → m' z = m₀ z)
noncomputable def I2Post (h₀ : Heap) (L : Addr) (s : Shared) (news : List (Addr × Obj)) (y y' : Str) (stored : List Str) (m₀ : Str → Option Value) (I : Int → Int → Prop) (μ : Int → Int → Nat) (a b : Int) (Q : Flow → Shared → Prop) (f : Flow) (s₂ : Shared) : Prop :=
  match f with
  | .ret v => Q (.ret v) s₂
  | .brk => Q .next s₂
  | _ => I2End h₀ L s news y y' stored m₀ I μ a b s₂
theorem int2_while {prog : Program} {w : World} {A : Around} {E : Value → Shared → Prop} {Q : Flow → Shared → Prop} {s : Shared} {env : Env} {h₀ : Heap} {L : Addr} {news : List (Addr × Obj)} {test : PySem.Expr} {body : List Stmt} {pos : Pos} {m₀ : Str → Option Value} {y y' : Str} {a₀ b₀ : Int} {t₀ t₁ : Tok}
    (stored : List Str) (I : Int → Int → Prop) (μ : Int → Int → Nat)
    (F : Fr h₀ L s.heap m₀) (N : News h₀ L s.heap news) (hy : m₀ y = some (.int a₀ t₀)) (hy' : m₀ y' = some (.int b₀ t₁)) (hI : I a₀ b₀)
    (turn : ∀ a ta b tb (u : Str → Option Value) h tk, I a b → Fr h₀ L h (fun z => if z = y then some (.int a ta) else if z = y' then some (.int b tb) else if stored.contains z then u z else m₀ z) → News h₀ L h news →
      wpAny (model prog w) A (PySem.isTrue test env (eval test env)) (fun c s₂ =>
        if c = true then wpAny (model prog w) A (execs body env) (I2Post h₀ L s news y y' stored m₀ I μ a b Q) E s₂ else Q .next s₂) E { s with heap := h, toks := tk })
    (hE : PassesOwn (model prog w) A env E := by passes_own) :
    wpAny (model prog w) A (exec (.While test body [] pos) env) Q E s := by
  refine While_inv2 (fun n m nx => nx = news ∧ ∃ a ta b tb, μ a b = n ∧ I a b ∧ m y = some (.int a ta) ∧ m y' = some (.int b tb) ∧ ∀ z, z ≠ y → z ≠ y' → stored.contains z = false → m z = m₀ z) F N ⟨rfl, a₀, t₀, b₀, t₁, rfl, hI, hy, hy', fun _ _ _ _ => rfl⟩ ?_ hE
  rintro n m₁ nx h tk F₁ N₁ ⟨hnx, a, ta, b, tb, hsz, hI', hv, hv', hm⟩
  rw [hnx] at N₁
  rw [← hsz]
  have e : (fun x => if x = y then some (.int a ta) else if x = y' then some (.int b tb) else if stored.contains x then m₁ x else m₀ x) = m₁ := by
    funext x
    by_cases h1 : x = y
    · subst h1; simp [hv]
    · simp only [if_neg h1]
      by_cases h2 : x = y'
      · subst h2; simp [hv']
      · simp only [if_neg h2]
        cases h9 : stored.contains x with
        | true => simp
        | false => simp only [Bool.false_eq_true, if_false]; exact (hm x h1 h2 h9).symm
  refine wpAny_mono (turn a ta b tb m₁ h tk hI' (by rw [e]; exact F₁) N₁) (fun c s₂ p => ?_) fun _ _ x => x
  cases c with
  | false => simpa using p
  | true =>
    simp only [if_true] at p ⊢
    refine wpAny_mono p (fun f s₃ q => ?_) fun _ _ x => x
    have fin : I2End h₀ L s news y y' stored m₀ I μ a b s₃ → WhileStep2 h₀ L s (fun n m nx => nx = news ∧ ∃ a ta b tb, μ a b = n ∧ I a b ∧ m y = some (.int a ta) ∧ m y' = some (.int b tb) ∧ ∀ z, z ≠ y → z ≠ y' → stored.contains z = false → m z = m₀ z) Q (μ a b) .next s₃ := by
      rintro ⟨h', tk', m', a', ta', b', tb', all, rfl, F', N', hs, hI2, hmu, hy2, hy3, hm'⟩
      exact ⟨h', tk', m', news, μ a' b', rfl, F', fun p hp => N' p (hs p hp), hmu, rfl, a', ta', b', tb', rfl, hI2, hy2, hy3, hm'⟩
    cases f with
    | ret v => exact q
    | brk => exact q
    | next => exact fin q
    | cont => exact fin q
/-- a halt of the walk -/
noncomputable def Stop (P : Prop) : Prop := P
theorem Stop.go {P : Prop} (h : P) : Stop P := h
theorem Stop.out {P : Prop} (h : Stop P) : P := h
theorem order_of {l : Addr} {news led : List (Addr × Obj)} (hl : ∀ p ∈ news, p.1 < l) (h : ∀ q ∈ led, @LE.le Nat _ l q.1) : ∀ q ∈ led, ∀ p ∈ news, @LT.lt Nat _ p.1 q.1 := fun q hq p hp => Nat.lt_of_lt_of_le (hl p hp) (h q hq)

end
section
/-- the octets from place i up to place j -/
noncomputable def cut (xs : List UInt8) (i j : Nat) : List UInt8 := (xs.drop i).take (j - i)
theorem cut_len_le (xs : List UInt8) (i j : Nat) : (cut xs i j).length ≤ xs.length := by
  unfold cut
  rw [List.length_take, List.length_drop]
  omega
theorem clip_toNat (n : Nat) {i : Int} (h : 0 ≤ i) : clipAt n i = min i.toNat n := by
  have h2 := clipAt_cast n i
  rw [if_neg (by omega)] at h2
  omega
theorem cut_clip (xs : List UInt8) (i j : Nat) : ((xs.drop (min i xs.length)).take (min j xs.length - min i xs.length)) = cut xs i j := by
  unfold cut
  by_cases h : i ≤ xs.length
  · rw [Nat.min_eq_left h]
    by_cases h2 : j ≤ xs.length
    · rw [Nat.min_eq_left h2]
    · rw [Nat.min_eq_right (by omega)]
      rw [List.take_of_length_le (by rw [List.length_drop]; exact Nat.le_refl _), List.take_of_length_le (by rw [List.length_drop]; omega)]
  · have e : min i xs.length = xs.length := by omega
    rw [e, List.drop_of_length_le (Nat.le_refl _), List.drop_of_length_le (by omega)]
    simp
theorem picked_cut (xs : List UInt8) {i j : Int} (h0 : 0 ≤ i) (h1 : 0 ≤ j) : KBy.picked xs.toArray (some i) (some j) = (cut xs i.toNat j.toNat).toArray := by
  rw [KBc.picked_eq]
  simp only [Option.elim, List.size_toArray]
  rw [clip_toNat _ h0, clip_toNat _ h1, cut_clip]
theorem picked_cut0 (xs : List UInt8) {j : Int} (h1 : 0 ≤ j) : KBy.picked xs.toArray none (some j) = (cut xs 0 j.toNat).toArray := by
  rw [KBc.picked_eq]
  simp only [Option.elim, List.size_toArray]
  rw [clip_toNat _ h1]
  have := cut_clip xs 0 j.toNat
  simp only [Nat.zero_min, Nat.zero_le, Nat.min_eq_left] at this
  rw [this]
section
variable {prog : Program} {w : World} {A : Around} {E : Value → Shared → Prop} {s : Shared} {value slice : PySem.Expr} {t : Tok} {h₀ : Heap} {L : Addr} {m : PySem.Str → Option Value} {news : List (Addr × Obj)} {Q : Value → Shared → Prop}
theorem slice_ij {xs : List UInt8} {i j : Int} {ti tj : Tok} (hF : Fr h₀ L s.heap m) (hN : News h₀ L s.heap news) (h0 : 0 ≤ i) (h1 : 0 ≤ j) (hz : xs.length ≤ 16777216)
    (h : ∀ h' t' k, Fr h₀ L h' m → News h₀ L h' news → Q (.bytes (cut xs i.toNat j.toNat).toArray t') { s with heap := h', toks := k })
    (hs : subscripted slice false (.bytes xs.toArray t) (.ref s.heap.objs.size) = operate [.ref s.heap.objs.size, .bytes xs.toArray t] (getItem (.bytes xs.toArray t) (.ref s.heap.objs.size)) := by with_unfolding_all rfl)
    (ht : ∀ r, letTemporaryGo value (.bytes xs.toArray t) r = pure () := by intro _; with_unfolding_all rfl) :
    wpAny (model prog w) A (subscriptTail value slice (.bytes xs.toArray t) (.ref s.heap.objs.size)) Q E { s with heap := s.heap.push { cls := .type "slice", data := .fields #[.int i ti, .int j tj, .none] } } :=
  KBc.slice_K hF hN rfl (.int i ti) (.int j tj) (by rw [KBw.ints_length]; simpa using hz) (fun h' t' k F' N' _ => by rw [picked_cut xs h0 h1]; exact h h' t' k F' N') hs ht
theorem slice_0j {xs : List UInt8} {j : Int} {tj : Tok} (hF : Fr h₀ L s.heap m) (hN : News h₀ L s.heap news) (h1 : 0 ≤ j) (hz : xs.length ≤ 16777216)
    (h : ∀ h' t' k, Fr h₀ L h' m → News h₀ L h' news → Q (.bytes (cut xs 0 j.toNat).toArray t') { s with heap := h', toks := k })
    (hs : subscripted slice false (.bytes xs.toArray t) (.ref s.heap.objs.size) = operate [.ref s.heap.objs.size, .bytes xs.toArray t] (getItem (.bytes xs.toArray t) (.ref s.heap.objs.size)) := by with_unfolding_all rfl)
    (ht : ∀ r, letTemporaryGo value (.bytes xs.toArray t) r = pure () := by intro _; with_unfolding_all rfl) :
    wpAny (model prog w) A (subscriptTail value slice (.bytes xs.toArray t) (.ref s.heap.objs.size)) Q E { s with heap := s.heap.push { cls := .type "slice", data := .fields #[.none, .int j tj, .none] } } :=
  KBc.slice_K hF hN rfl .none (.int j tj) (by rw [KBw.ints_length]; simpa using hz) (fun h' t' k F' N' _ => by rw [picked_cut0 xs h1]; exact h h' t' k F' N') hs ht
end

end
section
open LCg
section
variable {prog : Program} {w : World} {A : Around} {E : Value → Shared → Prop} {s : Shared} {h₀ : Heap} {L : Addr} {m : Str → Option Value} {env : Env}
theorem lst_is {h₀ h : Heap} {L a : Addr} {news : List (Addr × Obj)} {ys : List Value} (N : News h₀ L h news) (hm : (a, lst ys) ∈ news) : h.IsList a ys.toArray := ⟨_, (N _ hm).1, rfl, _, rfl⟩
noncomputable abbrev testsOf (ifs : List PySem.Expr) (cenv : Env) : Sem Bool := forIn ifs true fun c r => if r = true then do let ok ← PySem.isTrue c cenv (eval c cenv); pure (ForInStep.yield ok) else pure (ForInStep.yield r)

theorem compLoop_G {elt target iter : PySem.Expr} {ifs : List PySem.Expr} {scope : Scope} {pos : Pos} {it acc : Value} {env : Env} {R : Result → Shared → Prop} (I : Nat → Shared → Prop)
    (turn : ∀ n s, I n s → wpAny (model prog w) A (pyNext it) (fun r s₁ => match r with
      | none => R (.ok .next) s₁
      | some v => wpAny (model prog w) A (letOwnedTupleGo target it v) (fun _ s₁' => wpAny (model prog w) A (assign target env v) (fun _ s₂ =>
          wpAny (model prog w) A (testsOf ifs env) (fun ok s₃ =>
            if ok = true then wpAny (model prog w) A (eval elt env) (fun x s₄ =>
              wpAny (model prog w) A (call (.builtin "list.append") [acc, x]) (fun _ s₅ => ∃ m, m < n ∧ I m s₅) (notedBy (model prog w) A env fun e s' => R (.error e) s') s₄) (notedBy (model prog w) A env fun e s' => R (.error e) s') s₃
            else ∃ m, m < n ∧ I m s₃) (notedBy (model prog w) A env fun e s' => R (.error e) s') s₂) (notedBy (model prog w) A env fun e s' => R (.error e) s') s₁') (notedBy (model prog w) A env fun e s' => R (.error e) s') s₁) (notedBy (model prog w) A env fun e s' => R (.error e) s') s)
    (n : Nat) (h : I n s) :
    codeAny (model prog w) A (.compLoop (.ListComp elt [⟨target, iter, ifs, 0⟩] scope pos) 0 it acc env) R s := by
  refine codeAny_loop rfl I (fun n s hI => ?_) n h
  show wpAny _ A ((compTurn (.ListComp elt [⟨target, iter, ifs, 0⟩] scope pos) 0 it acc env).onRaise (fun x => do noteFrame x env; theTreesLotGoes x)) _ _ s
  refine wpAny_noted ?_
  rw [compTurn_list]
  refine wpAny_bind (wpAny_standAt (wpAny_bind (wpAny_mono (turn n s hI) (fun r s₁ h₁ => ?_) fun _ _ h' => h')))
  cases r with
  | none => exact wpAny_pure h₁
  | some v =>
    refine wpAny_bind (wpAny_mono h₁ (fun _ s₁' h₁'' => ?_) fun _ _ h' => h')
    refine wpAny_bind (wpAny_mono h₁'' (fun _ s₂ h₂ => wpAny_bind (wpAny_mono h₂ (fun ok s₃ h₃ => ?_) fun _ _ h' => h')) fun _ _ h' => h')
    cases ok with
    | false => exact wpAny_pure ⟨rfl, h₃⟩
    | true =>
      exact wpAny_bind (wpAny_bind (wpAny_mono h₃ (fun x s₄ h₄ => wpAny_bind (wpAny_mono h₄ (fun _ s₅ h₅ => wpAny_pure (wpAny_pure ⟨rfl, h₅⟩)) fun _ _ h' => h')) fun _ _ h' => h'))

/-- how a target takes a value: B says of the block's names what they hold then -/
noncomputable def Takes (prog : Program) (w : World) (A : Around) (h₀ : Heap) (L : Addr) (target : PySem.Expr) (cenv : Env) (I : Addr) (n : Nat) (P : Nat → Value → Prop) (St : Nat → Heap → Prop) (S : List (Addr × Obj) → Prop) (B : Nat → Value → (Str → Option Value) → Prop) : Prop :=
  ∀ i v nw m' (s : Shared) (Q : Unit → Shared → Prop) (E : Value → Shared → Prop), i < n → P i v → St (i + 1) s.heap → s.heap.Ns cenv.locals m' → News h₀ L s.heap nw → S nw →
    (∀ h' tk m'', h'.Ns cenv.locals m'' → B i v m'' → (∀ b o, b ≠ cenv.locals → s.heap.get? b = some o → h'.get? b = some o) → Q () { s with heap := h', toks := tk }) →
    wpAny (model prog w) A (letOwnedTupleGo target (.ref I) v) (fun _ s₁ => wpAny (model prog w) A (assign target cenv v) Q E s₁) E s

theorem block_G {elt target iter : PySem.Expr} {ifs : List PySem.Expr} {scope : Scope} {cl : List (Str × Addr)} {pos : Pos} {s₂ : Shared} {I : Addr} {fp : List Addr} {n : Nat} {P : Nat → Value → Prop} {St : Nat → Heap → Prop} {S : List (Addr × Obj) → Prop} {news : List (Addr × Obj)}
    {B : Nat → Value → (Str → Option Value) → Prop} {J : Nat → List Value → List (Addr × Obj) → Prop} {RR : Value → Addr → Result → Shared → Prop}
    (W : Walks prog w A I fp [I] n P St) (hsz : n ≤ sizeLine) (hIo : ∀ i h, St i h → ∃ o, h.get? I = some o)
    (hSt : ∀ i h h' o nw, St i h → h.get? I = some o → h'.get? I = some o → (∀ b o, h₀.get? b = some o → h'.get? b = some o) → News h₀ L h' nw → S nw → St i h')
    (hcell : ∀ y ∈ scope.names, y.2 ≠ .cell) (hkind : scope.kind = .function) (hst : St 0 s₂.heap) (hfp : ∀ b ∈ fp, b < s₂.heap.objs.size)
    (F : Fr h₀ L s₂.heap m) (N : News h₀ L s₂.heap news) (hIL : L ≠ I) (hI₀ : h₀.get? I = none) (off : ∀ p ∈ news, p.1 ≠ I) (hS : S news) (hJ : J 0 [] news)
    (take : ∀ C, Takes prog w A h₀ L target (compEnvC scope cl C env) I n P St S B)
    (turn : ∀ i v ys nw I oI C oC D m₂ h tk (E' : Value → Shared → Prop), i < n → P i v → J i ys nw → S nw → ys.length ≤ i → NsObj oC m₂ → B i v m₂ → Fr h₀ L h m → News h₀ L h ((I, oI) :: (C, oC) :: (D, lst ys) :: nw) → Off3 I C D nw → ((@Ne Nat I C) ∧ (@Ne Nat I D) ∧ (@Ne Nat C D)) →
      wpAny (model prog w) A (testsOf ifs (compEnvC scope cl C env)) (fun ok s' => if ok = true then
        wpAny (model prog w) A (eval elt (compEnvC scope cl C env)) (CompEnd h₀ L m { s₂ with heap := h, toks := tk } I oI C oC D (lst ys) S (fun y nw' => J (i + 1) (ys ++ [y]) nw')) E' s'
        else CompEnd h₀ L m { s₂ with heap := h, toks := tk } I oI C oC D (lst ys) S (fun _ nw' => J (i + 1) ys nw') Value.none s') E' { s₂ with heap := h, toks := tk })
    (hRR : ∀ D C h tk m' ys news', Fr h₀ L h m → News h₀ L h ((D, lst ys) :: news') → Off1 D news' → h.Ns C m' → h₀.get? C = none → h₀.get? D = none → C ≠ L → D ≠ L → C ≠ D → (∀ p ∈ news', p.1 ≠ C) → (∀ p ∈ news, p.1 < D) → J n ys news' → RR (.ref D) C (.ok .next) { s₂ with heap := h, toks := tk }) :
    wpAny (model prog w) A (newList []) (fun acc s₃ => wpAny (model prog w) A (newFunctionEnv scope env.globals cl [] env.qual none .none (some env)) (fun cenv s₄ =>
      codeAny (model prog w) A (.compStart (.ListComp elt [⟨target, iter, ifs, 0⟩] scope pos) 0 (.ref I) acc { cenv with scope := relabel scope env }) (RR acc cenv.locals) s₄) E s₃) E s₂ := by
  refine wpAny_newObj_type (wpAny_newFunctionEnv hcell (by intro y hy; simp at hy) (fun h₁ hns₁ hsb₁ => ?_) hkind)
  dsimp only at hns₁ hsb₁ ⊢
  generalize hH2 : s₂.heap.push { cls := .type "list", dict := none, data := .seq ([] : List Value).toArray } = H2 at hns₁ hsb₁ ⊢
  have hC : H2.objs.size = s₂.heap.objs.size + 1 := by rw [← hH2, Heap.size_push]
  have hDC : s₂.heap.objs.size ≠ H2.objs.size := by rw [hC]; exact Nat.ne_of_lt (Nat.lt_succ_self _)
  have below : ∀ b, b < s₂.heap.objs.size → b ≠ H2.objs.size ∧ b ≠ s₂.heap.objs.size := fun b hb => ⟨by rw [hC]; exact Nat.ne_of_lt (Nat.lt_succ_of_lt hb), Nat.ne_of_lt hb⟩
  have hDf : s₂.heap.objs.size ∉ fp := fun hm => Nat.lt_irrefl _ (hfp _ hm)
  have hCf : H2.objs.size ∉ fp := fun hm => by have := hfp _ hm; rw [hC] at this; exact Nat.lt_irrefl _ (Nat.lt_of_succ_lt this)
  have hIf : I ∈ fp := W.sub I (List.mem_singleton.mpr rfl)
  have hIlt : I < s₂.heap.objs.size := hfp I hIf
  have hnD : ∀ p ∈ news, p.1 < s₂.heap.objs.size := fun p hp => Heap.lt_size (N p hp).1
  have old : ∀ b o, s₂.heap.get? b = some o → h₁.get? b = some o := fun b o e => hsb₁.extBut b o (below b (Heap.lt_size e)).1 (Heap.get?_push_of_some _ (hH2 ▸ Heap.get?_push_of_some _ e))
  have hacc : h₁.get? s₂.heap.objs.size = some (lst []) := hsb₁.extBut _ _ hDC (Heap.get?_push_of_some _ (hH2 ▸ Heap.get?_push_size _ rfl))
  have hst₁ : St 0 h₁ := W.frame _ _ _ hst fun b _ o e => old b o e
  have fresh : ∀ a, s₂.heap.objs.size ≤ a → s₂.heap.get? a = none := fun a ha => by
    cases e : s₂.heap.get? a with
    | none => rfl
    | some o' => exact absurd (Heap.lt_size e) (Nat.not_lt.mpr ha)
  have fresh₀ : ∀ a, s₂.heap.objs.size ≤ a → h₀.get? a = none := fun a ha => by
    cases e : h₀.get? a with
    | none => rfl
    | some o' => have := F.keep a o' e; rw [fresh a ha] at this; cases this
  have hD₀ : h₀.get? s₂.heap.objs.size = none := fresh₀ _ (Nat.le_refl _)
  have hC₀ : h₀.get? H2.objs.size = none := fresh₀ _ (by rw [hC]; exact Nat.le_succ _)
  have hLlt : L < s₂.heap.objs.size := F.ns.lt
  have hDL : s₂.heap.objs.size ≠ L := Ne.symm (below L hLlt).2
  have hCL : H2.objs.size ≠ L := Ne.symm (below L hLlt).1
  have hCI : I ≠ H2.objs.size := (below I hIlt).1
  have hDI : I ≠ s₂.heap.objs.size := (below I hIlt).2
  have off₀ : Off3 I H2.objs.size s₂.heap.objs.size news := Off3.of fun p hp => ⟨off p hp, (below _ (Heap.lt_size (N p hp).1)).1, (below _ (Heap.lt_size (N p hp).1)).2⟩
  have loop : ∀ s₃ : Shared, s₃ = { s₂ with heap := h₁, toks := s₂.toks + ([] : List (Str × Value)).length } →
      codeAny (model prog w) A (.compLoop (.ListComp elt [⟨target, iter, ifs, 0⟩] scope pos) 0 (.ref I) (.ref s₂.heap.objs.size) (compEnvC scope cl H2.objs.size env))
        (RR (.ref s₂.heap.objs.size) H2.objs.size) s₃ := by
    rintro s₃ rfl
    refine compLoop_G
      (fun k s' => ∃ h' tk i ys m' news', s' = { s₂ with heap := h', toks := tk } ∧ i ≤ n ∧ k = n + 1 - i ∧ ys.length ≤ i ∧ St i h' ∧ Fr h₀ L h' m ∧ h'.Ns H2.objs.size m' ∧ News h₀ L h' ((s₂.heap.objs.size, lst ys) :: news') ∧
        Off3 I H2.objs.size s₂.heap.objs.size news' ∧ S news' ∧ J i ys news') ?_ (n + 1)
      ⟨h₁, _, 0, [], _, news, rfl, Nat.zero_le _, rfl, Nat.le_refl _, hst₁, F.keeps old, hns₁, fun p hp => ?_, off₀, hS, hJ⟩
    · rintro k s' ⟨h', tk, i, ys, m', news', rfl, hi, rfl, hyl, hst', F', hn', N', off', hS', hJ'⟩
      by_cases hlt : i < n
      · refine W.item i _ _ _ hlt hst' fun v h₂ tk₂ hPv hst₂ hk₂ => ?_
        have off3 := off'.mem
        have F₂ : Fr h₀ L h₂ m := fr_but F' hk₂ hIL hI₀
        have N₂ : News h₀ L h₂ ((s₂.heap.objs.size, lst ys) :: news') := news_but N' hk₂ fun p hp => by
          rcases List.mem_cons.mp hp with rfl | hp
          · exact Ne.symm hDI
          · exact (off3 p hp).1
        refine take H2.objs.size i v news' m' _ _ _ hlt hPv hst₂ (hn'.at' fun o e => hk₂ _ o (by simpa using Ne.symm hCI) e) (fun p hp => N₂ p (List.mem_cons_of_mem _ hp)) hS' (fun h₃ tk₃ m₃ hn₃ hB old3 => ?_)
        have old3 : ∀ b o, b ≠ H2.objs.size → h₂.get? b = some o → h₃.get? b = some o := old3
        have hst₃ : St (i + 1) h₃ := W.frame _ _ _ hst₂ fun b hb o e => old3 b o (fun q => hCf (by rw [← q]; exact hb)) e
        obtain ⟨oI, heI⟩ := hIo _ _ hst₃
        obtain ⟨oC, heC, hoC⟩ := ns_obj hn₃
        have F₃ : Fr h₀ L h₃ m := ⟨F₂.ns.at' fun o e => old3 L o (Ne.symm hCL) e, fun b o e => old3 b o (fun q => by rw [q, hC₀] at e; cases e) (F₂.keep b o e), F₂.above⟩
        have N₃ : News h₀ L h₃ ((I, oI) :: (H2.objs.size, oC) :: (s₂.heap.objs.size, lst ys) :: news') := fun p hp => by
          rcases List.mem_cons.mp hp with rfl | hp
          · exact ⟨heI, Ne.symm hIL, hI₀⟩
          · rcases List.mem_cons.mp hp with rfl | hp
            · exact ⟨heC, hCL, hC₀⟩
            · have z := N₂ p hp
              refine ⟨old3 _ _ ?_ z.1, z.2⟩
              rcases List.mem_cons.mp hp with rfl | hp
              · exact hDC
              · exact (off3 p hp).2.1
        refine wpAny_mono (turn i v ys news' I oI H2.objs.size oC s₂.heap.objs.size m₃ h₃ _ _ hlt hPv hJ' hS' hyl hoC hB F₃ N₃ off' ⟨hCI, hDI, Ne.symm hDC⟩) (fun ok s₄ h₄ => ?_) fun _ _ e => e
        cases ok with
        | true =>
          simp only [if_true] at h₄ ⊢
          refine wpAny_mono h₄ (fun y s₅ h₅ => ?_) fun _ _ e => e
          obtain ⟨h₄, tk₄, news₄, rfl, F₄, N₄, off₄, hS₄, R₄⟩ := h₅
          have zI := (N₄ (I, oI) List.mem_cons_self).1
          have zC := (N₄ (H2.objs.size, oC) (List.mem_cons_of_mem _ List.mem_cons_self)).1
          have zD := (N₄ (s₂.heap.objs.size, lst ys) (List.mem_cons_of_mem _ (List.mem_cons_of_mem _ List.mem_cons_self))).1
          have N₄' : News h₀ L h₄ news₄ := fun p hp => N₄ p (List.mem_cons_of_mem _ (List.mem_cons_of_mem _ (List.mem_cons_of_mem _ hp)))
          have hst₄ : St (i + 1) h₄ := hSt _ _ _ _ _ hst₃ heI zI F₄.keep N₄' hS₄
          refine append_at (hsz := by show ys.toArray.size ≤ sizeLine; rw [List.size_toArray]; exact Nat.le_trans (Nat.le_trans hyl hi) hsz) zD fun h₅ hs₅ hD₅ => ?_
          have off4 := off₄.mem
          refine ⟨n + 1 - (i + 1), by omega, h₅, tk₄, i + 1, ys ++ [y], _, news₄, rfl, hlt, rfl, by rw [List.length_append, List.length_singleton]; exact Nat.succ_le_succ hyl, W.frame _ _ _ hst₄ fun b hb o e => hs₅.extBut b o (fun q => hDf (q ▸ hb)) e, F₄.change hs₅ hDL hD₀,
            (hoC.ns zC).sameBut hs₅ (Ne.symm hDC), fun p hp => ?_, off₄, hS₄, R₄⟩
          rcases List.mem_cons.mp hp with rfl | hp
          · exact ⟨hD₅.trans (congrArg some (lst_snoc ys y)), hDL, hD₀⟩
          · exact ⟨hs₅.extBut _ _ (off4 p hp).2.2 (N₄' p hp).1, (N₄' p hp).2⟩
        | false =>
          simp only [Bool.false_eq_true, if_false] at h₄ ⊢
          obtain ⟨h₅, tk₄, news₄, rfl, F₄, N₄, off₄, hS₄, R₄⟩ := h₄
          have zI := (N₄ (I, oI) List.mem_cons_self).1
          have zC := (N₄ (H2.objs.size, oC) (List.mem_cons_of_mem _ List.mem_cons_self)).1
          have N₄' : News h₀ L h₅ news₄ := fun p hp => N₄ p (List.mem_cons_of_mem _ (List.mem_cons_of_mem _ (List.mem_cons_of_mem _ hp)))
          have hst₄ : St (i + 1) h₅ := hSt _ _ _ _ _ hst₃ heI zI F₄.keep N₄' hS₄
          refine ⟨n + 1 - (i + 1), by omega, h₅, tk₄, i + 1, ys, _, news₄, rfl, hlt, rfl, Nat.le_succ_of_le hyl, hst₄, F₄, hoC.ns zC, fun p hp => ?_, off₄, hS₄, R₄⟩
          rcases List.mem_cons.mp hp with rfl | hp
          · exact N₄ _ (List.mem_cons_of_mem _ (List.mem_cons_of_mem _ List.mem_cons_self))
          · exact N₄' p hp
      · obtain rfl : i = n := Nat.le_antisymm hi (Nat.not_lt.mp hlt)
        refine W.done _ _ _ hst' fun h₂ tk₂ hk₂ => ?_
        have off3 := off'.mem
        exact hRR _ _ h₂ tk₂ _ ys news' (fr_but F' hk₂ hIL hI₀) (news_but N' hk₂ fun p hp => by
          rcases List.mem_cons.mp hp with rfl | hp
          · exact Ne.symm hDI
          · exact (off3 p hp).1) off'.one (hn'.at' fun o e => hk₂ _ o (by simpa using Ne.symm hCI) e) hC₀ hD₀ hCL hDL (Ne.symm hDC) (fun p hp => (off3 p hp).2.1) hnD hJ'
    · rcases List.mem_cons.mp hp with rfl | hp
      · exact ⟨hacc, hDL, hD₀⟩
      · exact ⟨old _ _ (N p hp).1, (N p hp).2⟩
  exact codeAny_compStart_list (loop _ rfl) (W.self 0 _ _ _ hst₁ (loop _ rfl))

/-- an iterator over a source, and what it asks of the ledger -/
structure IterAt (prog : Program) (w : World) (A : Around) (h₀ : Heap) (L : Addr) (m : Str → Option Value) (isL : Bool) (n : Nat) (P : Nat → Value → Prop) (S : List (Addr × Obj) → Prop) (news : List (Addr × Obj)) (s₁ s₂ : Shared) (I : Addr) (fp : List Addr) (St : Nat → Heap → Prop) : Prop where
  same : ∃ h, s₂ = { s₁ with heap := h }
  W : Walks prog w A I fp [I] n P St
  hIo : ∀ i h, St i h → ∃ o, h.get? I = some o
  hSt : ∀ i h h' o nw, St i h → h.get? I = some o → h'.get? I = some o → (∀ b o, h₀.get? b = some o → h'.get? b = some o) → News h₀ L h' nw → S nw → St i h'
  hst : St 0 s₂.heap
  hfp : ∀ b ∈ fp, b < s₂.heap.objs.size
  F : Fr h₀ L s₂.heap m
  N : News h₀ L s₂.heap news
  hIL : L ≠ I
  hI₀ : h₀.get? I = none
  off : ∀ p ∈ news, p.1 ≠ I
  isLI : isL = true → ∀ i h, St i h → ∃ l j, h.IsListIter I l j
noncomputable def SrcG (prog : Program) (w : World) (A : Around) (h₀ : Heap) (L : Addr) (m : Str → Option Value) (isL : Bool) (n : Nat) (P : Nat → Value → Prop) (S : List (Addr × Obj) → Prop) (news : List (Addr × Obj)) (xv : Value) (s₁ : Shared) : Prop :=
  ∀ (Q : Value → Shared → Prop) (E : Value → Shared → Prop), (∀ I fp St s₂, IterAt prog w A h₀ L m isL n P S news s₁ s₂ I fp St → Q (.ref I) s₂) → wpAny (model prog w) A (pyIter xv) Q E s₁

/-- what is to be shown when the source is there -/
noncomputable def CompGo (prog : Program) (w : World) (A : Around) (h₀ : Heap) (L : Addr) (m : Str → Option Value) (env : Env) (elt target : PySem.Expr) (ifs : List PySem.Expr) (scope : Scope) (cl : List (Str × Addr)) (Fin : Shared → Addr → Prop) (D : Addr → Heap → Nat → (Str → Option Value) → Prop) (xv : Value) (s₁ : Shared) : Prop :=
  ∃ (isL : Bool) (n : Nat) (P : Nat → Value → Prop) (S : List (Addr × Obj) → Prop) (B : Nat → Value → (Str → Option Value) → Prop) (J : Nat → List Value → List (Addr × Obj) → Prop) (news : List (Addr × Obj)),
    SrcG prog w A h₀ L m isL n P S news xv s₁ ∧ n ≤ sizeLine ∧ S news ∧ J 0 [] news ∧
    (∀ C I (St : Nat → Heap → Prop), (isL = true → ∀ i h, St i h → ∃ l j, h.IsListIter I l j) → Takes prog w A h₀ L target (compEnvC scope cl C env) I n P St S B) ∧
    (∀ i v ys nw I oI C oC D m₂ h tk (E' : Value → Shared → Prop), i < n → P i v → J i ys nw → S nw → ys.length ≤ i → NsObj oC m₂ → B i v m₂ → Fr h₀ L h m → News h₀ L h ((I, oI) :: (C, oC) :: (D, lst ys) :: nw) → Off3 I C D nw → ((@Ne Nat I C) ∧ (@Ne Nat I D) ∧ (@Ne Nat C D)) →
      wpAny (model prog w) A (testsOf ifs (compEnvC scope cl C env)) (fun ok s' => if ok = true then
        wpAny (model prog w) A (eval elt (compEnvC scope cl C env)) (CompEnd h₀ L m { s₁ with heap := h, toks := tk } I oI C oC D (lst ys) S (fun y nw' => J (i + 1) (ys ++ [y]) nw')) E' s'
        else CompEnd h₀ L m { s₁ with heap := h, toks := tk } I oI C oC D (lst ys) S (fun _ nw' => J (i + 1) ys nw') Value.none s') E' { s₁ with heap := h, toks := tk }) ∧
    (∀ a h tk ys nw m', D a h tk m' → Fr h₀ L h m' → News h₀ L h ((a, lst ys) :: nw) → Off1 a nw → (∀ p ∈ news, p.1 < a) → J n ys nw → Fin { s₁ with heap := h, toks := tk } a)

theorem comp_eval {elt target iter : PySem.Expr} {ifs : List PySem.Expr} {scope : Scope} {cl : List (Str × Addr)} {pos : Pos} {Q : Value → Shared → Prop}
    (hclos : closureFor scope env = pure cl) (hcell : ∀ y ∈ scope.names, y.2 ≠ .cell) (hkind : scope.kind = .function)
    (hnames : ∀ y ∈ scope.names, y.2 = .local → scope.names.lookup y.1 = some .local)
    (h : wpAny (model prog w) A (eval iter env) (CompGo prog w A h₀ L m env elt target ifs scope cl (fun s' a => Q (.ref a) s') (fun _ _ _ m' => m' = m)) E s)
    (hs : ∀ x, foldedSetIterable iter env x = pure x := by intro _; rfl) :
    wpAny (model prog w) A (eval (.ListComp elt [⟨target, iter, ifs, 0⟩] scope pos) env) Q E s := by
  rw [eval_ListComp]
  refine wpAny_comprehension_free (use := none) rfl hs hclos hkind hnames (wpAny_mono h (fun xv s₁ h₁ => ?_) fun _ _ e => e)
  obtain ⟨isL, n, P, S, B, J, news, src, hsz, hS, hJ, take, turn, fin⟩ := h₁
  refine src _ _ fun I fp St s₂ it => ?_
  obtain ⟨g, rfl⟩ := it.same
  refine block_G it.W hsz it.hIo it.hSt hcell hkind it.hst it.hfp it.F it.N it.hIL it.hI₀ it.off hS hJ (fun C => take C I St it.isLI) turn ?_
  intro D C h tk m' ys news' F' N' o1 hn hC₀ hD₀ hCL hDL hCD offC hlt fJ
  refine ⟨m', hn, fun h'' hs'' => fin D h'' tk ys news' m rfl (F'.change hs'' hCL hC₀) (fun p hp => ?_) o1 hlt fJ⟩
  refine ⟨hs''.extBut _ _ ?_ (N' p hp).1, (N' p hp).2⟩
  rcases List.mem_cons.mp hp with rfl | hp
  · exact Ne.symm hCD
  · exact offC p hp

theorem comp_evalF {elt target iter : PySem.Expr} {ifs : List PySem.Expr} {scope : Scope} {cl : List (Str × Addr)} {pos : Pos} {Q : Value → Shared → Prop} (_F : Fr h₀ L s.heap m)
    (hclos : closureFor scope env = pure cl) (hcell : ∀ y ∈ scope.names, y.2 ≠ .cell) (hkind : scope.kind = .function)
    (hnames : ∀ y ∈ scope.names, y.2 = .local → scope.names.lookup y.1 = some .local)
    (h : wpAny (model prog w) A (eval iter env) (CompGo prog w A h₀ L m env elt target ifs scope cl (fun s' a => Q (.ref a) s') (fun _ _ _ m' => m' = m)) E s)
    (hs : ∀ x, foldedSetIterable iter env x = pure x := by intro _; rfl) :
    wpAny (model prog w) A (eval (.ListComp elt [⟨target, iter, ifs, 0⟩] scope pos) env) Q E s := comp_eval hclos hcell hkind hnames h hs
theorem comp_assign {elt target iter : PySem.Expr} {ifs : List PySem.Expr} {y : Str} {py : Pos} {scope : Scope} {cl : List (Str × Addr)} {pos spos : Pos} {Q : Flow → Shared → Prop} (hLe : env.locals = L)
    (hsw : swapsWith (.ListComp elt [⟨target, iter, ifs, 0⟩] scope pos) (some (.Name y py)) spos.line env = pure true)
    (hclos : closureFor scope env = pure cl) (hcell : ∀ z ∈ scope.names, z.2 ≠ .cell) (hkind : scope.kind = .function)
    (hnames : ∀ z ∈ scope.names, z.2 = .local → scope.names.lookup z.1 = some .local)
    (hy : env.kindOf y = some .local) (hp : (env.scope.kind == .class || (env.scope.kind == .module && env.locals != env.globals)) = false)
    (h : wpAny (model prog w) A (eval iter env) (CompGo prog w A h₀ L m env elt target ifs scope cl (fun s' _ => Q .next s') (fun a _ _ m' => m' = fun z => if z = y then some (.ref a) else m z)) E s)
    (hs : ∀ x, foldedSetIterable iter env x = pure x := by intro _; rfl) :
    wpAny (model prog w) A (exec (.Assign [.Name y py] (.ListComp elt [⟨target, iter, ifs, 0⟩] scope pos) spos) env) Q E s := by
  subst hLe
  rw [exec_Assign_Name_used _ _ _ _ hsw]
  refine wpAny_bind (wpAny_standAt (wpAny_bind ?_))
  show wpAny _ A (do let _ ← comprehension (.ListComp elt [⟨target, iter, ifs, 0⟩] scope pos) scope env _ (newList []) false (eval iter env) (some (assign (.Name y py) env))) _ _ s
  refine wpAny_bind (wpAny_mono (wpAny_comprehension_free (use := some (assign (.Name y py) env)) (Q := fun _ s' => Q .next s') rfl hs hclos hkind hnames
    (wpAny_mono h (fun xv s₁ h₁ => ?_) fun _ _ e => e)) (fun _ s' hq => wpAny_pure (wpAny_pure hq)) fun _ _ e => e)
  obtain ⟨isL, n, P, S, B, J, news, src, hsz, hS, hJ, take, turn, fin⟩ := h₁
  refine src _ _ fun I fp St s₂ it => ?_
  obtain ⟨g, rfl⟩ := it.same
  refine block_G it.W hsz it.hIo it.hSt hcell hkind it.hst it.hfp it.F it.N it.hIL it.hI₀ it.off hS hJ (fun C => take C I St it.isLI) turn ?_
  intro D C h tk m' ys news' F' N' o1 hn hC₀ hD₀ hCL hDL hCD offC hlt fJ
  show wpAny _ A (assign (.Name y py) env (.ref D)) _ _ _
  refine wpAny_assign_Name (wpAny_storeName_local hy F'.ns (fun h₂ hn₂ hs₂ => ?_) hp)
  have hL₀ : h₀.get? env.locals = none := Heap.get?_none_of_le F'.above
  have F₂ : Fr h₀ env.locals h₂ (fun z => if z = y then some (.ref D) else m z) := ⟨hn₂, fun b o e => hs₂.extBut b o (fun q => by rw [q, hL₀] at e; cases e) (F'.keep b o e), F'.above⟩
  refine ⟨m', hn.sameBut hs₂ hCL, fun h'' hs'' => fin D h'' _ ys news' _ rfl (F₂.change hs'' hCL hC₀) (fun p hp => ?_) o1 hlt fJ⟩
  have z : h₂.get? p.1 = some p.2 := hs₂.extBut _ _ (N' p hp).2.1 (N' p hp).1
  refine ⟨hs''.extBut _ _ ?_ z, (N' p hp).2⟩
  rcases List.mem_cons.mp hp with rfl | hp
  · exact Ne.symm hCD
  · exact offC p hp

theorem takes_name {x : Str} {px : Pos} {scope : Scope} {cl : List (Str × Addr)} {C I : Addr} {n : Nat} {P : Nat → Value → Prop} {St : Nat → Heap → Prop} {S : List (Addr × Obj) → Prop} (hx : scope.names.lookup x = some .local) (hkind : scope.kind = .function) :
    Takes prog w A h₀ L (.Name x px) (compEnvC scope cl C env) I n P St S (fun _ v m => m x = some v) := by
  intro i v nw m' s Q E _ _ _ hn _ _ k
  refine wpAny_of_eq (a := ()) rfl ?_
  refine wpAny_assign_Name (wpAny_storeName_local (lookup_relabel_local hx) hn (fun h₃ hn₃ hs₃ => ?_) (by simp [compEnvC, relabel, hkind]))
  exact k h₃ _ _ hn₃ (by simp) fun b o hb e => hs₃.extBut b o hb e
theorem takes_two {x x₂ : Str} {px px₂ tp : Pos} {tk} {scope : Scope} {cl : List (Str × Addr)} {C I : Addr} {n : Nat} {P : Nat → Value → Prop} {St : Nat → Heap → Prop} {S : List (Addr × Obj) → Prop} {B : Nat → Value → (Str → Option Value) → Prop} (hx : scope.names.lookup x = some .local) (hx₂ : scope.names.lookup x₂ = some .local) (hxx : x ≠ x₂) (hkind : scope.kind = .function) (hh : A.handled = none)
    (hLI : ∀ i h, St i h → ∃ l j, h.IsListIter I l j)
    (hP : ∀ i v nw, i < n → P i v → S nw → ∃ t v₁ v₂ nt, v = .ref t ∧ (t, ({ cls := .type "tuple", data := .seq #[v₁, v₂] nt } : Obj)) ∈ nw ∧ ∀ m' : Str → Option Value, m' x = some v₁ → m' x₂ = some v₂ → B i v m') :
    Takes prog w A h₀ L (.Tuple [.Name x px, .Name x₂ px₂] tk tp) (compEnvC scope cl C env) I n P St S B := by
  intro i v nw m' s Q E hi hPv hst hn N hS k
  obtain ⟨t, v₁, v₂, nt, rfl, hm, hB⟩ := hP i v nw hi hPv hS
  obtain ⟨l, j, hLi⟩ := hLI _ _ hst
  have ht : IsTup s.heap t #[v₁, v₂] := ⟨_, (N _ hm).1, rfl, nt, rfl⟩
  refine wpAny_letOwnedTupleGo_listiter hLi ?_
  refine assign_Tuple_tuple hh ht rfl rfl fun h₅ he => ?_
  have he' : ∀ b o, s.heap.get? b = some o → h₅.get? b = some o := fun b o e => he b o (Nat.ne_of_lt (Heap.lt_size e)) e
  refine assignInOrder_cons (wpAny_assign_Name (wpAny_storeName_local (lookup_relabel_local hx) (hn.at' fun o e => he' _ o e) (fun h₆ hn₆ hs₆ => ?_) (by simp [compEnvC, relabel, hkind])))
  refine assignInOrder_cons (wpAny_assign_Name (wpAny_storeName_local (lookup_relabel_local hx₂) hn₆ (fun h₃ hn₃ hs₃ => ?_) (by simp [compEnvC, relabel, hkind])))
  refine assignInOrder_nil ?_
  exact k h₃ _ _ hn₃ (hB _ (by simp [hxx]) (by simp)) fun b o hb e => hs₃.extBut b o hb (hs₆.extBut b o hb (he' b o e))
theorem takes_three {x x₂ x₃ : Str} {px px₂ px₃ tp : Pos} {tk} {scope : Scope} {cl : List (Str × Addr)} {C I : Addr} {n : Nat} {P : Nat → Value → Prop} {St : Nat → Heap → Prop} {S : List (Addr × Obj) → Prop} {B : Nat → Value → (Str → Option Value) → Prop} (hx : scope.names.lookup x = some .local) (hx₂ : scope.names.lookup x₂ = some .local) (hx₃ : scope.names.lookup x₃ = some .local) (hxx : x ≠ x₂) (hxy : x ≠ x₃) (hxz : x₂ ≠ x₃) (hkind : scope.kind = .function) (hh : A.handled = none)
    (hLI : ∀ i h, St i h → ∃ l j, h.IsListIter I l j)
    (hP : ∀ i v nw, i < n → P i v → S nw → ∃ t v₁ v₂ v₃ nt, v = .ref t ∧ (t, ({ cls := .type "tuple", data := .seq #[v₁, v₂, v₃] nt } : Obj)) ∈ nw ∧ ∀ m' : Str → Option Value, m' x = some v₁ → m' x₂ = some v₂ → m' x₃ = some v₃ → B i v m') :
    Takes prog w A h₀ L (.Tuple [.Name x px, .Name x₂ px₂, .Name x₃ px₃] tk tp) (compEnvC scope cl C env) I n P St S B := by
  intro i v nw m' s Q E hi hPv hst hn N hS k
  obtain ⟨t, v₁, v₂, v₃, nt, rfl, hm, hB⟩ := hP i v nw hi hPv hS
  obtain ⟨l, j, hLi⟩ := hLI _ _ hst
  have ht : IsTup s.heap t #[v₁, v₂, v₃] := ⟨_, (N _ hm).1, rfl, nt, rfl⟩
  refine wpAny_letOwnedTupleGo_listiter hLi ?_
  refine assign_Tuple_tuple hh ht rfl rfl fun h₅ he => ?_
  have he' : ∀ b o, s.heap.get? b = some o → h₅.get? b = some o := fun b o e => he b o (Nat.ne_of_lt (Heap.lt_size e)) e
  refine assignInOrder_cons (wpAny_assign_Name (wpAny_storeName_local (lookup_relabel_local hx) (hn.at' fun o e => he' _ o e) (fun h₆ hn₆ hs₆ => ?_) (by simp [compEnvC, relabel, hkind])))
  refine assignInOrder_cons (wpAny_assign_Name (wpAny_storeName_local (lookup_relabel_local hx₂) hn₆ (fun h₇ hn₇ hs₇ => ?_) (by simp [compEnvC, relabel, hkind])))
  refine assignInOrder_cons (wpAny_assign_Name (wpAny_storeName_local (lookup_relabel_local hx₃) hn₇ (fun h₃ hn₃ hs₃ => ?_) (by simp [compEnvC, relabel, hkind])))
  refine assignInOrder_nil ?_
  exact k h₃ _ _ hn₃ (hB _ (by simp [hxx, hxy]) (by simp [hxz]) (by simp)) fun b o hb e => hs₃.extBut b o hb (hs₇.extBut b o hb (hs₆.extBut b o hb (he' b o e)))

section
variable {news : List (Addr × Obj)} {s₁ : Shared}
theorem fresh_at (F : Fr h₀ L s₁.heap m) : h₀.get? s₁.heap.objs.size = none := next_is_new F
theorem src_list {ax : Addr} {its : Array Value} (hh : A.handled = none) (F : Fr h₀ L s₁.heap m) (N : News h₀ L s₁.heap news) (hl : SrcAt h₀ ax its news) :
    SrcG prog w A h₀ L m true its.size (fun i v => its[i]? = some v) (SrcAt h₀ ax its) news (.ref ax) s₁ := by
  intro Q E k
  have hl' := hl.list F.keep N
  have hlt : ax < s₁.heap.objs.size := by obtain ⟨_, e, _⟩ := hl'; exact Heap.lt_size e
  refine wpAny_pyIter_list hl' (k _ [s₁.heap.objs.size, ax] (fun i h => h.IsListIter s₁.heap.objs.size ax i ∧ h.IsList ax its) _ ?_)
  have up : ∀ b o, s₁.heap.get? b = some o → (s₁.heap.push { cls := .type "list_iterator", data := .fields #[.ref ax, .int 0 0] }).get? b = some o := fun b o e => Heap.get?_push_of_some _ e
  refine ⟨⟨_, rfl⟩, Walks.list hh s₁.heap.objs.size ax (Nat.ne_of_lt hlt) its, (fun i h st => by obtain ⟨o, e, _⟩ := st.1; exact ⟨o, e⟩), list_st, ⟨⟨_, Heap.get?_push_size _ rfl, rfl, rfl⟩, hl'.push _⟩, ?_, F.keeps up, N.grown up, Nat.ne_of_lt F.ns.lt, next_is_new F, (fun p hp => Nat.ne_of_lt (Heap.lt_size (N p hp).1)), fun _ i h st => ⟨_, _, st.1⟩⟩
  intro b hb
  show b < (s₁.heap.push _).objs.size
  rw [Heap.size_push]
  rcases List.mem_cons.mp hb with rfl | hb
  · exact Nat.lt_succ_self _
  · rw [List.mem_singleton.mp hb]; exact Nat.lt_succ_of_lt hlt
theorem src_range {r : Addr} {a b : Int} {t u v : Tok} {n : Nat} (hh : A.handled = none) (F : Fr h₀ L s₁.heap m) (N : News h₀ L s₁.heap news) (hr : IsRange s₁.heap r a b 1 t u v) (hsm : Builtin.Range.small a b 1 = true) (hn : Builtin.Range.rangeSize a b 1 = ((n : Nat) : Int)) :
    SrcG prog w A h₀ L m false n (fun i v => ∃ t, v = .int (a + (i : Int)) t) (fun _ => True) news (.ref r) s₁ := by
  intro Q E k
  refine wpAny_pyIter_range hr hsm (k _ [s₁.heap.objs.size] (fun i h => IsRangeIter h s₁.heap.objs.size (a + (i : Nat) * 1) ((n : Int) - (i : Nat)) 1) _ ?_)
  refine ⟨⟨_, rfl⟩, range_walks hh a n, (fun i h st => ⟨_, st⟩), range_st, (by show IsRangeIter _ _ _ _ _; rw [hn]; simpa using Heap.get?_push_size _ rfl), ?_, F.keeps fun _ _ e => Heap.get?_push_of_some _ e, N.grown fun _ _ e => Heap.get?_push_of_some _ e, Nat.ne_of_lt F.ns.lt, next_is_new F, (fun p hp => Nat.ne_of_lt (Heap.lt_size (N p hp).1)), fun e => nomatch e⟩
  intro b hb
  rw [List.mem_singleton.mp hb]
  show s₁.heap.objs.size < (s₁.heap.push _).objs.size
  rw [Heap.size_push]; exact Nat.lt_succ_self _
theorem src_tuple {ax : Addr} {its : List Value} {k : Nat} (hh : A.handled = none) (F : Fr h₀ L s₁.heap m) (N : News h₀ L s₁.heap news) (hm : (ax, ({ cls := .type "tuple", data := .seq its.toArray k } : Obj)) ∈ news) :
    SrcG prog w A h₀ L m false its.length (fun i v => its[i]? = some v) (fun nw => (ax, ({ cls := .type "tuple", data := .seq its.toArray k } : Obj)) ∈ nw) news (.ref ax) s₁ := by
  intro Q E q
  have hl' : s₁.heap.IsTuple ax its.toArray := ⟨_, (N _ hm).1, rfl, k, rfl⟩
  have hlt : ax < s₁.heap.objs.size := Heap.lt_size (N _ hm).1
  refine wpAny_pyIter_tuple hl' (q _ [s₁.heap.objs.size, ax] (fun i h => h.IsTupleIter s₁.heap.objs.size ax i ∧ h.IsTuple ax its.toArray) _ ?_)
  have up : ∀ b o, s₁.heap.get? b = some o → (s₁.heap.push { cls := .type "tuple_iterator", data := .fields #[.ref ax, .int 0 0] }).get? b = some o := fun b o e => Heap.get?_push_of_some _ e
  have W := Walks.tuple (prog := prog) (w := w) hh s₁.heap.objs.size ax (Nat.ne_of_lt hlt) its.toArray
  rw [List.size_toArray] at W
  have eP : (fun (i : Nat) (v : Value) => its.toArray[i]? = some v) = fun i v => its[i]? = some v := by funext i v; simp
  rw [eP] at W
  refine ⟨⟨_, rfl⟩, W, (fun i h st => by obtain ⟨o, e, _⟩ := st.1; exact ⟨o, e⟩), ?_, ⟨⟨_, Heap.get?_push_size _ rfl, rfl, rfl⟩, hl'.push _⟩, ?_, F.keeps up, N.grown up, Nat.ne_of_lt F.ns.lt, next_is_new F, (fun p hp => Nat.ne_of_lt (Heap.lt_size (N p hp).1)), fun e => nomatch e⟩
  · intro i h h' o nw st e e' kp N' hS
    refine ⟨by obtain ⟨o', q, r⟩ := st.1; rw [e] at q; cases q; exact ⟨o, e', r⟩, ⟨_, (N' _ hS).1, rfl, k, rfl⟩⟩
  intro b hb
  show b < (s₁.heap.push _).objs.size
  rw [Heap.size_push]
  rcases List.mem_cons.mp hb with rfl | hb
  · exact Nat.lt_succ_self _
  · rw [List.mem_singleton.mp hb]; exact Nat.lt_succ_of_lt hlt
theorem src_bytes {xs : List UInt8} {t : Tok} (hh : A.handled = none) (F : Fr h₀ L s₁.heap m) (N : News h₀ L s₁.heap news) :
    SrcG prog w A h₀ L m false xs.length (fun i v => ∃ c u, xs[i]? = some c ∧ v = .int ((c.toNat : Nat) : Int) u) (fun _ => True) news (.bytes xs.toArray t) s₁ := by
  intro Q E q
  refine KBw.pyIter_bytes (q _ [s₁.heap.objs.size] (fun i h => KBw.IsBytesIter h s₁.heap.objs.size xs.toArray t i) _ ?_)
  have up : ∀ (o : Obj) b o', s₁.heap.get? b = some o' → (s₁.heap.push o).get? b = some o' := fun o b o' e => Heap.get?_push_of_some _ e
  have W := KBw.walks (prog := prog) (w := w) hh s₁.heap.objs.size xs.toArray t
  rw [List.size_toArray] at W
  have eP : (fun (i : Nat) (v : Value) => ∃ c u, xs.toArray[i]? = some c ∧ v = .int (c.toNat : Int) u) = fun i v => ∃ c u, xs[i]? = some c ∧ v = .int ((c.toNat : Nat) : Int) u := by funext i v; simp
  rw [eP] at W
  refine ⟨⟨_, rfl⟩, W, (fun i h st => by obtain ⟨o, e, _⟩ := st; exact ⟨o, e⟩), ?_, ⟨_, Heap.get?_push_size _ rfl, rfl, rfl⟩, ?_, F.keeps (up _), N.grown (up _), Nat.ne_of_lt F.ns.lt, next_is_new F, (fun p hp => Nat.ne_of_lt (Heap.lt_size (N p hp).1)), fun e => nomatch e⟩
  · intro i h h' o nw st e e' kp N' hS
    obtain ⟨o', q, r⟩ := st
    rw [e] at q; cases q; exact ⟨o, e', r⟩
  intro b hb
  show b < (s₁.heap.push _).objs.size
  rw [Heap.size_push, List.mem_singleton.mp hb]
  exact Nat.lt_succ_self _
theorem src_str {x : Str} {t : Tok} (hh : A.handled = none) (F : Fr h₀ L s₁.heap m) (N : News h₀ L s₁.heap news) :
    SrcG prog w A h₀ L m false x.cps.size (SignAt x) (fun _ => True) news (.str x t) s₁ := by
  intro Q E q
  have up : ∀ (o : Obj) b o', s₁.heap.get? b = some o' → (s₁.heap.push o).get? b = some o' := fun o b o' e => Heap.get?_push_of_some _ e
  cases ha : x.cps.all (· < 128)
  · refine wpAny_pyIter_wide ha (q _ [s₁.heap.objs.size] (fun i h => h.IsStrIter s₁.heap.objs.size "str_iterator" x t i) _ ?_)
    refine ⟨⟨_, rfl⟩, Walks.strWide hh s₁.heap.objs.size x t, (fun i h st => by obtain ⟨o, e, _⟩ := st; exact ⟨o, e⟩), ?_, ⟨_, Heap.get?_push_size _ rfl, rfl, rfl⟩, ?_, F.keeps (up _), N.grown (up _), Nat.ne_of_lt F.ns.lt, next_is_new F, (fun p hp => Nat.ne_of_lt (Heap.lt_size (N p hp).1)), fun e => nomatch e⟩
    · intro i h h' o nw st e e' kp N' hS
      obtain ⟨o', q, r⟩ := st
      rw [e] at q; cases q; exact ⟨o, e', r⟩
    intro b hb
    show b < (s₁.heap.push _).objs.size
    rw [Heap.size_push, List.mem_singleton.mp hb]
    exact Nat.lt_succ_self _
  · refine wpAny_pyIter_ascii ha (q _ [s₁.heap.objs.size] (fun i h => h.IsStrIter s₁.heap.objs.size "str_ascii_iterator" x t i) _ ?_)
    refine ⟨⟨_, rfl⟩, Walks.strAscii hh s₁.heap.objs.size x t, (fun i h st => by obtain ⟨o, e, _⟩ := st; exact ⟨o, e⟩), ?_, ⟨_, Heap.get?_push_size _ rfl, rfl, rfl⟩, ?_, F.keeps (up _), N.grown (up _), Nat.ne_of_lt F.ns.lt, next_is_new F, (fun p hp => Nat.ne_of_lt (Heap.lt_size (N p hp).1)), fun e => nomatch e⟩
    · intro i h h' o nw st e e' kp N' hS
      obtain ⟨o', q, r⟩ := st
      rw [e] at q; cases q; exact ⟨o, e', r⟩
    intro b hb
    show b < (s₁.heap.push _).objs.size
    rw [Heap.size_push, List.mem_singleton.mp hb]
    exact Nat.lt_succ_self _
end

section
variable {news : List (Addr × Obj)} {s₁ : Shared}
theorem flat_end {I C D : Addr} {oI oC oD : Obj} {S : List (Addr × Obj) → Prop} {K : Value → Prop} {y : Value} {h : Heap} {tk : Nat} {all : List (Addr × Obj)}
    (F : Fr h₀ L h m) (N : News h₀ L h all) (sub : ∀ p ∈ (I, oI) :: (C, oC) :: (D, oD) :: news, p ∈ all) (off : Off3 I C D news) (hS : S news) (r : K y) :
    CompEnd h₀ L m s I oI C oC D oD S (fun y nw' => nw' = news ∧ K y) y { s with heap := h, toks := tk } := CompEnd.intro F N news sub off hS ⟨rfl, r⟩
/-- a comprehension over one name whose elements leave no objects behind -/
theorem go_flat {elt : PySem.Expr} {x : Str} {px : Pos} {ifs : List PySem.Expr} {scope : Scope} {cl : List (Str × Addr)} {Fin : Shared → Addr → Prop} {DD : Addr → Heap → Nat → (Str → Option Value) → Prop} {xv : Value}
    {isL : Bool} {n : Nat} {P : Nat → Value → Prop} {S : List (Addr × Obj) → Prop} (K : Nat → List Value → Prop) (hx : scope.names.lookup x = some .local) (hkind : scope.kind = .function)
    (src : SrcG prog w A h₀ L m isL n P S news xv s₁) (hsz : n ≤ sizeLine) (hS : S news) (h0 : K 0 [])
    (turn : ∀ i v ys I oI C oC D m₂ h tk (E' : Value → Shared → Prop), i < n → P i v → K i ys → ys.length ≤ i → NsObj oC m₂ → m₂ x = some v → Fr h₀ L h m → News h₀ L h ((I, oI) :: (C, oC) :: (D, lst ys) :: news) → Off3 I C D news → ((@Ne Nat I C) ∧ (@Ne Nat I D) ∧ (@Ne Nat C D)) →
      wpAny (model prog w) A (testsOf ifs (compEnvC scope cl C env)) (fun ok s' => if ok = true then
        wpAny (model prog w) A (eval elt (compEnvC scope cl C env)) (CompEnd h₀ L m { s₁ with heap := h, toks := tk } I oI C oC D (lst ys) S (fun y nw' => nw' = news ∧ K (i + 1) (ys ++ [y]))) E' s'
        else CompEnd h₀ L m { s₁ with heap := h, toks := tk } I oI C oC D (lst ys) S (fun _ nw' => nw' = news ∧ K (i + 1) ys) Value.none s') E' { s₁ with heap := h, toks := tk })
    (fin : ∀ a h tk ys m', DD a h tk m' → Fr h₀ L h m' → News h₀ L h ((a, lst ys) :: news) → Off1 a news → (∀ p ∈ news, p.1 < a) → K n ys → Fin { s₁ with heap := h, toks := tk } a) :
    CompGo prog w A h₀ L m env elt (.Name x px) ifs scope cl Fin DD xv s₁ := by
  refine ⟨isL, n, P, S, fun _ v m => m x = some v, fun i ys nw => nw = news ∧ K i ys, news, src, hsz, hS, ⟨rfl, h0⟩, fun C I St _ => takes_name hx hkind, ?_, ?_⟩
  · rintro i v ys nw I oI C oC D m₂ h tk E' hi hP ⟨rfl, hK⟩ _ hl hC hv F N off ne
    exact turn i v ys I oI C oC D m₂ h tk E' hi hP hK hl hC hv F N off ne
  · rintro a h tk ys nw m' hD F N o1 hlt ⟨rfl, hK⟩
    exact fin a h tk ys m' hD F N o1 hlt hK
theorem go_flat0 {elt : PySem.Expr} {x : Str} {px : Pos} {scope : Scope} {cl : List (Str × Addr)} {Fin : Shared → Addr → Prop} {DD : Addr → Heap → Nat → (Str → Option Value) → Prop} {xv : Value}
    {isL : Bool} {n : Nat} {P : Nat → Value → Prop} {S : List (Addr × Obj) → Prop} (K : Nat → List Value → Prop) (hx : scope.names.lookup x = some .local) (hkind : scope.kind = .function)
    (src : SrcG prog w A h₀ L m isL n P S news xv s₁) (hsz : n ≤ sizeLine) (hS : S news) (h0 : K 0 [])
    (turn : ∀ i v ys I oI C oC D m₂ h tk (E' : Value → Shared → Prop), i < n → P i v → K i ys → ys.length ≤ i → NsObj oC m₂ → m₂ x = some v → Fr h₀ L h m → News h₀ L h ((I, oI) :: (C, oC) :: (D, lst ys) :: news) → Off3 I C D news → ((@Ne Nat I C) ∧ (@Ne Nat I D) ∧ (@Ne Nat C D)) →
      wpAny (model prog w) A (eval elt (compEnvC scope cl C env)) (CompEnd h₀ L m { s₁ with heap := h, toks := tk } I oI C oC D (lst ys) S (fun y nw' => nw' = news ∧ K (i + 1) (ys ++ [y]))) E' { s₁ with heap := h, toks := tk })
    (fin : ∀ a h tk ys m', DD a h tk m' → Fr h₀ L h m' → News h₀ L h ((a, lst ys) :: news) → Off1 a news → (∀ p ∈ news, p.1 < a) → K n ys → Fin { s₁ with heap := h, toks := tk } a) :
    CompGo prog w A h₀ L m env elt (.Name x px) [] scope cl Fin DD xv s₁ :=
  go_flat K hx hkind src hsz hS h0 (fun i v ys I oI C oC D m₂ h tk E' hi hP hK hl hC hv F N off ne => wpAny_tests_nil (by simpa using turn i v ys I oI C oC D m₂ h tk E' hi hP hK hl hC hv F N off ne)) fin
end
end

end
section
section
variable {prog : Program} {w : World} {A : Around} {E : Value → Shared → Prop} {s : Shared} {env : Env} {h₀ : Heap} {x : Str} {body : List Stmt} {Q : Flow → Shared → Prop}
noncomputable def SrchEnd (h₀ : Heap) (L : Addr) (s₁ : Shared) (I : Addr) (it : Obj) (x : Str) (m₀ : Str → Option Value) (news : List (Addr × Obj)) (P : Prop) (s₂ : Shared) : Prop :=
  ∃ h' tk m', s₂ = { s₁ with heap := h', toks := tk } ∧ Fr h₀ L h' m' ∧ News h₀ L h' ((I, it) :: news) ∧ (∀ z, z ≠ x → m' z = m₀ z) ∧ P
noncomputable def SrchPost (h₀ : Heap) (L : Addr) (s₁ : Shared) (I : Addr) (it : Obj) (x : Str) (m₀ : Str → Option Value) (news : List (Addr × Obj)) (P : Prop) (Q : Flow → Shared → Prop) (f : Flow) (s₂ : Shared) : Prop :=
  match f with
  | .ret v => Q (.ret v) s₂
  | .brk => Q .next s₂
  | _ => SrchEnd h₀ L s₁ I it x m₀ news P s₂
/-- a search over a list that stands in the ledger -/
theorem list_search {ax : Addr} {lo : Obj} {vs : List Value} {n : Nat} {m₀ : Str → Option Value} {news : List (Addr × Obj)} (P : Value → Prop)
    (hh : A.handled = none) (F : Fr h₀ env.locals s.heap m₀) (N : News h₀ env.locals s.heap news) (hm : (ax, lo) ∈ news) (hc : lo.cls = .type "list") (hd : lo.data = .seq vs.toArray n)
    (turn : ∀ v I it h tk, v ∈ vs → (∀ p ∈ news, p.1 < I) → Fr h₀ env.locals h (fun y => if y = x then some v else m₀ y) → News h₀ env.locals h ((I, it) :: news) →
      wpAny (model prog w) A (execs body env) (SrchPost h₀ env.locals { s with heap := h, toks := tk } I it x m₀ news (P v) Q) E { s with heap := h, toks := tk })
    (done : ∀ (u : Str → Option Value) h tk, (∀ v ∈ vs, P v) → Fr h₀ env.locals h (fun z => if z = x then u z else m₀ z) → News h₀ env.locals h news → Q .next { s with heap := h, toks := tk }) :
    wpAny (model prog w) A (pyIter (.ref ax)) (fun it s₂ => LoopAtV prog w A h₀ env x body Q E it s₂) E s := by
  refine iter_listUnr hh F N hm hc hd fun I hI => ?_
  have go : ∀ (suf pre : List Value), vs = pre ++ suf → (∀ v ∈ pre, P v) → ∀ m : Str → Option Value, (∀ z, z ≠ x → m z = m₀ z) → ListRest prog w A E h₀ env x body Q s I (ax, lo) suf m news := by
    intro suf
    induction suf with
    | nil =>
      intro pre hv hp m hmm
      refine .zero fun h tk F' N' => ?_
      rw [List.append_nil] at hv
      refine done m h tk (hv ▸ hp) ?_ N'
      have e : (fun z => if z = x then m z else m₀ z) = m := by
        funext z
        by_cases hz : z = x
        · rw [if_pos hz]
        · rw [if_neg hz, hmm z hz]
      rw [e]; exact F'
    | cons v r ih =>
      intro pre hv hp m hmm
      refine .succ fun it h tk hic F' N' => ?_
      have e : (fun y => if y = x then some v else m y) = fun y => if y = x then some v else m₀ y := by
        funext y
        by_cases hy : y = x
        · rw [if_pos hy, if_pos hy]
        · rw [if_neg hy, if_neg hy, hmm y hy]
      rw [e] at F'
      refine wpAny_mono (turn v I it h tk (by rw [hv]; simp) hI F' N') (fun f s₂ q => ?_) fun _ _ e => e
      have fin : SrchEnd h₀ env.locals { s with heap := h, toks := tk } I it x m₀ news (P v) s₂ → UnrEnd h₀ env.locals { s with heap := h, toks := tk } I it (fun m' n' => (ax, lo) ∈ n' ∧ ListRest prog w A E h₀ env x body Q s I (ax, lo) r m' n') s₂ := by
        rintro ⟨h', tk', m', e, F2, N2, hz, hP⟩
        refine ⟨h', tk', m', news, e, F2, N2, fun p hp => Nat.ne_of_lt (hI p hp), hm, ih (pre ++ [v]) (by rw [hv]; simp) ?_ m' hz⟩
        intro v' hv'
        rcases List.mem_append.mp hv' with h1 | h1
        · exact hp v' h1
        · rw [List.mem_singleton.mp h1]; exact hP
      cases f with
      | ret v => exact q
      | brk => exact q
      | next => exact fin q
      | cont => exact fin q
  exact go vs [] rfl (fun _ h => nomatch h) m₀ fun _ _ => rfl
end

end
section
open Builtin KBy
inductive BytesAre : List Value → List (List UInt8) → Prop
  | nil : BytesAre [] []
  | cons {vs : List Value} {bs : List (List UInt8)} (b : List UInt8) (t : Tok) : BytesAre vs bs → BytesAre (.bytes b.toArray t :: vs) (b :: bs)
theorem BytesAre.snoc {b : List UInt8} {t : Tok} : ∀ {vs : List Value} {bs : List (List UInt8)}, BytesAre vs bs → BytesAre (vs ++ [.bytes b.toArray t]) (bs ++ [b])
  | _, _, .nil => .cons _ _ .nil
  | _, _, .cons b t r => .cons b t r.snoc
theorem BytesAre.length : ∀ {vs : List Value} {bs : List (List UInt8)}, BytesAre vs bs → vs.length = bs.length
  | _, _, .nil => rfl
  | _, _, .cons _ _ r => by rw [List.length_cons, List.length_cons, r.length]
theorem BytesAre.get : ∀ {vs : List Value} {bs : List (List UInt8)}, BytesAre vs bs → ∀ {i : Nat}, i < vs.length → ∃ b t, bs[i]? = some b ∧ vs[i]? = some (.bytes b.toArray t)
  | _, _, .nil, _, h => absurd h (Nat.not_lt_zero _)
  | _, _, .cons b t _, 0, _ => ⟨b, t, rfl, rfl⟩
  | _, _, .cons _ _ r, i + 1, h => by
    obtain ⟨b, t, h1, h2⟩ := r.get (Nat.lt_of_succ_lt_succ h)
    exact ⟨b, t, by rw [List.getElem?_cons_succ]; exact h1, by rw [List.getElem?_cons_succ]; exact h2⟩

theorem slot_join : Slot "bytes" "join" "bytes.join" :=
  .of (owner := "bytes") (n := "join") (by rw [typeLookup_type, builtinLookup_eq_fast]; kernel_rfl) (by decide +kernel) (by decide +kernel) (by decide +kernel)
    (by first | exact .inl (by decide +kernel) | exact .inr (by decide +kernel)) (by rw [isSubtype_type]; kernel_rfl)
theorem type_join : typeOf (.builtin "bytes.join") = pure (.type "method_descriptor") := by show builtinType _ = _; rw [builtinType_eq_fast]; kernel_rfl
theorem entry_join : entryFor table "bytes.join" = some Builtin.«bytes.join» := entryFor_of_tree (by kernel_rfl)
theorem args_join (a b : Value) : argsOk "bytes.join" ⟨[a, b], []⟩ := by
  unfold argsOk; rw [signature?_of (id := "bytes.join") (n := ['n', 'i', 'o', 'j']) (o := ['s', 'e', 't', 'y', 'b']) (by kernel_rfl) FB.owner_bytes]; kernel_rfl
theorem take_eq {id : String} {b : Array UInt8} {t : Tok} : Bytes.takeBuffer? id (.bytes b t) 0 = pure (some (b, none)) := by
  unfold Bytes.takeBuffer?
  rw [special_eq look_buffer, own_buffer]
  simp only [pure_bind]
  rw [show ((0 : Int) == Bytes.fullReadOnly) = false by decide, buffer_eq]
  rfl
theorem takeQ_eq {id : String} {b : Array UInt8} {t : Tok} : Bytes.takeBufferQuiet? id (.bytes b t) 0 = pure (some (b, none)) := by
  unfold Bytes.takeBufferQuiet?
  rw [take_eq]
  rfl
theorem joined_nil : ∀ (ps : List (Array UInt8)), (Bytes.joined #[] ps).toList = (ps.map Array.toList).flatten := by
  have go : ∀ (ps : List (Array UInt8)) (k : Nat) (acc : Array UInt8), ((ps.zipIdx k).foldl (fun out (x : Array UInt8 × Nat) => (if x.2 > 0 then out ++ #[] else out) ++ x.1) acc).toList = acc.toList ++ (ps.map Array.toList).flatten := by
    intro ps
    induction ps with
    | nil => intro k acc; simp
    | cons p r ih =>
      intro k acc
      rw [List.zipIdx_cons, List.foldl_cons, ih]
      by_cases h : k > 0
      · simp [h]
      · simp [h]
  intro ps
  have := go ps 0 #[]
  simpa [Bytes.joined] using this

theorem arr_id : ∀ (bs : List (List UInt8)), (bs.map List.toArray).map Array.toList = bs
  | [] => rfl
  | x :: r => by rw [List.map_cons, List.map_cons, arr_id r]
section
variable {M : Model} {A : Around} {E : Value → Shared → Prop} {s : Shared}
theorem letGo_ok {Q : Unit → Shared → Prop} : ∀ (taken : List (Value × Option Value)) (keep : List Value), (∀ p ∈ taken, p.2 = none) → Q () s → wpAny M A (Bytes.joinLetGo taken keep) Q E s
  | [], keep, _, h => by
    unfold Bytes.joinLetGo
    exact wpAny_pure h
  | (x, w) :: r, keep, hw, h => by
    have e : w = none := hw _ (.head _)
    subst e
    unfold Bytes.joinLetGo
    exact wpAny_bind (wpAny_letGo (letGo_ok r keep (fun p hp => hw p (.tail _ hp)) h))
theorem wp_join {D : Addr} {vs : List Value} {bs : List (List UInt8)} {t : Tok} {Q : Value → Shared → Prop} (hl : s.heap.IsList D vs.toArray) (hb : BytesAre vs bs) (hz : bs.flatten.length ≤ 16777216)
    (hq : ∀ t' k, Q (.bytes bs.flatten.toArray t') { s with toks := k }) : wpAny M A («bytes.join» ⟨[.bytes #[] t, .ref D], []⟩) (fun fin s' => ∃ v, fin = .done (.ret v) ∧ Q v s') E s := by
  obtain ⟨o, ho, hc, n, hd⟩ := hl
  have items : ∀ {R : Option (Array Value) → Shared → Prop}, R (some vs.toArray) s → wpAny M A (seqItems? (.ref D)) R E s := fun h => wpAny_seqItems ho hd h
  unfold «bytes.join» Bytes.joinM
  refine wpAny_bind (wpAny_of_eq (a := (Value.bytes #[] t, Value.ref D)) rfl ?_)
  dsimp only
  rw [if_pos (show (Bytes.Kind.bytes == Bytes.Kind.bytes) = true from rfl)]
  unfold Bytes.joinItems
  refine wpAny_bind (wpAny_bind (wpAny_typeOf (T := "list") ⟨o, ho, hc⟩ ?_))
  rw [if_pos (by decide)]
  refine wpAny_pure ?_
  refine wpAny_bind (items ?_)
  dsimp only
  rw [if_pos (show (Bytes.Kind.bytes == Bytes.Kind.bytes) = true from rfl)]
  have hcase : (∃ x, vs = [x]) ∨ vs = [] ∨ ∃ a b r, vs = a :: b :: r := by
    rcases vs with _ | ⟨x, _ | ⟨y, r⟩⟩
    · exact .inr (.inl rfl)
    · exact .inl ⟨x, rfl⟩
    · exact .inr (.inr ⟨x, y, r, rfl⟩)
  rcases hcase with ⟨x, rfl⟩ | h3
  · cases hb with
    | cons b u r =>
      cases r
      refine wpAny_bind (wpAny_typeOf (T := "bytes") rfl ?_)
      rw [if_pos (by decide)]
      refine wpAny_bind (wpAny_rule ?_)
      refine wpAny_pure ⟨_, rfl, ?_⟩
      have h9 := hq u s.toks
      rw [show [b].flatten = b by simp] at h9
      exact h9
  rcases h3 with rfl | ⟨a, b, r, rfl⟩
  all_goals refine (show wpAny M A (_ >>= _) _ E s from ?_)
  case inr.inl => generalize hvs : ([] : List Value) = vs at *; clear hvs; (
    rw [Std.Legacy.Range.forIn_eq_forIn_range']
    refine wpAny_bind (wpAny_mono (wpAny_forIn_list _ (fun l (st : Array (Array UInt8) × List (Value × Option Value)) s' => s' = s ∧ ∃ k, k ≤ vs.length ∧ l = List.range' k (vs.length - k) 1 ∧ st.1.toList = (bs.take k).map List.toArray ∧ st.2 = (vs.take k).map (fun v => (v, none)))
      (fun st s' => s' = s ∧ st.1.toList = bs.map List.toArray ∧ ∀ p ∈ st.2, p.2 = none) ?_ ?_ _ _ ⟨rfl, 0, Nat.zero_le _, by simp [Std.Legacy.Range.size], by simp, by simp⟩) ?_ fun _ _ h => h)
    · rintro i rest ⟨ps, tk⟩ s' ⟨rfl, k, hk, hi, hp, ht⟩
      dsimp only at hp ht
      have hkl : k < vs.length := by
        have := congrArg List.length hi
        simp at this
        omega
      rw [show vs.length - k = (vs.length - (k + 1)) + 1 by omega, List.range'_succ] at hi
      obtain ⟨rfl, rfl⟩ := List.cons.inj hi
      obtain ⟨b, t2, hb1, hv1⟩ := hb.get hkl
      refine wpAny_bind (items ?_)
      dsimp only
      have hany : (tk.any fun x => x.1.onHeap) = false := by
        rw [ht, List.any_eq_false]
        intro p hp9
        obtain ⟨v, hv, rfl⟩ := List.mem_map.mp hp9
        obtain ⟨j, hj⟩ := List.mem_iff_getElem?.mp hv
        have hj2 : vs[j]? = some v := by
          rw [List.getElem?_take] at hj
          split at hj
          · exact hj
          · cases hj
        have hjl : j < vs.length := by
          obtain ⟨h9, _⟩ := List.getElem?_eq_some_iff.mp hj2
          exact h9
        obtain ⟨b3, t3, _, hv3⟩ := hb.get hjl
        rw [hj2] at hv3
        cases hv3
        exact Bool.false_ne_true
      have hnow : vs.toArray.getD i Value.none = .bytes b.toArray t2 := by
        simp [Array.getD, hkl]
        simpa [List.getElem?_eq_getElem hkl] using hv1
      rw [hany, hnow, if_neg (by decide)]
      refine wpAny_bind (wpAny_holding (wpAny_of_eq takeQ_eq ?_))
      dsimp only
      refine wpAny_bind (items ?_)
      dsimp only
      rw [if_neg (by simp)]
      refine wpAny_pure ?_
      refine ⟨rfl, i + 1, hkl, rfl, ?_, ?_⟩
      · dsimp only
        rw [Array.toList_push, hp, List.take_add_one, hb1]
        simp
      · dsimp only
        rw [ht, List.take_add_one, hv1]
        simp
    · rintro ⟨ps, tk⟩ s' ⟨rfl, k, hk, hi, hp, ht⟩
      dsimp only at hp ht
      have hk' : k = vs.length := by
        have := congrArg List.length hi
        simp at this
        omega
      refine ⟨rfl, ?_, ?_⟩
      · rw [hp, hk', hb.length, List.take_length]
      · intro p hp
        dsimp only at hp
        rw [ht] at hp
        obtain ⟨v, _, rfl⟩ := List.mem_map.mp hp
        rfl
    · rintro ⟨ps, tk⟩ s' ⟨rfl, hp, ht⟩
      dsimp only at hp ht ⊢
      have hj : Bytes.joined #[] ps.toList = bs.flatten.toArray := by
        apply Array.toList_inj.mp
        rw [joined_nil, hp, arr_id]
      have hsum : ∀ (l : List (Array UInt8)) (a : Nat), l.foldl (fun x1 x2 => x1 + x2.size) a = a + (l.map Array.toList).flatten.length := by
        intro l
        induction l with
        | nil => intro a; simp
        | cons x r ih => intro a; rw [List.foldl_cons, ih]; simp; omega
      refine wpAny_bind (wpAny_of_eq (a := #[]) rfl ?_)
      rw [show Bytes.tooLong (Array.foldl (fun x1 x2 => x1 + x2.size) ((#[] : Array UInt8).size * (ps.size - 1)) ps) = false by
        refine KBy.tooLong_not ?_
        rw [← Array.foldl_toList, hsum, hp, arr_id]
        simp
        simpa using hz]
      rw [if_neg (by decide), hj]
      have hsz : bs.flatten.toArray.size ≤ 16777216 := by rw [List.size_toArray]; exact hz
      refine wpAny_bind ?_
      show wpAny M A (mkBytes _) _ E _
      refine wpAny_mkBytes ?_ ?_
      · refine wpAny_bind (wpAny_holding (wpAny_point ?_))
        refine wpAny_bind (letGo_ok _ _ ht ?_)
        exact wpAny_pure ⟨_, rfl, hq _ _⟩
      · rw [sizeLine_eq]; exact hsz)
  case inr.inr => generalize hvs : (a :: b :: r : List Value) = vs at *; clear hvs; (
    rw [Std.Legacy.Range.forIn_eq_forIn_range']
    refine wpAny_bind (wpAny_mono (wpAny_forIn_list _ (fun l (st : Array (Array UInt8) × List (Value × Option Value)) s' => s' = s ∧ ∃ k, k ≤ vs.length ∧ l = List.range' k (vs.length - k) 1 ∧ st.1.toList = (bs.take k).map List.toArray ∧ st.2 = (vs.take k).map (fun v => (v, none)))
      (fun st s' => s' = s ∧ st.1.toList = bs.map List.toArray ∧ ∀ p ∈ st.2, p.2 = none) ?_ ?_ _ _ ⟨rfl, 0, Nat.zero_le _, by simp [Std.Legacy.Range.size], by simp, by simp⟩) ?_ fun _ _ h => h)
    · rintro i rest ⟨ps, tk⟩ s' ⟨rfl, k, hk, hi, hp, ht⟩
      dsimp only at hp ht
      have hkl : k < vs.length := by
        have := congrArg List.length hi
        simp at this
        omega
      rw [show vs.length - k = (vs.length - (k + 1)) + 1 by omega, List.range'_succ] at hi
      obtain ⟨rfl, rfl⟩ := List.cons.inj hi
      obtain ⟨b, t2, hb1, hv1⟩ := hb.get hkl
      refine wpAny_bind (items ?_)
      dsimp only
      have hany : (tk.any fun x => x.1.onHeap) = false := by
        rw [ht, List.any_eq_false]
        intro p hp9
        obtain ⟨v, hv, rfl⟩ := List.mem_map.mp hp9
        obtain ⟨j, hj⟩ := List.mem_iff_getElem?.mp hv
        have hj2 : vs[j]? = some v := by
          rw [List.getElem?_take] at hj
          split at hj
          · exact hj
          · cases hj
        have hjl : j < vs.length := by
          obtain ⟨h9, _⟩ := List.getElem?_eq_some_iff.mp hj2
          exact h9
        obtain ⟨b3, t3, _, hv3⟩ := hb.get hjl
        rw [hj2] at hv3
        cases hv3
        exact Bool.false_ne_true
      have hnow : vs.toArray.getD i Value.none = .bytes b.toArray t2 := by
        simp [Array.getD, hkl]
        simpa [List.getElem?_eq_getElem hkl] using hv1
      rw [hany, hnow, if_neg (by decide)]
      refine wpAny_bind (wpAny_holding (wpAny_of_eq takeQ_eq ?_))
      dsimp only
      refine wpAny_bind (items ?_)
      dsimp only
      rw [if_neg (by simp)]
      refine wpAny_pure ?_
      refine ⟨rfl, i + 1, hkl, rfl, ?_, ?_⟩
      · dsimp only
        rw [Array.toList_push, hp, List.take_add_one, hb1]
        simp
      · dsimp only
        rw [ht, List.take_add_one, hv1]
        simp
    · rintro ⟨ps, tk⟩ s' ⟨rfl, k, hk, hi, hp, ht⟩
      dsimp only at hp ht
      have hk' : k = vs.length := by
        have := congrArg List.length hi
        simp at this
        omega
      refine ⟨rfl, ?_, ?_⟩
      · rw [hp, hk', hb.length, List.take_length]
      · intro p hp
        dsimp only at hp
        rw [ht] at hp
        obtain ⟨v, _, rfl⟩ := List.mem_map.mp hp
        rfl
    · rintro ⟨ps, tk⟩ s' ⟨rfl, hp, ht⟩
      dsimp only at hp ht ⊢
      have hj : Bytes.joined #[] ps.toList = bs.flatten.toArray := by
        apply Array.toList_inj.mp
        rw [joined_nil, hp, arr_id]
      have hsum : ∀ (l : List (Array UInt8)) (a : Nat), l.foldl (fun x1 x2 => x1 + x2.size) a = a + (l.map Array.toList).flatten.length := by
        intro l
        induction l with
        | nil => intro a; simp
        | cons x r ih => intro a; rw [List.foldl_cons, ih]; simp; omega
      refine wpAny_bind (wpAny_of_eq (a := #[]) rfl ?_)
      rw [show Bytes.tooLong (Array.foldl (fun x1 x2 => x1 + x2.size) ((#[] : Array UInt8).size * (ps.size - 1)) ps) = false by
        refine KBy.tooLong_not ?_
        rw [← Array.foldl_toList, hsum, hp, arr_id]
        simp
        simpa using hz]
      rw [if_neg (by decide), hj]
      have hsz : bs.flatten.toArray.size ≤ 16777216 := by rw [List.size_toArray]; exact hz
      refine wpAny_bind ?_
      show wpAny M A (mkBytes _) _ E _
      refine wpAny_mkBytes ?_ ?_
      · refine wpAny_bind (wpAny_holding (wpAny_point ?_))
        refine wpAny_bind (letGo_ok _ _ ht ?_)
        exact wpAny_pure ⟨_, rfl, hq _ _⟩
      · rw [sizeLine_eq]; exact hsz)
end
section
variable {prog : Program} {w : World} {A : Around} {E : Value → Shared → Prop} {s : Shared}
theorem join_K {D : Addr} {vs : List Value} {bs : List (List UInt8)} {t : Tok} {Q : Value → Shared → Prop} (hl : s.heap.IsList D vs.toArray) (hb : BytesAre vs bs) (hz : bs.flatten.length ≤ 16777216)
    (hq : ∀ t' k, Q (.bytes bs.flatten.toArray t') { s with toks := k }) : wpAny (model prog w) A (call (.builtin "bytes.join") [.bytes #[] t, .ref D]) Q E s :=
  call_meets slot_join (typeIs_bytes _ _ _) entry_join (args_join _ _)
    (S := fun A R s' => s'.heap.IsList D vs.toArray ∧ ∀ t' k, R (.ok (.ret (.bytes bs.flatten.toArray t'))) { s' with toks := k })
    (Meets.of_wp fun prog w A R s' h => wp_join h.1 hb hz h.2) ⟨hl, hq⟩
theorem meth_join {M : Model} {b : Array UInt8} {t : Tok} {pl : Sem Bool} {Q : Value × List Value → Shared → Prop} (h : Q (.builtin "bytes.join", [.bytes b t]) s) : wpAny M A (getMethod (.bytes b t) "join" pl) Q E s := by
  with_reducible exact KBd.method_of (.bytes b t) (typeIs_bytes _ _ _) slot_join type_join KBd.noRef h
end

end
section
open LCg
section
variable {prog : Program} {w : World} {A : Around} {E : Value → Shared → Prop} {s : Shared} {h₀ : Heap} {L : Addr} {m : Str → Option Value} {env : Env} {news : List (Addr × Obj)} {s₁ : Shared}
theorem SrcG.more {isL : Bool} {n : Nat} {P : Nat → Value → Prop} {S S' : List (Addr × Obj) → Prop} {xv : Value} (h : SrcG prog w A h₀ L m isL n P S news xv s₁) (hs : ∀ nw, S' nw → S nw) : SrcG prog w A h₀ L m isL n P S' news xv s₁ := by
  intro Q E k
  refine h Q E fun I fp St s₂ it => k I fp St s₂ ?_
  exact ⟨it.same, it.W, it.hIo, fun i h h' o nw a b c d e f => it.hSt i h h' o nw a b c d e (hs nw f), it.hst, it.hfp, it.F, it.N, it.hIL, it.hI₀, it.off, it.isLI⟩
/-- a comprehension that unpacks three, over tuples of the ledger, whose elements leave no objects behind -/
theorem go_flat3 {elt : PySem.Expr} {x x₂ x₃ : Str} {px px₂ px₃ tp : Pos} {tk : Nat} {ifs : List PySem.Expr} {scope : Scope} {cl : List (Str × Addr)} {Fin : Shared → Addr → Prop} {DD : Addr → Heap → Nat → (Str → Option Value) → Prop} {xv : Value}
    {n : Nat} {P : Nat → Value → Prop} {S : List (Addr × Obj) → Prop} (K : Nat → List Value → Prop) (V : Nat → Value → Value → Value → Prop) (hx : scope.names.lookup x = some .local) (hx₂ : scope.names.lookup x₂ = some .local) (hx₃ : scope.names.lookup x₃ = some .local)
    (hxx : x ≠ x₂) (hxy : x ≠ x₃) (hxz : x₂ ≠ x₃) (hkind : scope.kind = .function) (hh : A.handled = none)
    (src : SrcG prog w A h₀ L m true n P S news xv s₁) (hsz : n ≤ sizeLine) (hS : S news) (h0 : K 0 [])
    (hP : ∀ i v, i < n → P i v → ∃ t v₁ v₂ v₃ nt, v = .ref t ∧ (t, ({ cls := .type "tuple", data := .seq #[v₁, v₂, v₃] nt } : Obj)) ∈ news ∧ V i v₁ v₂ v₃)
    (turn : ∀ i v₁ v₂ v₃ ys I oI C oC D m₂ h tk (E' : Value → Shared → Prop), i < n → V i v₁ v₂ v₃ → K i ys → ys.length ≤ i → NsObj oC m₂ → m₂ x = some v₁ → m₂ x₂ = some v₂ → m₂ x₃ = some v₃ → Fr h₀ L h m → News h₀ L h ((I, oI) :: (C, oC) :: (D, lst ys) :: news) → Off3 I C D news → ((@Ne Nat I C) ∧ (@Ne Nat I D) ∧ (@Ne Nat C D)) →
      wpAny (model prog w) A (testsOf ifs (compEnvC scope cl C env)) (fun ok s' => if ok = true then
        wpAny (model prog w) A (eval elt (compEnvC scope cl C env)) (CompEnd h₀ L m { s₁ with heap := h, toks := tk } I oI C oC D (lst ys) (fun nw => S nw ∧ ∀ p ∈ news, p ∈ nw) (fun y nw' => nw' = news ∧ K (i + 1) (ys ++ [y]))) E' s'
        else CompEnd h₀ L m { s₁ with heap := h, toks := tk } I oI C oC D (lst ys) (fun nw => S nw ∧ ∀ p ∈ news, p ∈ nw) (fun _ nw' => nw' = news ∧ K (i + 1) ys) Value.none s') E' { s₁ with heap := h, toks := tk })
    (fin : ∀ a h tk ys m', DD a h tk m' → Fr h₀ L h m' → News h₀ L h ((a, lst ys) :: news) → Off1 a news → (∀ p ∈ news, p.1 < a) → K n ys → Fin { s₁ with heap := h, toks := tk } a) :
    CompGo prog w A h₀ L m env elt (.Tuple [.Name x px, .Name x₂ px₂, .Name x₃ px₃] tk tp) ifs scope cl Fin DD xv s₁ := by
  refine ⟨true, n, P, fun nw => S nw ∧ ∀ p ∈ news, p ∈ nw,
    fun i _ m => ∃ v₁ v₂ v₃, V i v₁ v₂ v₃ ∧ m x = some v₁ ∧ m x₂ = some v₂ ∧ m x₃ = some v₃, fun i ys nw => nw = news ∧ K i ys, news, src.more fun _ h => h.1, hsz, ⟨hS, fun _ h => h⟩, ⟨rfl, h0⟩, ?_, ?_, ?_⟩
  · intro C I St hLI
    refine takes_three hx hx₂ hx₃ hxx hxy hxz hkind hh (hLI rfl) ?_
    intro i v nw hi hPv hSn
    obtain ⟨t, v₁, v₂, v₃, nt, rfl, hm, hV⟩ := hP i v hi hPv
    exact ⟨t, v₁, v₂, v₃, nt, rfl, hSn.2 _ hm, fun m' h1 h2 h3 => ⟨v₁, v₂, v₃, hV, h1, h2, h3⟩⟩
  · rintro i v ys nw I oI C oC D m₂ h tk E' hi hPv ⟨rfl, hK⟩ _ hl hC ⟨v₁, v₂, v₃, hV, h1, h2, h3⟩ F N off ne
    exact turn i v₁ v₂ v₃ ys I oI C oC D m₂ h tk E' hi hV hK hl hC h1 h2 h3 F N off ne
  · rintro a h tk ys nw m' hD F N o1 hlt ⟨rfl, hK⟩
    exact fin a h tk ys m' hD F N o1 hlt hK
/-- .. that unpacks two -/
theorem go_flat2 {elt : PySem.Expr} {x x₂ : Str} {px px₂ tp : Pos} {tk : Nat} {ifs : List PySem.Expr} {scope : Scope} {cl : List (Str × Addr)} {Fin : Shared → Addr → Prop} {DD : Addr → Heap → Nat → (Str → Option Value) → Prop} {xv : Value}
    {n : Nat} {P : Nat → Value → Prop} {S : List (Addr × Obj) → Prop} (K : Nat → List Value → Prop) (V : Nat → Value → Value → Prop) (hx : scope.names.lookup x = some .local) (hx₂ : scope.names.lookup x₂ = some .local)
    (hxx : x ≠ x₂) (hkind : scope.kind = .function) (hh : A.handled = none)
    (src : SrcG prog w A h₀ L m true n P S news xv s₁) (hsz : n ≤ sizeLine) (hS : S news) (h0 : K 0 [])
    (hP : ∀ i v, i < n → P i v → ∃ t v₁ v₂ nt, v = .ref t ∧ (t, ({ cls := .type "tuple", data := .seq #[v₁, v₂] nt } : Obj)) ∈ news ∧ V i v₁ v₂)
    (turn : ∀ i v₁ v₂ ys I oI C oC D m₂ h tk (E' : Value → Shared → Prop), i < n → V i v₁ v₂ → K i ys → ys.length ≤ i → NsObj oC m₂ → m₂ x = some v₁ → m₂ x₂ = some v₂ → Fr h₀ L h m → News h₀ L h ((I, oI) :: (C, oC) :: (D, lst ys) :: news) → Off3 I C D news → ((@Ne Nat I C) ∧ (@Ne Nat I D) ∧ (@Ne Nat C D)) →
      wpAny (model prog w) A (testsOf ifs (compEnvC scope cl C env)) (fun ok s' => if ok = true then
        wpAny (model prog w) A (eval elt (compEnvC scope cl C env)) (CompEnd h₀ L m { s₁ with heap := h, toks := tk } I oI C oC D (lst ys) (fun nw => S nw ∧ ∀ p ∈ news, p ∈ nw) (fun y nw' => nw' = news ∧ K (i + 1) (ys ++ [y]))) E' s'
        else CompEnd h₀ L m { s₁ with heap := h, toks := tk } I oI C oC D (lst ys) (fun nw => S nw ∧ ∀ p ∈ news, p ∈ nw) (fun _ nw' => nw' = news ∧ K (i + 1) ys) Value.none s') E' { s₁ with heap := h, toks := tk })
    (fin : ∀ a h tk ys m', DD a h tk m' → Fr h₀ L h m' → News h₀ L h ((a, lst ys) :: news) → Off1 a news → (∀ p ∈ news, p.1 < a) → K n ys → Fin { s₁ with heap := h, toks := tk } a) :
    CompGo prog w A h₀ L m env elt (.Tuple [.Name x px, .Name x₂ px₂] tk tp) ifs scope cl Fin DD xv s₁ := by
  refine ⟨true, n, P, fun nw => S nw ∧ ∀ p ∈ news, p ∈ nw,
    fun i _ m => ∃ v₁ v₂, V i v₁ v₂ ∧ m x = some v₁ ∧ m x₂ = some v₂, fun i ys nw => nw = news ∧ K i ys, news, src.more fun _ h => h.1, hsz, ⟨hS, fun _ h => h⟩, ⟨rfl, h0⟩, ?_, ?_, ?_⟩
  · intro C I St hLI
    refine takes_two hx hx₂ hxx hkind hh (hLI rfl) ?_
    intro i v nw hi hPv hSn
    obtain ⟨t, v₁, v₂, nt, rfl, hm, hV⟩ := hP i v hi hPv
    exact ⟨t, v₁, v₂, nt, rfl, hSn.2 _ hm, fun m' h1 h2 => ⟨v₁, v₂, hV, h1, h2⟩⟩
  · rintro i v ys nw I oI C oC D m₂ h tk E' hi hPv ⟨rfl, hK⟩ _ hl hC ⟨v₁, v₂, hV, h1, h2⟩ F N off ne
    exact turn i v₁ v₂ ys I oI C oC D m₂ h tk E' hi hV hK hl hC h1 h2 F N off ne
  · rintro a h tk ys nw m' hD F N o1 hlt ⟨rfl, hK⟩
    exact fin a h tk ys m' hD F N o1 hlt hK
/-- a comprehension over one name whose ledger grows -/
theorem go_led {elt : PySem.Expr} {x : Str} {px : Pos} {scope : Scope} {cl : List (Str × Addr)} {Fin : Shared → Addr → Prop} {DD : Addr → Heap → Nat → (Str → Option Value) → Prop} {xv : Value} {isL : Bool} {n : Nat} {P : Nat → Value → Prop} (J : Nat → List Value → List (Addr × Obj) → Prop)
    (hx : scope.names.lookup x = some .local) (hkind : scope.kind = .function) (src : SrcG prog w A h₀ L m isL n P (fun _ => True) news xv s₁) (hsz : n ≤ sizeLine) (h0 : J 0 [] news)
    (turn : ∀ i v ys nw I oI C oC D m₂ h tk (E' : Value → Shared → Prop), i < n → P i v → J i ys nw → ys.length ≤ i → NsObj oC m₂ → m₂ x = some v → Fr h₀ L h m → News h₀ L h ((I, oI) :: (C, oC) :: (D, lst ys) :: nw) → Off3 I C D nw → ((@Ne Nat I C) ∧ (@Ne Nat I D) ∧ (@Ne Nat C D)) →
      wpAny (model prog w) A (eval elt (compEnvC scope cl C env)) (CompEnd h₀ L m { s₁ with heap := h, toks := tk } I oI C oC D (lst ys) (fun _ => True) (fun y nw' => J (i + 1) (ys ++ [y]) nw')) E' { s₁ with heap := h, toks := tk })
    (fin : ∀ a h tk ys nw m', DD a h tk m' → Fr h₀ L h m' → News h₀ L h ((a, lst ys) :: nw) → Off1 a nw → (∀ p ∈ news, p.1 < a) → J n ys nw → Fin { s₁ with heap := h, toks := tk } a) :
    CompGo prog w A h₀ L m env elt (.Name x px) [] scope cl Fin DD xv s₁ := by
  refine ⟨isL, n, P, fun _ => True, fun _ v m => m x = some v, J, news, src, hsz, trivial, h0, fun C I St _ => takes_name hx hkind, ?_, fin⟩
  intro i v ys nw I oI C oC D m₂ h tk E' hi hP hJ _ hl hC hv F N off ne
  exact wpAny_tests_nil (by simpa using turn i v ys nw I oI C oC D m₂ h tk E' hi hP hJ hl hC hv F N off ne)
theorem comp_assignF {elt target iter : PySem.Expr} {ifs : List PySem.Expr} {y : Str} {py : Pos} {scope : Scope} {cl : List (Str × Addr)} {pos spos : Pos} {Q : Flow → Shared → Prop} (_F : Fr h₀ L s.heap m) (hLe : env.locals = L)
    (hsw : swapsWith (.ListComp elt [⟨target, iter, ifs, 0⟩] scope pos) (some (.Name y py)) spos.line env = pure true)
    (hclos : closureFor scope env = pure cl) (hcell : ∀ z ∈ scope.names, z.2 ≠ .cell) (hkind : scope.kind = .function)
    (hnames : ∀ z ∈ scope.names, z.2 = .local → scope.names.lookup z.1 = some .local)
    (hy : env.kindOf y = some .local) (hp : (env.scope.kind == .class || (env.scope.kind == .module && env.locals != env.globals)) = false)
    (h : wpAny (model prog w) A (eval iter env) (CompGo prog w A h₀ L m env elt target ifs scope cl (fun s' _ => Q .next s') (fun a _ _ m' => m' = fun z => if z = y then some (.ref a) else m z)) E s)
    (hs : ∀ x, foldedSetIterable iter env x = pure x := by intro _; rfl) :
    wpAny (model prog w) A (exec (.Assign [.Name y py] (.ListComp elt [⟨target, iter, ifs, 0⟩] scope pos) spos) env) Q E s := comp_assign hLe hsw hclos hcell hkind hnames hy hp h hs
theorem ne_nil_list {a b : Addr} {vs : List Value} {Q : Value → Shared → Prop} (hl : s.heap.IsList a vs.toArray) (hb : s.heap.IsList b #[]) (hu : A.units < cLine) (h : Q (.bool (decide (vs ≠ []))) s) :
    wpAny (model prog w) A (compareOp .NotEq (.ref a) (.ref b)) Q E s := by
  cases vs with
  | nil => exact EqBoolInt.of_rcne (SeqAt.RcNeAt.lists (e := fun _ => true) hl hb rfl hu (fun j h1 => absurd h1 (Nat.not_lt_zero _))) h
  | cons v r => exact EqBoolInt.of_rcne (SeqAt.RcNeAt.lists_lengths hl hb (by simp) hu) h
theorem ne_nil_tt {a b : Addr} {vs : List Value} {Q : Value → Shared → Prop} (hl : s.heap.IsList a vs.toArray) (hb : s.heap.IsList b #[]) (hu : A.units < cLine) (hne : vs ≠ []) (h : Q (.bool true) s) :
    wpAny (model prog w) A (compareOp .NotEq (.ref a) (.ref b)) Q E s := ne_nil_list hl hb hu (by rw [decide_eq_true hne]; exact h)
theorem ne_nil_ff {a b : Addr} {Q : Value → Shared → Prop} (hl : s.heap.IsList a #[]) (hb : s.heap.IsList b #[]) (hu : A.units < cLine) (h : Q (.bool false) s) :
    wpAny (model prog w) A (compareOp .NotEq (.ref a) (.ref b)) Q E s := ne_nil_list (vs := []) hl hb hu h
theorem last_index (n : Nat) (h : 0 < n) : seqIndex? (-1) n = some (n - 1) := by
  unfold seqIndex?
  simp only [if_pos (show (-1 : Int) < 0 by decide)]
  rw [if_pos (by simp; omega)]
  congr 1
  omega
end

end
section
section
variable {prog : Program} {w : World} {A : Around} {E : Value → Shared → Prop} {s : Shared} {env : Env} {h₀ : Heap} {x : Str} {body : List Stmt} {Q : Flow → Shared → Prop}
/-- a loop over a range by an invariant over the turn's number, the frame and the ledger -/
theorem range_inv {r : Addr} {a₀ b₀ : Int} {t₀ u₀ v₀ : Tok} {n : Nat} {m₀ : Str → Option Value} {news : List (Addr × Obj)} (J : Nat → (Str → Option Value) → List (Addr × Obj) → Prop)
    (hh : A.handled = none) (hr : IsRange s.heap r a₀ b₀ 1 t₀ u₀ v₀) (hsmall : Builtin.Range.small a₀ b₀ 1 = true) (hn : Builtin.Range.rangeSize a₀ b₀ 1 = (n : Int)) (F : Fr h₀ env.locals s.heap m₀) (N : News h₀ env.locals s.heap news)
    (h0 : J 0 m₀ news)
    (turn : ∀ i m₁ nx I it t h tk, i < n → (∀ p ∈ news, p.1 < I) → (∀ p ∈ nx, p.1 ≠ I) → J i m₁ nx → Fr h₀ env.locals h (fun y => if y = x then some (.int (a₀ + (i : Int)) t) else m₁ y) → News h₀ env.locals h ((I, it) :: nx) →
      wpAny (model prog w) A (execs body env) (UnrPost h₀ env.locals { s with heap := h, toks := tk } I it (J (i + 1)) Q) E { s with heap := h, toks := tk })
    (done : ∀ m₁ nx h tk, J n m₁ nx → Fr h₀ env.locals h m₁ → News h₀ env.locals h nx → Q .next { s with heap := h, toks := tk }) :
    wpAny (model prog w) A (pyIter (.ref r)) (fun it s₂ => LoopAtV prog w A h₀ env x body Q E it s₂) E s := by
  refine iter_rangeUnr hh hr hsmall hn F N fun I hI => ?_
  have go : ∀ (k i : Nat) (m : Str → Option Value) (nx : List (Addr × Obj)), i + k = n → (∀ p ∈ nx, p.1 ≠ I) → J i m nx → RangeRest prog w A E h₀ env x body Q s I a₀ n k i m nx := by
    intro k
    induction k with
    | zero =>
      intro i m nx hi _ hJ
      have : i = n := by omega
      subst this
      exact .zero fun h tk F' N' => done m nx h tk hJ F' N'
    | succ k ih =>
      intro i m nx hi hoff hJ
      refine .succ fun t h tk F' N' => ?_
      refine wpAny_mono (turn i m nx I _ t h tk (by omega) hI hoff hJ F' N') (fun f s₂ q => ?_) fun _ _ e => e
      cases f with
      | ret v => exact q
      | brk => exact q
      | next =>
        obtain ⟨h', tk', m', nx', e, F2, N2, off2, hJ2⟩ := q
        exact ⟨h', tk', m', nx', e, F2, N2, off2, ih (i + 1) m' nx' (by omega) off2 hJ2⟩
      | cont =>
        obtain ⟨h', tk', m', nx', e, F2, N2, off2, hJ2⟩ := q
        exact ⟨h', tk', m', nx', e, F2, N2, off2, ih (i + 1) m' nx' (by omega) off2 hJ2⟩
  exact go n 0 m₀ news (by omega) (fun p hp => Nat.ne_of_lt (hI p hp)) h0
end
noncomputable def RAccEnd (h₀ : Heap) (L : Addr) (s₁ : Shared) (I : Addr) (it : Obj) (x y : Str) (m₀ : Str → Option Value) (V : Value → List (Addr × Obj) → Prop) (s₂ : Shared) : Prop :=
  ∃ h' tk m' v' nx', s₂ = { s₁ with heap := h', toks := tk } ∧ Fr h₀ L h' m' ∧ News h₀ L h' ((I, it) :: nx') ∧ (∀ p ∈ nx', p.1 ≠ I) ∧ m' y = some v' ∧ V v' nx' ∧ ∀ z, z ≠ x → z ≠ y → m' z = m₀ z
noncomputable def RAccPost (h₀ : Heap) (L : Addr) (s₁ : Shared) (I : Addr) (it : Obj) (x y : Str) (m₀ : Str → Option Value) (V : Value → List (Addr × Obj) → Prop) (Q : Flow → Shared → Prop) (f : Flow) (s₂ : Shared) : Prop :=
  match f with
  | .ret v => Q (.ret v) s₂
  | .brk => Q .next s₂
  | _ => RAccEnd h₀ L s₁ I it x y m₀ V s₂
/-- .. that turns one name, and the ledger -/
theorem range_acc {prog : Program} {w : World} {A : Around} {E : Value → Shared → Prop} {s : Shared} {env : Env} {h₀ : Heap} {x : Str} {body : List Stmt} {Q : Flow → Shared → Prop} {r : Addr} {a₀ b₀ : Int} {t₀ u₀ v₀ : Tok} {n : Nat} {m₀ : Str → Option Value} {news : List (Addr × Obj)} {iv : Value} (y : Str) (V : Nat → Value → List (Addr × Obj) → Prop)
    (hh : A.handled = none) (hr : IsRange s.heap r a₀ b₀ 1 t₀ u₀ v₀) (hsmall : Builtin.Range.small a₀ b₀ 1 = true) (hn : Builtin.Range.rangeSize a₀ b₀ 1 = (n : Int)) (F : Fr h₀ env.locals s.heap m₀) (N : News h₀ env.locals s.heap news)
    (hxy : x ≠ y) (hy : m₀ y = some iv) (h0 : V 0 iv news)
    (turn : ∀ i v nx I it t h tk, i < n → (∀ p ∈ news, p.1 < I) → (∀ p ∈ nx, p.1 ≠ I) → V i v nx → Fr h₀ env.locals h (fun z => if z = x then some (.int (a₀ + (i : Int)) t) else if z = y then some v else m₀ z) → News h₀ env.locals h ((I, it) :: nx) →
      wpAny (model prog w) A (execs body env) (RAccPost h₀ env.locals { s with heap := h, toks := tk } I it x y m₀ (V (i + 1)) Q) E { s with heap := h, toks := tk })
    (done : ∀ (u : Str → Option Value) v nx h tk, V n v nx → Fr h₀ env.locals h (fun z => if z = y then some v else if z = x then u z else m₀ z) → News h₀ env.locals h nx → Q .next { s with heap := h, toks := tk }) :
    wpAny (model prog w) A (pyIter (.ref r)) (fun it s₂ => LoopAtV prog w A h₀ env x body Q E it s₂) E s := by
  refine range_inv (fun i m nx => ∃ v, m y = some v ∧ V i v nx ∧ ∀ z, z ≠ x → z ≠ y → m z = m₀ z) hh hr hsmall hn F N ⟨iv, hy, h0, fun _ _ _ => rfl⟩ ?_ ?_
  · rintro i m₁ nx I it t h tk hi hI hoff ⟨v, hv, hV, hm⟩ F' N'
    have e : (fun z => if z = x then some (Value.int (a₀ + (i : Int)) t) else m₁ z) = fun z => if z = x then some (.int (a₀ + (i : Int)) t) else if z = y then some v else m₀ z := by
      funext z
      by_cases h1 : z = x
      · rw [if_pos h1, if_pos h1]
      · rw [if_neg h1, if_neg h1]
        by_cases h2 : z = y
        · rw [if_pos h2, h2, hv]
        · rw [if_neg h2, hm z h1 h2]
    rw [e] at F'
    refine wpAny_mono (turn i v nx I it t h tk hi hI hoff hV F' N') (fun f s₂ q => ?_) fun _ _ e => e
    have fin : RAccEnd h₀ env.locals { s with heap := h, toks := tk } I it x y m₀ (V (i + 1)) s₂ → UnrEnd h₀ env.locals { s with heap := h, toks := tk } I it (fun m nx => ∃ v, m y = some v ∧ V (i + 1) v nx ∧ ∀ z, z ≠ x → z ≠ y → m z = m₀ z) s₂ := by
      rintro ⟨h', tk', m', v', nx', e, F2, N2, off, hv2, hV2, hz2⟩
      exact ⟨h', tk', m', nx', e, F2, N2, off, v', hv2, hV2, hz2⟩
    cases f with
    | ret v => exact q
    | brk => exact q
    | next => exact fin q
    | cont => exact fin q
  · rintro m₁ nx h tk ⟨v, hv, hV, hm⟩ F' N'
    refine done m₁ v nx h tk hV ?_ N'
    have e : (fun z => if z = y then some v else if z = x then m₁ z else m₀ z) = m₁ := by
      funext z
      by_cases h2 : z = y
      · rw [if_pos h2, h2, hv]
      · rw [if_neg h2]
        by_cases h1 : z = x
        · rw [if_pos h1]
        · rw [if_neg h1, hm z h1 h2]
    rw [e]
    exact F'
theorem range_size (n : Nat) : Builtin.Range.rangeSize 0 (n : Int) 1 = (n : Int) := by
  rw [rangeSize_nat]
  omega
theorem range_small (n : Nat) (h : n ≤ 1000) : Builtin.Range.small 0 (n : Int) 1 = true := small_one (by omega) (by omega) (by omega) (by omega)
/-- an item of a written menu of bytes -/
theorem slot_lower : Slot "bytes" "lower" "bytes.lower" :=
  .of (owner := "bytes") (n := "lower") (by rw [typeLookup_type, builtinLookup_eq_fast]; kernel_rfl) (by decide +kernel) (by decide +kernel) (by decide +kernel)
    (by first | exact .inl (by decide +kernel) | exact .inr (by decide +kernel)) (by rw [isSubtype_type]; kernel_rfl)
theorem type_lower : typeOf (.builtin "bytes.lower") = pure (.type "method_descriptor") := by show builtinType _ = _; rw [builtinType_eq_fast]; kernel_rfl
theorem entry_lower : entryFor table "bytes.lower" = some Builtin.«bytes.lower» := entryFor_of_tree (by kernel_rfl)
theorem args_lower (a : Value) : argsOk "bytes.lower" ⟨[a], []⟩ := by
  unfold argsOk; rw [signature?_of (id := "bytes.lower") (n := ['r', 'e', 'w', 'o', 'l']) (o := ['s', 'e', 't', 'y', 'b']) (by kernel_rfl) FB.owner_bytes]; kernel_rfl
theorem gives_lower {b : List UInt8} {t : Tok} (hz : b.length ≤ 16777216) : Gives (Builtin.«bytes.lower» ⟨[.bytes b.toArray t], []⟩) (.bytes (b.map Builtin.Bytes.toLower).toArray) := by
  refine .of_wp fun M A E s Q hq => ?_
  refine wpAny_bind (wpAny_of_eq (a := Value.bytes b.toArray t) rfl ?_)
  refine wpAny_bind (wpAny_of_eq (a := b.toArray) rfl ?_)
  exact wpAny_bind (wpAny_mkBytes (wpAny_pure ⟨_, rfl, hq.2⟩) hq.1)
section
variable {prog : Program} {w : World} {A : Around} {E : Value → Shared → Prop} {s : Shared} {Q : Value → Shared → Prop}
theorem lower_K {b : List UInt8} {t : Tok} (hz : b.length ≤ 16777216) (hq : ∀ t' k, Q (.bytes (b.map Builtin.Bytes.toLower).toArray t') { s with toks := k }) :
    wpAny (model prog w) A (call (.builtin "bytes.lower") [.bytes b.toArray t]) Q E s :=
  call_gives slot_lower (typeIs_bytes _ _ _) entry_lower (args_lower _) (gives_lower hz) ⟨by rw [List.size_toArray, List.length_map, sizeLine_eq]; exact hz, hq _ _⟩
theorem meth_lower {M : Model} {b : Array UInt8} {t : Tok} {pl : Sem Bool} {Q : Value × List Value → Shared → Prop} (h : Q (.builtin "bytes.lower", [.bytes b t]) s) : wpAny M A (getMethod (.bytes b t) "lower" pl) Q E s := by
  with_reducible exact KBd.method_of (.bytes b t) (typeIs_bytes _ _ _) slot_lower type_lower KBd.noRef h
end

end
set_option hygiene false in
local macro_rules | `(tactic| kbo_bools) => `(tactic| ((case mB => k_asm); (case mF => k_asm); (case mX => k_asm); (case mN => k_asm); (case mT => k_asm); (case mk => first | exact rfl | assumption); (case md => first | (simp only [depth_deeper, depth_under_make, depth_under_kw, depth_in1, recursionLimit] at hd ⊢; omega) | ktr_room)))
local macro_rules | `(tactic| kln_le) => `(tactic| ((try simp only [units_in1, units_deeper, Around.mark_units, units_caller]); (try dsimp only [ktrTop]); omega))
local macro_rules | `(tactic| kct_strs) => `(tactic| ((try dsimp only); (try k_fold)))
local macro_rules | `(tactic| walk_at $s:str) => `(tactic| k_extra $s)
section
variable {prog : Program} {w : World} {p : Program} {loose : List Str} {mean : ExcName → Option Value} {mg mb : Str → Option Value}
  {dp un : Nat} {gd : Option (List Code)} {cn : Str} {cs : Scope} {a : Addr} {ccd : Value} {cl : List (Str × Addr)} {outer : List Env} {A₀ : Around} {base h₀ : Heap} {L : Addr} {m : Str → Option Value} {news : List (Addr × Obj)} {s : Shared}
  {Q E : Value → Shared → Prop}
noncomputable def lowC (c : Int) : Int := if 65 ≤ c ∧ c ≤ 90 then c + 32 else c
theorem lower_code_ok {c : Int} {t : Tok} (B : Below A₀ base outer h₀) (F : Fr h₀ L s.heap m) (X : (Mine.K0 w.params).In h₀) (N : News h₀ L s.heap news) (T : Top p loose mean mg mb h₀) (hk : cs.kind = .function)
   (hd : dp + 1 < recursionLimit)
   (ret : ∀ t' h' tk', Fr h₀ L h' m → News h₀ L h' news → Q (.int (lowC c) t') {s with heap := h', toks := tk'}) :
   wpAny (model prog w) (ktrTop dp un gd cn cs L a ccd cl outer) (call (.ref 114) [.int c t]) Q E s := by
  refine wpAny_call ?_
  k_with_none
  k_dflt (refine' code_def ?k1 ?k2 ?k3 ?k4 ?k5 ?kA ?kF ?kK ?k6 ?k7 ?k8 ?k9 ?kB ?_ ?c2 ?c3 ?c4 ?c5; (case kA => exact rfl); (case kF => exact rfl); (case kK => first | exact rfl | assumption); (case k1 => k_asm); (case k2 => k_asm); (case k3 => k_asm); (case k4 => k_asm); (case k5 => k_asm); (case k6 => (refine' Eq.trans ?ql9 ?qr9; (case ql9 => k_is); (case qr9 => ((conv in (fnA _) => whnf); (conv in (fnB _) => whnf); (conv in (fnS _) => whnf); exact rfl)))); (case k7 => k_is); (case k8 => first | ktr_room | omega); (case k9 => first | exact BindsTo.of_eq rfl | exact binds_K (by k_in) rfl (by k_is) rfl rfl rfl); (case c5 => decide); (case kB => exact locs rfl); (case c2 => exact rfl); (case c3 => exact rfl); (case c4 => exact rfl); k_whole; intro g' L' h' FG' F' N' B' X' T'; (try dsimp only); (try k_fold))
  k_steps
  · rw [show c + 32 = lowC c by unfold lowC; rw [if_pos (by omega)]]
    exact ret _ _ _ (by k_asm) (by k_asm)
  · rw [show c = lowC c by unfold lowC; rw [if_neg (by omega)]]
    exact ret _ _ _ (by k_asm) (by k_asm)
  · rw [show c = lowC c by unfold lowC; rw [if_neg (by omega)]]
    exact ret _ _ _ (by k_asm) (by k_asm)

noncomputable def lineAt (xs : List UInt8) (i e : Int) : Int × Int :=
  if findZ xs 10 i.toNat e.toNat < 0 then (e, e)
  else if findZ xs 10 i.toNat e.toNat > i ∧ ((xs.getD (findZ xs 10 i.toNat e.toNat - 1).toNat 0).toNat : Int) = 13 then (findZ xs 10 i.toNat e.toNat - 1, findZ xs 10 i.toNat e.toNat + 1)
  else (findZ xs 10 i.toNat e.toNat, findZ xs 10 i.toNat e.toNat + 1)
noncomputable abbrev tupOf (vs : List Value) : Obj := { cls := .type "tuple", data := .seq vs.toArray }
theorem findAt_lt {xs : List UInt8} {c : UInt8} {i j k : Nat} (h : findAt xs c i j = some k) : i ≤ k ∧ k < j ∧ k < xs.length := by
  unfold findAt at h
  rw [Option.map_eq_some_iff] at h
  obtain ⟨a, ha, rfl⟩ := h
  have := (List.findIdx?_eq_some_iff_findIdx_eq.mp ha).1
  simp at this
  omega
theorem findZ_lt {xs : List UInt8} {c : UInt8} {i j : Nat} : findZ xs c i j = -1 ∨ (i ≤ findZ xs c i j ∧ findZ xs c i j < j ∧ findZ xs c i j < xs.length) := by
  unfold findZ
  cases h : findAt xs c i j with
  | none => exact .inl rfl
  | some k => have := findAt_lt h; right; simp; omega

theorem line_at_ok {xs : List UInt8} {i e : Int} {t ti te : Tok} (B : Below A₀ base outer h₀) (F : Fr h₀ L s.heap m) (X : (Mine.K0 w.params).In h₀) (N : News h₀ L s.heap news) (T : Top p loose mean mg mb h₀) (hk : cs.kind = .function)
   (hd : dp + 1 < recursionLimit) (h0 : 0 ≤ i) (h1 : 0 ≤ e) (h2 : e ≤ (xs.length : Int)) (h3 : xs.length < 1048576)
   (ret : ∀ T a b ta tb h' tk', Fr h₀ L h' m → News h₀ L h' ((T, tupOf [.int a ta, .int b tb]) :: news) → (∀ p ∈ news, p.1 < T) → lineAt xs i e = (a, b) → 0 ≤ a → 0 ≤ b → (i ≤ e → i ≤ a) → (i < e → i < b) → a ≤ b → b ≤ e → Q (.ref T) {s with heap := h', toks := tk'}) :
   wpAny (model prog w) (ktrTop dp un gd cn cs L a ccd cl outer) (call (.ref 173) [.bytes xs.toArray t, .int i ti, .int e te]) Q E s := by
  have hz := findZ_lt (xs := xs) (c := 10) (i := i.toNat) (j := e.toNat)
  refine wpAny_call ?_
  k_with_none
  k_with "getMethod bytes" => (k_here; (with_reducible refine meth_find ?_))
  k_dflt (refine' code_def ?k1 ?k2 ?k3 ?k4 ?k5 ?kA ?kF ?kK ?k6 ?k7 ?k8 ?k9 ?kB ?_ ?c2 ?c3 ?c4 ?c5; (case kA => exact rfl); (case kF => exact rfl); (case kK => first | exact rfl | assumption); (case k1 => k_asm); (case k2 => k_asm); (case k3 => k_asm); (case k4 => k_asm); (case k5 => k_asm); (case k6 => (refine' Eq.trans ?ql9 ?qr9; (case ql9 => k_is); (case qr9 => ((conv in (fnA _) => whnf); (conv in (fnB _) => whnf); (conv in (fnS _) => whnf); exact rfl)))); (case k7 => k_is); (case k8 => first | ktr_room | omega); (case k9 => first | exact BindsTo.of_eq rfl | exact binds_K (by k_in) rfl (by k_is) rfl rfl rfl); (case c5 => decide); (case kB => exact locs rfl); (case c2 => exact rfl); (case c3 => exact rfl); (case c4 => exact rfl); k_whole; intro g' L' h' FG' F' N' B' X' T'; (try dsimp only); (try k_fold))
  k_with "call builtin:bytes.find" => (k_here; (refine find_K h0 h1 h2 ?_); intro _ _)
  k_steps
  · exact ret _ _ _ _ _ _ _ (by k_asm) (by k_asm) (by assumption) (by unfold lineAt; rw [if_pos (by assumption)]) (by omega) (by omega) (by omega) (by omega) (by omega) (by omega)
  · exact ret _ _ _ _ _ _ _ (by k_asm) (by k_asm) (by assumption) (by unfold lineAt; rw [if_neg (by assumption), if_pos ⟨by assumption, by assumption⟩]) (by omega) (by omega) (by omega) (by omega) (by omega) (by omega)
  · exact ret _ _ _ _ _ _ _ (by k_asm) (by k_asm) (by assumption) (by unfold lineAt; rw [if_neg (by assumption), if_neg (by rintro ⟨_, _⟩; contradiction)]) (by omega) (by omega) (by omega) (by omega) (by omega) (by omega)
  · exact ret _ _ _ _ _ _ _ (by k_asm) (by k_asm) (by assumption) (by unfold lineAt; rw [if_neg (by assumption), if_neg (by rintro ⟨_, _⟩; omega)]) (by omega) (by omega) (by omega) (by omega) (by omega) (by omega)

noncomputable def okName (c : UInt8) : Bool := !(c < 33 || c > 126 || c == 58)
noncomputable def isName (xs : List UInt8) : Bool := xs.all okName && decide (0 < xs.length)
theorem okName_true {c : UInt8} (h1 : ¬ ((c.toNat : Nat) : Int) < 33) (h2 : ¬ ((c.toNat : Nat) : Int) > 126) (h3 : ¬ ((c.toNat : Nat) : Int) = 58) : okName c = true := by
  unfold okName
  simp only [Bool.not_eq_true', Bool.or_eq_false_iff, decide_eq_false_iff_not, beq_eq_false_iff_ne, UInt8.lt_iff_toNat_lt, ne_eq]
  refine ⟨⟨by simp; omega, by simp; omega⟩, fun e => h3 (by rw [e]; rfl)⟩
theorem okName_false {c : UInt8} (h : ((c.toNat : Nat) : Int) < 33 ∨ ((c.toNat : Nat) : Int) > 126 ∨ ((c.toNat : Nat) : Int) = 58) : okName c = false := by
  cases hk : okName c with
  | false => rfl
  | true =>
    exfalso
    unfold okName at hk
    simp only [Bool.not_eq_true', Bool.or_eq_false_iff, decide_eq_false_iff_not, beq_eq_false_iff_ne, UInt8.lt_iff_toNat_lt, ne_eq] at hk
    obtain ⟨⟨h1, h2⟩, h3⟩ := hk
    simp at h1 h2
    rcases h with h | h | h
    · omega
    · omega
    · exact h3 (UInt8.toNat_inj.mp (by simp; omega))

theorem isName_bad {xs : List UInt8} {c : UInt8} (h : c ∈ xs) (hc : okName c = false) : isName xs = false := by
  unfold isName
  have : xs.all okName = false := by
    rw [List.all_eq_false]
    exact ⟨c, h, by rw [hc]; exact Bool.false_ne_true⟩
  rw [this, Bool.false_and]
theorem isName_all {xs : List UInt8} (h : ∀ c ∈ xs, okName c = true) : isName xs = decide (0 < xs.length) := by
  unfold isName
  rw [List.all_eq_true.mpr h, Bool.true_and]
theorem newsL {h₀ h : Heap} {L : Addr} {x y : List (Addr × Obj)} (N : News h₀ L h (x ++ y)) : News h₀ L h x := fun p hp => N p (List.mem_append_left _ hp)

theorem is_name_ok {xs : List UInt8} {t : Tok} (B : Below A₀ base outer h₀) (F : Fr h₀ L s.heap m) (X : (Mine.K0 w.params).In h₀) (N : News h₀ L s.heap news) (T : Top p loose mean mg mb h₀) (hk : cs.kind = .function)
   (hd : dp + 1 < recursionLimit) (h3 : xs.length < 1048576)
   (ret : ∀ h' tk', Fr h₀ L h' m → News h₀ L h' news → Q (.bool (isName xs)) {s with heap := h', toks := tk'}) :
   wpAny (model prog w) (ktrTop dp un gd cn cs L a ccd cl outer) (call (.ref 180) [.bytes xs.toArray t]) Q E s := by
  refine wpAny_call ?_
  k_with_none
  k_dflt (refine' code_def ?k1 ?k2 ?k3 ?k4 ?k5 ?kA ?kF ?kK ?k6 ?k7 ?k8 ?k9 ?kB ?_ ?c2 ?c3 ?c4 ?c5; (case kA => exact rfl); (case kF => exact rfl); (case kK => first | exact rfl | assumption); (case k1 => k_asm); (case k2 => k_asm); (case k3 => k_asm); (case k4 => k_asm); (case k5 => k_asm); (case k6 => (refine' Eq.trans ?ql9 ?qr9; (case ql9 => k_is); (case qr9 => ((conv in (fnA _) => whnf); (conv in (fnB _) => whnf); (conv in (fnS _) => whnf); exact rfl)))); (case k7 => k_is); (case k8 => first | ktr_room | omega); (case k9 => first | exact BindsTo.of_eq rfl | exact binds_K (by k_in) rfl (by k_is) rfl rfl rfl); (case c5 => decide); (case kB => exact locs rfl); (case c2 => exact rfl); (case c3 => exact rfl); (case c4 => exact rfl); k_whole; intro g' L' h' FG' F' N' B' X' T'; (try dsimp only); (try k_fold))
  k_with "pyIter bytes" => (k_here; (refine' bytes_search (xs := xs) (fun c => okName c = true) (by rfl) (by k_asm) (by k_asm) (fun c' t' h' tk' own' hmem' hoff' F' N' => ?_) (fun u' h' tk' hall' F' N' => ?_)))
  k_steps
  · rw [← isName_bad (by assumption) (okName_false (.inl (by assumption)))]
    exact ret _ _ (by k_asm) (newsL (by k_asm))
  · rw [← isName_bad (by assumption) (okName_false (.inr (.inl (by omega))))]
    exact ret _ _ (by k_asm) (newsL (by k_asm))
  · rw [← isName_bad (by assumption) (okName_false (.inr (.inr (by assumption))))]
    exact ret _ _ (by k_asm) (newsL (by k_asm))
  · exact InvEndN.intro (by assumption) (by assumption) ⟨rfl, by kba_same, okName_true (by omega) (by omega) (by omega)⟩ rfl (fun p hp => List.mem_append_left _ hp) (fun p hp => List.mem_append_right _ hp)
  · rw [show decide (0 < ((List.toArray xs).size : Int)) = isName xs by rw [isName_all (by assumption)]; simp]
    exact ret _ _ (by k_asm) (by k_asm)
end

section
variable {prog : Program} {w : World} {p : Program} {loose : List Str} {mean : ExcName → Option Value} {mg mb : Str → Option Value}
  {dp un : Nat} {gd : Option (List Code)} {cn : Str} {cs : Scope} {a : Addr} {ccd : Value} {cl : List (Str × Addr)} {outer : List Env} {A₀ : Around} {base h₀ : Heap} {L : Addr} {m : Str → Option Value} {news : List (Addr × Obj)} {s : Shared}
  {Q E : Value → Shared → Prop}
noncomputable def colonIn (xs : List UInt8) (i e : Int) : Int := if 0 ≤ findZ xs 58 i.toNat e.toNat ∧ isName (cut xs i.toNat (findZ xs 58 i.toNat e.toNat).toNat) = true then findZ xs 58 i.toNat e.toNat else -1
theorem colon_in_ok {xs : List UInt8} {i e : Int} {t ti te : Tok} (B : Below A₀ base outer h₀) (F : Fr h₀ L s.heap m) (X : (Mine.K0 w.params).In h₀) (N : News h₀ L s.heap news) (T : Top p loose mean mg mb h₀) (hk : cs.kind = .function)
   (hd : dp + 2 < recursionLimit) (h0 : 0 ≤ i) (h1 : 0 ≤ e) (h2 : e ≤ (xs.length : Int)) (h3 : xs.length < 1048576)
   (ret : ∀ z tz h' tk', Fr h₀ L h' m → News h₀ L h' news → colonIn xs i e = z → (z = -1 ∨ (i ≤ z ∧ z < e)) → Q (.int z tz) {s with heap := h', toks := tk'}) :
   wpAny (model prog w) (ktrTop dp un gd cn cs L a ccd cl outer) (call (.ref 187) [.bytes xs.toArray t, .int i ti, .int e te]) Q E s := by
  have hz := findZ_lt (xs := xs) (c := 58) (i := i.toNat) (j := e.toNat)
  refine wpAny_call ?_
  k_with_none
  k_with "getMethod bytes" => (k_here; (with_reducible refine meth_find ?_))
  k_with "subscriptTail" => (k_here; (with_reducible show wpAny _ _ (subscriptTail _ (Expr.Slice _ _ none _) (Value.bytes (List.toArray _) _) (Value.ref _)) _ _ _); (with_reducible rename Fr _ _ _ _ => F'); (with_reducible rename News _ _ _ _ => N'); (first | refine slice_ij (s := ⟨_, _, _, _, _⟩) F' N' (by omega) (by omega) (by omega) ?_ | refine slice_0j (s := ⟨_, _, _, _, _⟩) F' N' (by omega) (by omega) ?_); intro h' _ _ F' N'; (try k_sweep))
  k_with "call ref" => (k_here; (with_reducible show wpAny _ _ (call (Value.ref 180) _ _) _ _ _); k_dflt (refine' is_name_ok ?mB ?mF ?mX ?mN ?mT ?mk ?md ?mh0 ?_; kbo_bools; (case mh0 => (have mcl := cut_len_le; first | omega | exact Nat.lt_of_le_of_lt (cut_len_le _ _ _) (by omega))); k_whole); intro h' _ F' N'; kct_strs)
  k_dflt (refine' code_def ?k1 ?k2 ?k3 ?k4 ?k5 ?kA ?kF ?kK ?k6 ?k7 ?k8 ?k9 ?kB ?_ ?c2 ?c3 ?c4 ?c5; (case kA => exact rfl); (case kF => exact rfl); (case kK => first | exact rfl | assumption); (case k1 => k_asm); (case k2 => k_asm); (case k3 => k_asm); (case k4 => k_asm); (case k5 => k_asm); (case k6 => (refine' Eq.trans ?ql9 ?qr9; (case ql9 => k_is); (case qr9 => ((conv in (fnA _) => whnf); (conv in (fnB _) => whnf); (conv in (fnS _) => whnf); exact rfl)))); (case k7 => k_is); (case k8 => first | ktr_room | omega); (case k9 => first | exact BindsTo.of_eq rfl | exact binds_K (by k_in) rfl (by k_is) rfl rfl rfl); (case c5 => decide); (case kB => exact locs rfl); (case c2 => exact rfl); (case c3 => exact rfl); (case c4 => exact rfl); k_whole; intro g' L' h' FG' F' N' B' X' T'; (try dsimp only); (try k_fold))
  k_with "call builtin:bytes.find" => (k_here; (refine find_K h0 h1 h2 ?_); intro _ _)
  k_steps
  · exact ret _ _ _ _ (by k_asm) (by k_asm) (by unfold colonIn; rw [if_pos ⟨by assumption, by assumption⟩]) (by omega)
  · exact ret _ _ _ _ (by k_asm) (by k_asm) (by unfold colonIn; rw [if_neg (by rintro ⟨_, h⟩; simp_all)]) (by omega)
  · exact ret _ _ _ _ (by k_asm) (by k_asm) (by unfold colonIn; rw [if_neg (by rintro ⟨_, h⟩; omega)]) (by omega)
end

local macro_rules | `(tactic| k_room) => `(tactic| first | (simp only [depth_deeper, depth_under_make, depth_under_kw, depth_in1, recursionLimit] at hd ⊢; omega) | ktr_room)
section
variable {prog : Program} {w : World} {p : Program} {loose : List Str} {mean : ExcName → Option Value} {mg mb : Str → Option Value}
  {dp un : Nat} {gd : Option (List Code)} {cn : Str} {cs : Scope} {a : Addr} {ccd : Value} {cl : List (Str × Addr)} {outer : List Env} {A₀ : Around} {base h₀ : Heap} {L : Addr} {m : Str → Option Value} {news : List (Addr × Obj)} {s : Shared}
  {Q E : Value → Shared → Prop}
noncomputable abbrev ent (w : World) (x : String) (t : Tok) (v : Value) : DictEntry := ⟨PyData.keyHash w.params (Str.ofString x), .str (Str.ofString x) t, v⟩
noncomputable abbrev fieldD (w : World) (n r : List UInt8) (t1 t2 tn tr : Tok) : Obj := dictOf [ent w "name" t1 (.bytes n.toArray tn), ent w "raw" t2 (.bytes r.toArray tr)] 2
theorem field_new_ok {n r : List UInt8} {tn tr : Tok} (B : Below A₀ base outer h₀) (F : Fr h₀ L s.heap m) (X : (Mine.K0 w.params).In h₀) (N : News h₀ L s.heap news) (T : Top p loose mean mg mb h₀) (hk : cs.kind = .function)
   (hd : dp + 2 < recursionLimit)
   (ret : ∀ x d t1 t2 h' tk', Fr h₀ L h' m → News h₀ L h' ((x, instObj 162 d) :: (d, fieldD w n r t1 t2 tn tr) :: news) → (∀ p ∈ news, p.1 < d) → d < x → Q (.ref x) {s with heap := h', toks := tk'}) :
   wpAny (model prog w) (ktrTop dp un gd cn cs L a ccd cl outer) (call (.ref 162) [.bytes n.toArray tn, .bytes r.toArray tr]) Q E s := by
  k_with_none
  k_here
  refine' call_cls ?k1 ?k2 ?k3 ?k4 ?k5 ?k6 ?_; (case k1 => k_asm); (case k2 => k_asm); (case k3 => k_asm); (case k4 => k_is); (case k5 => k_is); (case k6 => k_is); k_whole; intro x' d' h' F' N' l1 l2; (try k_sweep)
  have l1o := l1
  have l2o := l2
  (try k_lt l1)
  (try k_lt2 l2)
  k_dflt ktr_enter
  k_steps
  exact ret _ _ _ _ _ _ (by k_asm) (by k_asm) l1o l2o
end

local macro_rules | `(tactic| k_all) => `(tactic| assumption)
local macro_rules | `(tactic| size_fits) => `(tactic| ((try simp only [List.size_toArray]); rw [sizeLine_eq]; omega))
theorem white_any (c : UInt8) : (([32, 9] : List Int).any (· == ((c.toNat : Nat) : Int))) = (c == 32 || c == 9) := by
  rw [Bool.eq_iff_iff]
  simp only [List.any_cons, List.any_nil, Bool.or_false, Bool.or_eq_true, beq_iff_eq]
  constructor
  · rintro (h | h)
    · exact .inl (UInt8.toNat_inj.mp (by simp; omega))
    · exact .inr (UInt8.toNat_inj.mp (by simp; omega))
  · rintro (h | h)
    · exact .inl (by rw [h]; rfl)
    · exact .inr (by rw [h]; rfl)
section
variable {prog : Program} {w : World} {p : Program} {loose : List Str} {mean : ExcName → Option Value} {mg mb : Str → Option Value}
  {dp un : Nat} {gd : Option (List Code)} {cn : Str} {cs : Scope} {a : Addr} {ccd : Value} {cl : List (Str × Addr)} {outer : List Env} {A₀ : Around} {base h₀ : Heap} {L : Addr} {m : Str → Option Value} {news : List (Addr × Obj)} {s : Shared}
  {Q E : Value → Shared → Prop}
structure Row where
  name : List UInt8
  raw : List UInt8
  b : Int
  e : Int
noncomputable def white (c : UInt8) : Bool := c == 32 || c == 9
noncomputable def foldEnd (xs : List UInt8) (stop : Int) : Nat → Int → Int → Int × Int
  | 0, last, later => (last, later)
  | n + 1, last, later => if later < stop ∧ white (xs.getD later.toNat 0) = true then foldEnd xs stop n (lineAt xs later stop).1 (lineAt xs later stop).2 else (last, later)
noncomputable def spans (xs : List UInt8) (stop : Int) : Nat → Int → List Row × Int
  | 0, _ => ([], stop)
  | n + 1, here =>
    if here < stop then
      if (lineAt xs here stop).1 = here then ([], (lineAt xs here stop).2)
      else if colonIn xs here (lineAt xs here stop).1 < 0 then ([], here)
      else
        let q := foldEnd xs stop (stop - (lineAt xs here stop).2).toNat (lineAt xs here stop).1 (lineAt xs here stop).2
        let r := spans xs stop n q.2
        (⟨cut xs here.toNat (colonIn xs here (lineAt xs here stop).1).toNat, cut xs (colonIn xs here (lineAt xs here stop).1 + 1).toNat q.1.toNat, here, q.2⟩ :: r.1, r.2)
    else ([], stop)
noncomputable def RowAt (w : World) (led : List (Addr × Obj)) (v : Value) (r : Row) : Prop :=
  ∃ T x d t1 t2 tn tr tb te, v = .ref T ∧ (T, tupOf [.ref x, .int r.b tb, .int r.e te]) ∈ led ∧ (x, instObj 162 d) ∈ led ∧ (d, fieldD w r.name r.raw t1 t2 tn tr) ∈ led
theorem RowAt.mono {w : World} {led led' : List (Addr × Obj)} (h : ∀ p ∈ led, p ∈ led') (v : Value) (r : Row) (x : RowAt w led v r) : RowAt w led' v r := by
  obtain ⟨T, y, d, t1, t2, tn, tr, tb, te, e, a, b, c⟩ := x
  exact ⟨T, y, d, t1, t2, tn, tr, tb, te, e, h _ a, h _ b, h _ c⟩

section
variable {xs : List UInt8} {stop here a b z : Int} {n : Nat}
theorem spans_empty (hn : stop - here ≤ (n : Int)) (h : here < stop) (hl : lineAt xs here stop = (a, b)) (ha : a = here) : spans xs stop n here = ([], b) := by
  obtain ⟨k, rfl⟩ : ∃ k, n = k + 1 := ⟨n - 1, by omega⟩
  unfold spans
  rw [if_pos h, hl, if_pos ha]
theorem spans_nofield (hn : stop - here ≤ (n : Int)) (h : here < stop) (hl : lineAt xs here stop = (a, b)) (ha : a ≠ here) (hc : colonIn xs here a = z) (hz : z < 0) : spans xs stop n here = ([], here) := by
  obtain ⟨k, rfl⟩ : ∃ k, n = k + 1 := ⟨n - 1, by omega⟩
  unfold spans
  rw [if_pos h, hl, if_neg ha, hc, if_pos hz]
theorem spans_field {a' b' : Int} (hn : stop - here ≤ (n : Int)) (h : here < stop) (hl : lineAt xs here stop = (a, b)) (ha : a ≠ here) (hc : colonIn xs here a = z) (hz : ¬ z < 0) (hf : foldEnd xs stop (stop - b).toNat a b = (a', b')) :
    ∃ k, n = k + 1 ∧ spans xs stop n here = (⟨cut xs here.toNat z.toNat, cut xs (z + 1).toNat a'.toNat, here, b'⟩ :: (spans xs stop k b').1, (spans xs stop k b').2) := by
  obtain ⟨k, rfl⟩ : ∃ k, n = k + 1 := ⟨n - 1, by omega⟩
  refine ⟨k, rfl, ?_⟩
  conv => lhs; unfold spans
  rw [if_pos h, hl, if_neg ha, hc, if_neg hz]
  dsimp only
  rw [hf]
theorem spans_done (h : ¬ here < stop) : spans xs stop n here = ([], stop) := by
  cases n with
  | zero => rfl
  | succ k => unfold spans; rw [if_neg h]
theorem foldEnd_done (h : ¬ (b < stop ∧ white (xs.getD b.toNat 0) = true)) : foldEnd xs stop n a b = (a, b) := by
  cases n with
  | zero => rfl
  | succ k => unfold foldEnd; rw [if_neg h]
theorem foldEnd_more {a' b' : Int} (hn : stop - b ≤ (n : Int)) (h : b < stop ∧ white (xs.getD b.toNat 0) = true) (hl : lineAt xs b stop = (a', b')) : ∃ k, n = k + 1 ∧ foldEnd xs stop n a b = foldEnd xs stop k a' b' := by
  obtain ⟨k, rfl⟩ : ∃ k, n = k + 1 := ⟨n - 1, by omega⟩
  refine ⟨k, rfl, ?_⟩
  conv => lhs; unfold foldEnd
  rw [if_pos h, hl]
end

theorem row_end {w : World} {g : Heap} {L l D x d T : Addr} {s : Shared} {news led : List (Addr × Obj)} {y : Str} {stored : List Str} {m₀ m' : Str → Option Value} {I : Int → List Row → Prop} {μ : Int → Nat} {a b e : Int} {tb te te' t1 t2 tn tr : Tok} {n r : List UInt8} {o : Obj} {vs : List Value} {k : Nat} {bs : List Row} {h : Heap} {tk : Nat}
    (F : Fr g L h m') (N : News g L h ((D, tupOf [.ref x, .int b tb, .int e te]) :: (x, instObj 162 d) :: (d, fieldD w n r t1 t2 tn tr) :: (T, o) :: (l, listOf (vs.toArray.push (.ref D)) (k + 1)) :: (led ++ news)))
    (h2 : Two (RowAt w led) vs bs) (hI : I e (bs ++ [⟨n, r, b, e⟩])) (hmu : μ e < μ a) (hy : m' y = some (.int e te')) (hs : ∀ z, z ≠ y → stored.contains z = false → m' z = m₀ z)
    (hD : @LT.lt Nat _ l D) (hx : @LT.lt Nat _ l x) (hd : @LT.lt Nat _ l d) (hgt : ∀ q ∈ led, @LT.lt Nat _ l q.1) : AccEnd (RowAt w) g L s l news y stored m₀ I μ a { s with heap := h, toks := tk } := by
  refine ⟨h, tk, m', e, te', vs ++ [.ref D], k + 1, (D, tupOf [.ref x, .int b tb, .int e te]) :: (x, instObj 162 d) :: (d, fieldD w n r t1 t2 tn tr) :: led, bs ++ [⟨n, r, b, e⟩], _, rfl, F, N, ?_, ?_, hI, hmu, hy, hs, ?_⟩
  · intro p hp
    simp only [List.mem_cons, List.cons_append] at hp ⊢
    rcases hp with rfl | rfl | rfl | rfl | hp
    · right; right; right; right; left; rw [List.push_toArray]
    · left; rfl
    · right; left; rfl
    · right; right; left; rfl
    · right; right; right; right; right; exact hp
  · exact (h2.imp (RowAt.mono fun p hp => .tail _ (.tail _ (.tail _ hp)))).snoc ⟨_, _, _, _, _, _, _, _, _, rfl, .head _, .tail _ (.head _), .tail _ (.tail _ (.head _))⟩
  · intro q hq
    simp only [List.mem_cons] at hq
    rcases hq with rfl | rfl | rfl | hq
    · exact hD
    · exact hx
    · exact hd
    · exact hgt q hq

theorem in_white {A : Around} {Q E : Value → Shared → Prop} {c : UInt8} {u : Tok} (F : Fr h₀ L s.heap m) (X : (Mine.K0 w.params).In h₀) (hl : (Mine.K0 w.params).lookup 133 = some ⟨.type "tuple", none, .seq (List.toArray [Value.int 32 348, Value.int 9 349]) 0, #[]⟩)
    (h : Q (.bool (white c)) s) : wpAny (model prog w) A (compareOp .In (.int ((c.toNat : Nat) : Int) u) (.ref 133)) Q E s :=
  in_tuple_ints (tupK (X.keeps F.keep) hl) (by repeat constructor) (by rw [white_any]; exact h)
end
section
variable {prog : Program} {w : World} {p : Program} {loose : List Str} {mean : ExcName → Option Value} {mg mb : Str → Option Value}
  {dp un : Nat} {gd : Option (List Code)} {cn : Str} {cs : Scope} {a : Addr} {ccd : Value} {cl : List (Str × Addr)} {outer : List Env} {A₀ : Around} {base h₀ : Heap} {L : Addr} {m : Str → Option Value} {news : List (Addr × Obj)} {s : Shared}
  {Q E : Value → Shared → Prop}

theorem read_spans_ok {xs : List UInt8} {at0 stop : Int} {t ti te : Tok} (B : Below A₀ base outer h₀) (F : Fr h₀ L s.heap m) (X : (Mine.K0 w.params).In h₀) (N : News h₀ L s.heap news) (T : Top p loose mean mg mb h₀) (hk : cs.kind = .function)
   (hd : dp + 3 < recursionLimit) (h0 : 0 ≤ at0) (h1 : at0 ≤ stop) (h2 : stop ≤ (xs.length : Int)) (h3 : xs.length < 1048576)
   (ret : ∀ T l vs k rs body tz h' tk' led, Fr h₀ L h' m → News h₀ L h' (led ++ news) → (T, tupOf [.ref l, .int body tz]) ∈ led → (l, listOf vs.toArray k) ∈ led → Two (RowAt w led) vs rs → spans xs stop (stop - at0).toNat at0 = (rs, body) →
     (∀ q ∈ led, ∀ p ∈ news, @LT.lt Nat _ p.1 q.1) → Q (.ref T) {s with heap := h', toks := tk'}) :
   wpAny (model prog w) (ktrTop dp un gd cn cs L a ccd cl outer) (call (.ref 195) [.bytes xs.toArray t, .int at0 ti, .int stop te]) Q E s := by
  refine wpAny_call ?_
  k_with_none
  k_with "subscriptTail" => (k_here; (with_reducible show wpAny _ _ (subscriptTail _ (Expr.Slice _ _ none _) (Value.bytes (List.toArray _) _) (Value.ref _)) _ _ _); (with_reducible rename Fr _ _ _ _ => F'); (with_reducible rename News _ _ _ _ => N'); (first | refine slice_ij (s := ⟨_, _, _, _, _⟩) F' N' (by omega) (by omega) (by omega) ?_ | refine slice_0j (s := ⟨_, _, _, _, _⟩) F' N' (by omega) (by omega) ?_); intro h' _ _ F' N'; (try k_sweep))
  k_with "call ref" => (k_here; (with_reducible show wpAny _ _ (call (Value.ref 187) _ _) _ _ _); k_dflt (refine' colon_in_ok ?mB ?mF ?mX ?mN ?mT ?mk ?md ?mh0 ?mh1 ?mh2 ?mh3 ?_; kbo_bools; (case mh0 => omega); (case mh1 => omega); (case mh2 => omega); (case mh3 => omega); k_whole); intro z' tz' h' tk' F' N' hcol' hcb'; kct_strs)
  k_with "call ref" => (k_here; (with_reducible show wpAny _ _ (call (Value.ref 173) _ _) _ _ _); k_dflt (refine' line_at_ok ?mB ?mF ?mX ?mN ?mT ?mk ?md ?mh0 ?mh1 ?mh2 ?mh3 ?_; kbo_bools; (case mh0 => omega); (case mh1 => omega); (case mh2 => omega); (case mh3 => omega); k_whole); intro Tl al bl tal tbl hl' tkl F' N' l1 hla' ha0' hb0' hia' hib' hab' hbe'; (try k_lt l1); kct_strs)
  k_with "call ref" => (k_here; (with_reducible show wpAny _ _ (call (Value.ref 162) _ _) _ _ _); k_dflt (refine' field_new_ok ?mB ?mF ?mX ?mN ?mT ?mk ?md  ?_; kbo_bools;  k_whole); intro xf df t1f t2f hf' tkf F' N' l1 l2; (try k_lt l1); (try k_lt2 l2); kct_strs)
  k_with "AccPost" => (dsimp only [AccPost])
  k_with "I2Post" => (dsimp only [I2Post])
  k_with "compareOp In int ref" => (k_here; k_dflt (refine' in_white ?q360F ?q555X ?q535l ?_; (case q360F => k_asm); (case q555X => k_asm); (case q535l => k_is)))
  k_dflt (refine' code_def ?k1 ?k2 ?k3 ?k4 ?k5 ?kA ?kF ?kK ?k6 ?k7 ?k8 ?k9 ?kB ?_ ?c2 ?c3 ?c4 ?c5; (case kA => exact rfl); (case kF => exact rfl); (case kK => first | exact rfl | assumption); (case k1 => k_asm); (case k2 => k_asm); (case k3 => k_asm); (case k4 => k_asm); (case k5 => k_asm); (case k6 => (refine' Eq.trans ?ql9 ?qr9; (case ql9 => k_is); (case qr9 => ((conv in (fnA _) => whnf); (conv in (fnB _) => whnf); (conv in (fnS _) => whnf); exact rfl)))); (case k7 => k_is); (case k8 => first | ktr_room | omega); (case k9 => first | exact BindsTo.of_eq rfl | exact binds_K (by k_in) rfl (by k_is) rfl rfl rfl); (case c5 => decide); (case kB => exact locs rfl); (case c2 => exact rfl); (case c3 => exact rfl); (case c4 => exact rfl); k_whole; intro g' L' h' FG' F' N' B' X' T'; (try dsimp only); (try k_fold))
  k_with "exec While Compare cons nil" => (refine Stop.out ?_)
  k_steps
  refine Stop.go ?_
  rename Fr _ _ _ _ => lF'
  rename News _ _ _ _ => lN'
  refine acc_while (y := Str.ofString "here") (RowAt w) [Str.ofString "last", Str.ofString "later", Str.ofString "colon"] (fun a bs => at0 ≤ a ∧ a ≤ stop ∧ (bs.length : Int) ≤ a - at0 ∧ ∃ (n : Nat) (rest : List Row) (body : Int), stop - a ≤ (n : Int) ∧ spans xs stop n a = (rest, body) ∧ spans xs stop (stop - at0).toNat at0 = (bs ++ rest, body)) (fun a => (stop - a).toNat) lF' lN' (by rfl) (by assumption) ?_ (fun a' ta' vs' k' led' bs' u' h' tk' h2' hI' hgt' hne' F' N' => ?_)
  · exact ⟨Int.le_refl _, h1, by simp, _, _, _, by omega, rfl, rfl⟩
  obtain ⟨hI1, hI2, hbl, n, rest, body, hn, hsp, htot⟩ := hI'
  clear lF' lN'
  have hvl : vs'.length ≤ 1048576 := by have := h2'.length; omega
  (try k_unmd)
  k_fold
  k_with "exec While BoolOp cons nil" => (refine Stop.out ?_)
  k_steps
  · refine ret _ _ _ _ _ _ _ _ _ (_ :: _ :: _ :: led') (by k_asm) (by k_asm) (.head _) (.tail _ (.tail _ (.head _))) (h2'.imp (RowAt.mono fun p hp => .tail _ (.tail _ (.tail _ hp)))) ?_ (order_of (by assumption) ?_)
    · have h9 := spans_empty hn (by assumption) (by assumption) (by assumption)
      rw [hsp] at h9
      simp only [Prod.mk.injEq] at h9
      rw [htot, h9.1, h9.2, List.append_nil]
    · intro q hq
      simp only [List.mem_cons] at hq
      rcases hq with rfl | rfl | rfl | hq
      · dsimp only; omega
      · dsimp only; omega
      · exact Nat.le_refl _
      · exact Nat.le_of_lt (hgt' q hq)
  · refine ret _ _ _ _ _ _ _ _ _ (_ :: _ :: _ :: led') (by k_asm) (by k_asm) (.head _) (.tail _ (.tail _ (.head _))) (h2'.imp (RowAt.mono fun p hp => .tail _ (.tail _ (.tail _ hp)))) ?_ (order_of (by assumption) ?_)
    · have h9 := spans_nofield hn (by assumption) (by assumption) (by assumption) (by assumption) (by assumption)
      rw [hsp] at h9
      simp only [Prod.mk.injEq] at h9
      rw [htot, h9.1, h9.2, List.append_nil]
    · intro q hq
      simp only [List.mem_cons] at hq
      rcases hq with rfl | rfl | rfl | hq
      · dsimp only; omega
      · dsimp only; omega
      · exact Nat.le_refl _
      · exact Nat.le_of_lt (hgt' q hq)
  · refine Stop.go ?_
    rename lineAt xs a' stop = _ => hla1
    rename Fr _ _ _ _ => lF'
    rename News _ _ _ _ => lN'
    refine int2_while (y := Str.ofString "last") (y' := Str.ofString "later") [] (fun a b => 0 ≤ a ∧ a' < b ∧ b ≤ stop ∧ ∃ (k : Nat), stop - b ≤ (k : Int) ∧ foldEnd xs stop k a b = foldEnd xs stop (stop - (lineAt xs a' stop).2).toNat (lineAt xs a' stop).1 (lineAt xs a' stop).2) (fun _ b => (stop - b).toNat) lF' lN' (by rfl) (by rfl) ⟨by omega, by omega, by omega, (stop - (lineAt xs a' stop).2).toNat, by rw [hla1]; dsimp only; omega, by rw [hla1]⟩ (fun a2 ta2 b2 tb2 u2 h2 tk2 hI2' F' N' => ?_)
    obtain ⟨hJ1, hJ2, hJ3, k2, hk2, hfe⟩ := hI2'
    clear lF' lN'
    k_fold
    k_steps
    · rename lineAt xs b2 stop = _ => hla2
      rename foldEnd xs stop k2 a2 b2 = _ => hfe2
      obtain ⟨k3, hk3, hf3⟩ := foldEnd_more (a := a2) hk2 ⟨by assumption, by assumption⟩ hla2
      refine' ⟨_, _, _, _, _, _, _, _, rfl, ?F, ?N, ?S, ?I, ?M, ?y, ?z, ?same⟩
      case F => k_asm
      case N => k_asm
      case y => rfl
      case z => rfl
      case S => exact fun p hp => .tail _ hp
      case I => exact ⟨by omega, by omega, by omega, k3, by omega, by rw [← hf3, hfe2]⟩
      case M => dsimp only; omega
      case same => (intro z h1 h2 h3; simp [h1, h2])
    · rename foldEnd xs stop k2 a2 b2 = _ => hfe2
      rename colonIn xs a' _ = _ => hcol2
      have hf : foldEnd xs stop k2 a2 b2 = (a2, b2) := foldEnd_done (by rintro ⟨_, h⟩; simp_all)
      rw [hfe2, hla1] at hf
      dsimp only at hf
      obtain ⟨k, hk, hs⟩ := spans_field hn (by assumption) hla1 (by assumption) hcol2 (by assumption) hf
      rw [hsp] at hs
      simp only [Prod.mk.injEq] at hs
      refine row_end (by k_asm) (by k_asm) h2' ⟨by omega, by omega, by simp; omega, k, _, _, by omega, rfl, by rw [htot, hs.1, hs.2]; simp⟩ (by omega) rfl ?_ (by omega) (by omega) (by omega) hgt'
      intro z h1 h3; simp only [List.contains_cons, List.contains_nil, Bool.or_false, Bool.or_eq_false_iff, beq_eq_false_iff_ne, ne_eq] at h3; simp [h1, h3]
    · rename foldEnd xs stop k2 a2 b2 = _ => hfe2
      rename colonIn xs a' _ = _ => hcol2
      have hf : foldEnd xs stop k2 a2 b2 = (a2, b2) := foldEnd_done (by rintro ⟨h, _⟩; contradiction)
      rw [hfe2, hla1] at hf
      dsimp only at hf
      obtain ⟨k, hk, hs⟩ := spans_field hn (by assumption) hla1 (by assumption) hcol2 (by assumption) hf
      rw [hsp] at hs
      simp only [Prod.mk.injEq] at hs
      refine row_end (by k_asm) (by k_asm) h2' ⟨by omega, by omega, by simp; omega, k, _, _, by omega, rfl, by rw [htot, hs.1, hs.2]; simp⟩ (by omega) rfl ?_ (by omega) (by omega) (by omega) hgt'
      intro z h1 h3; simp only [List.contains_cons, List.contains_nil, Bool.or_false, Bool.or_eq_false_iff, beq_eq_false_iff_ne, ne_eq] at h3; simp [h1, h3]
  · refine ret _ _ _ _ _ _ _ _ _ (_ :: _ :: led') (by k_asm) (by k_asm) (.head _) (.tail _ (.head _)) (h2'.imp (RowAt.mono fun p hp => .tail _ (.tail _ hp))) ?_ (order_of (by assumption) ?_)
    · have h9 := spans_done (xs := xs) (n := n) (by assumption)
      rw [hsp] at h9
      simp only [Prod.mk.injEq] at h9
      rw [htot, h9.1, h9.2, List.append_nil]
    · intro q hq
      simp only [List.mem_cons] at hq
      rcases hq with rfl | rfl | hq
      · dsimp only; omega
      · exact Nat.le_refl _
      · exact Nat.le_of_lt (hgt' q hq)
end

theorem newsT {h₀ h : Heap} {L : Addr} {x : Addr × Obj} {news : List (Addr × Obj)} (N : News h₀ L h (x :: news)) : News h₀ L h news := fun p hp => N p (List.mem_cons_of_mem _ hp)
theorem join_ones {α : Type} (f : α → UInt8) (xs : List α) : Txt.join (Str.ofString "") (xs.map fun c => (⟨#[(f c).toNat]⟩ : Str)) = ⟨(xs.map fun c => (f c).toNat).toArray⟩ := by
  have go : ∀ (xs : List α) (acc : Array Nat), (xs.map fun c => (⟨#[(f c).toNat]⟩ : Str)).foldl (fun acc p => acc ++ (Str.ofString "").cps ++ p.cps) acc = acc ++ (xs.map fun c => (f c).toNat).toArray := by
    intro xs
    induction xs with
    | nil => intro acc; simp
    | cons x r ih =>
      intro acc
      rw [List.map_cons, List.foldl_cons, ih]
      have e : (Str.ofString "").cps = #[] := by decide
      rw [e]
      apply Array.toList_inj.mp
      simp
  cases xs with
  | nil => rfl
  | cons x r =>
    show Str.mk _ = _
    rw [List.map_cons, List.drop_one, List.tail_cons, go]
    simp
noncomputable abbrev sOf (xs : List UInt8) : Str := ⟨(xs.map fun c => c.toNat).toArray⟩
noncomputable def lowB (c : UInt8) : UInt8 := if 65 ≤ c.toNat ∧ c.toNat ≤ 90 then c + 32 else c
theorem lowC_B (c : UInt8) : lowC ((c.toNat : Nat) : Int) = (((lowB c).toNat : Nat) : Int) := by
  unfold lowC lowB
  by_cases h : 65 ≤ c.toNat ∧ c.toNat ≤ 90
  · rw [if_pos (by omega), if_pos h, UInt8.toNat_add]
    have : (32 : UInt8).toNat = 32 := rfl
    omega
  · rw [if_neg (by omega), if_neg h]
theorem strs_snoc {vs : List Value} {ys : List Str} {y : Str} {t : Tok} : StrsAre vs ys → StrsAre (vs ++ [.str y t]) (ys ++ [y])
  | .nil => .cons _ _ .nil
  | .cons y t r => .cons y t (strs_snoc r)
theorem ones_sum {α : Type} (f : α → UInt8) (xs : List α) : ((xs.map fun c => (⟨#[(f c).toNat]⟩ : Str)).map (·.length)).sum = xs.length := by
  induction xs with
  | nil => rfl
  | cons x r ih => rw [List.map_cons, List.map_cons, List.sum_cons, ih, List.length_cons]; show 1 + _ = _; omega
section
variable {prog : Program} {w : World} {p : Program} {loose : List Str} {mean : ExcName → Option Value} {mg mb : Str → Option Value}
  {dp un : Nat} {gd : Option (List Code)} {cn : Str} {cs : Scope} {a : Addr} {ccd : Value} {cl : List (Str × Addr)} {outer : List Env} {A₀ : Around} {base h₀ : Heap} {L : Addr} {m : Str → Option Value} {news : List (Addr × Obj)} {s : Shared}
  {Q E : Value → Shared → Prop}
theorem lower_text_ok {xs : List UInt8} {t : Tok} (B : Below A₀ base outer h₀) (F : Fr h₀ L s.heap m) (X : (Mine.K0 w.params).In h₀) (N : News h₀ L s.heap news) (T : Top p loose mean mg mb h₀) (hk : cs.kind = .function)
   (hd : dp + 2 < recursionLimit) (h3 : xs.length < 1048576)
   (ret : ∀ t' h' tk', Fr h₀ L h' m → News h₀ L h' news → Q (.str (sOf (xs.map lowB)) t') {s with heap := h', toks := tk'}) :
   wpAny (model prog w) (ktrTop dp un gd cn cs L a ccd cl outer) (call (.ref 124) [.str (sOf xs) t]) Q E s := by
  refine wpAny_call ?_
  k_with_none
  k_with "call ref" => (k_here; (with_reducible show wpAny _ _ (call (Value.ref 114) _ _) _ _ _); k_dflt (refine' lower_code_ok ?mB ?mF ?mX ?mN ?mT ?mk ?md  ?_; kbo_bools;  k_whole); intro t' h' tk' F' N'; kct_strs)
  k_dflt (refine' code_def ?k1 ?k2 ?k3 ?k4 ?k5 ?kA ?kF ?kK ?k6 ?k7 ?k8 ?k9 ?kB ?_ ?c2 ?c3 ?c4 ?c5; (case kA => exact rfl); (case kF => exact rfl); (case kK => first | exact rfl | assumption); (case k1 => k_asm); (case k2 => k_asm); (case k3 => k_asm); (case k4 => k_asm); (case k5 => k_asm); (case k6 => (refine' Eq.trans ?ql9 ?qr9; (case ql9 => k_is); (case qr9 => ((conv in (fnA _) => whnf); (conv in (fnB _) => whnf); (conv in (fnS _) => whnf); exact rfl)))); (case k7 => k_is); (case k8 => first | ktr_room | omega); (case k9 => first | exact BindsTo.of_eq rfl | exact binds_K (by k_in) rfl (by k_is) rfl rfl rfl); (case c5 => decide); (case kB => exact locs rfl); (case c2 => exact rfl); (case c3 => exact rfl); (case c4 => exact rfl); k_whole; intro g' L' h' FG' F' N' B' X' T'; (try dsimp only); (try k_fold))
  k_with "eval ListComp" => (refine Stop.out ?_)
  k_steps
  refine Stop.go ?_
  rename Fr _ _ _ _ => lF'
  rename News _ _ _ _ => lN'
  refine comp_evalF lF' (by with_unfolding_all rfl) (by decide) (by rfl) (by decide) ?_
  k_steps
  refine go_flat0 (fun i ys => StrsAre ys ((xs.take i).map fun c => (⟨#[(lowB c).toNat]⟩ : Str))) (by rfl) (by rfl) (src_str (by rfl) lF' lN') (by simp; rw [sizeLine_eq]; omega) trivial .nil (fun i v ys I oI C oC D m₂ hh tk E' hi hP hK hl hC hv F' N' off3 ne3 => ?_) (fun a' hh tk ys m' hm F' N' o1 l1 hK => ?_)
  · clear lF' lN'
    obtain ⟨c, u, hc, rfl⟩ := hP
    obtain ⟨b, hb, rfl⟩ : ∃ b, xs[i]? = some b ∧ c = b.toNat := by
      simp at hc
      obtain ⟨b, hb, e⟩ := hc
      exact ⟨b, hb, e.symm⟩
    have hlo := lowC_B b
    have hlt := (lowB b).toNat_lt
    k_steps
    exact flat_end (by k_asm) (by k_asm) (fun _ h => h) off3 trivial (by rw [List.take_add_one, hb, hlo]; simpa using strs_snoc hK)
  · clear lF' lN'
    subst hm
    (try dsimp only [List.cons_append, List.nil_append])
    (try k_unmd)
    k_fold
    rw [show (sOf xs).cps.size = xs.length by simp, List.take_length] at hK
    k_steps
    have hj0 : (Str.ofString "").length = 0 := by decide
    refine join_list (items := ys.toArray) (ys := xs.map fun c => (⟨#[(lowB c).toNat]⟩ : Str)) ?_ hK (by rw [ones_sum, List.length_map, hj0]; omega) ?_
    · exact lst_is N' (.head _)
    intro t' tk'
    rw [join_ones]
    k_steps
    rw [show (⟨(xs.map fun c => (lowB c).toNat).toArray⟩ : Str) = sOf (xs.map lowB) by simp [sOf]]
    exact ret _ _ _ (by k_asm) (newsT (by assumption))
end

theorem join_bytes (xs : List UInt8) : Txt.join (Str.ofString "") (xs.map fun c => (⟨#[c.toNat]⟩ : Str)) = sOf xs := join_ones (fun c => c) xs
section
variable {prog : Program} {w : World} {p : Program} {loose : List Str} {mean : ExcName → Option Value} {mg mb : Str → Option Value}
  {dp un : Nat} {gd : Option (List Code)} {cn : Str} {cs : Scope} {a : Addr} {ccd : Value} {cl : List (Str × Addr)} {outer : List Env} {A₀ : Around} {base h₀ : Heap} {L : Addr} {m : Str → Option Value} {news : List (Addr × Obj)} {s : Shared}
  {Q E : Value → Shared → Prop}
theorem word_ok {x d : Addr} {n r : List UInt8} {t1 t2 tn tr : Tok} (B : Below A₀ base outer h₀) (F : Fr h₀ L s.heap m) (X : (Mine.K0 w.params).In h₀) (N : News h₀ L s.heap news) (T : Top p loose mean mg mb h₀) (hk : cs.kind = .function)
   (hd : dp + 3 < recursionLimit) (h3 : n.length < 1048576) (hx : (x, instObj 162 d) ∈ news) (hdd : (d, fieldD w n r t1 t2 tn tr) ∈ news)
   (ret : ∀ t' h' tk', Fr h₀ L h' m → News h₀ L h' news → Q (.str (sOf (n.map lowB)) t') {s with heap := h', toks := tk'}) :
   wpAny (model prog w) (ktrTop dp un gd cn cs L a ccd cl outer) (call (.ref 152) [.ref x]) Q E s := by
  refine wpAny_call ?_
  k_with_none
  k_with "call ref" => (k_here; (with_reducible show wpAny _ _ (call (Value.ref 124) _ _) _ _ _); k_dflt (refine' lower_text_ok ?mB ?mF ?mX ?mN ?mT ?mk ?md ?mh0 ?_; kbo_bools; (case mh0 => (first | omega | (simp only [List.length_map]; omega))); k_whole); intro t' h' tk' F' N'; kct_strs)
  k_dflt (refine' code_def ?k1 ?k2 ?k3 ?k4 ?k5 ?kA ?kF ?kK ?k6 ?k7 ?k8 ?k9 ?kB ?_ ?c2 ?c3 ?c4 ?c5; (case kA => exact rfl); (case kF => exact rfl); (case kK => first | exact rfl | assumption); (case k1 => k_asm); (case k2 => k_asm); (case k3 => k_asm); (case k4 => k_asm); (case k5 => k_asm); (case k6 => (refine' Eq.trans ?ql9 ?qr9; (case ql9 => k_is); (case qr9 => ((conv in (fnA _) => whnf); (conv in (fnB _) => whnf); (conv in (fnS _) => whnf); exact rfl)))); (case k7 => k_is); (case k8 => first | ktr_room | omega); (case k9 => first | exact BindsTo.of_eq rfl | exact binds_K (by k_in) rfl (by k_is) rfl rfl rfl); (case c5 => decide); (case kB => exact locs rfl); (case c2 => exact rfl); (case c3 => exact rfl); (case c4 => exact rfl); k_whole; intro g' L' h' FG' F' N' B' X' T'; (try dsimp only); (try k_fold))
  k_with "eval ListComp" => (refine Stop.out ?_)
  k_steps
  refine Stop.go ?_
  rename Fr _ _ _ _ => lF'
  rename News _ _ _ _ => lN'
  refine comp_evalF lF' (by with_unfolding_all rfl) (by decide) (by rfl) (by decide) ?_
  k_steps
  refine go_flat0 (fun i ys => StrsAre ys ((n.take i).map fun c => (⟨#[c.toNat]⟩ : Str))) (by rfl) (by rfl) (src_bytes (by rfl) lF' lN') (by rw [sizeLine_eq]; omega) trivial .nil (fun i v ys I oI C oC D m₂ hh tk E' hi hP hK hl hC hv F' N' off3 ne3 => ?_) (fun a' hh tk ys m' hm F' N' o1 l1 hK => ?_)
  · clear lF' lN'
    obtain ⟨c, u, hc, rfl⟩ := hP
    have hlt := c.toNat_lt
    k_steps
    exact flat_end (by k_asm) (by k_asm) (fun _ h => h) off3 trivial (by rw [List.take_add_one, hc]; simpa using strs_snoc hK)
  · clear lF' lN'
    subst hm
    (try dsimp only [List.cons_append, List.nil_append])
    (try k_unmd)
    k_fold
    rw [List.take_length] at hK
    k_steps
    have hj0 : (Str.ofString "").length = 0 := by decide
    refine join_list (items := ys.toArray) (ys := n.map fun c => (⟨#[c.toNat]⟩ : Str)) ?_ hK (by rw [ones_sum (fun c => c), List.length_map, hj0]; omega) ?_
    · exact lst_is N' (.head _)
    intro t' tk'
    rw [join_bytes]
    k_steps
    exact ret _ _ _ (by k_asm) (newsT (by assumption))
end

local macro_rules | `(tactic| k_mem) => `(tactic| ((with_reducible (repeat (first | exact List.mem_cons_self | assumption | exact List.mem_append_left _ (by assumption) | refine List.mem_cons_of_mem _ ?_ | refine List.mem_append_right _ ?_))); done))
noncomputable def FieldAt (w : World) (led : List (Addr × Obj)) (v : Value) (r : Row) : Prop :=
  ∃ x d t1 t2 tn tr, v = .ref x ∧ (x, instObj 162 d) ∈ led ∧ (d, fieldD w r.name r.raw t1 t2 tn tr) ∈ led
theorem FieldAt.mono {w : World} {led led' : List (Addr × Obj)} (h : ∀ p ∈ led, p ∈ led') (v : Value) (r : Row) (x : FieldAt w led v r) : FieldAt w led' v r := by
  obtain ⟨y, d, t1, t2, tn, tr, e, b, c⟩ := x
  exact ⟨y, d, t1, t2, tn, tr, e, h _ b, h _ c⟩
theorem spans_len (xs : List UInt8) (stop : Int) : ∀ (n : Nat) (here : Int), (spans xs stop n here).1.length ≤ n
  | 0, _ => Nat.le_refl _
  | n + 1, here => by
    unfold spans
    split
    · split
      · exact Nat.zero_le _
      · split
        · exact Nat.zero_le _
        · dsimp only
          rw [List.length_cons]
          exact Nat.succ_le_succ (spans_len xs stop n _)
    · exact Nat.zero_le _
section
variable {prog : Program} {w : World} {p : Program} {loose : List Str} {mean : ExcName → Option Value} {mg mb : Str → Option Value}
  {dp un : Nat} {gd : Option (List Code)} {cn : Str} {cs : Scope} {a : Addr} {ccd : Value} {cl : List (Str × Addr)} {outer : List Env} {A₀ : Around} {base h₀ : Heap} {L : Addr} {m : Str → Option Value} {news : List (Addr × Obj)} {s : Shared}
  {Q E : Value → Shared → Prop}
theorem read_fields_ok {xs : List UInt8} {at0 stop : Int} {t ti te : Tok} (B : Below A₀ base outer h₀) (F : Fr h₀ L s.heap m) (X : (Mine.K0 w.params).In h₀) (N : News h₀ L s.heap news) (T : Top p loose mean mg mb h₀) (hk : cs.kind = .function)
   (hd : dp + 4 < recursionLimit) (h0 : 0 ≤ at0) (h1 : at0 ≤ stop) (h2 : stop ≤ (xs.length : Int)) (h3 : xs.length < 1048576)
   (ret : ∀ T l vs k rs body tz h' tk' led, Fr h₀ L h' m → News h₀ L h' (led ++ news) → (T, tupOf [.ref l, .int body tz]) ∈ led → (l, listOf vs.toArray k) ∈ led → Two (FieldAt w led) vs rs → spans xs stop (stop - at0).toNat at0 = (rs, body) →
     (∀ q ∈ led, ∀ p ∈ news, @LT.lt Nat _ p.1 q.1) → Q (.ref T) {s with heap := h', toks := tk'}) :
   wpAny (model prog w) (ktrTop dp un gd cn cs L a ccd cl outer) (call (.ref 201) [.bytes xs.toArray t, .int at0 ti, .int stop te]) Q E s := by
  refine wpAny_call ?_
  k_with_none
  k_with "call ref" => (k_here; (with_reducible show wpAny _ _ (call (Value.ref 195) _ _) _ _ _); k_dflt (refine' read_spans_ok ?mB ?mF ?mX ?mN ?mT ?mk ?md ?mh0 ?mh1 ?mh2 ?mh3 ?_; kbo_bools; (case mh0 => omega); (case mh1 => omega); (case mh2 => omega); (case mh3 => omega); k_whole); intro T' l' vs' k' rs' body' tz' h' tk' led' F' N' hT' hl' h2' hsp' ho'; kct_strs)
  k_dflt (refine' code_def ?k1 ?k2 ?k3 ?k4 ?k5 ?kA ?kF ?kK ?k6 ?k7 ?k8 ?k9 ?kB ?_ ?c2 ?c3 ?c4 ?c5; (case kA => exact rfl); (case kF => exact rfl); (case kK => first | exact rfl | assumption); (case k1 => k_asm); (case k2 => k_asm); (case k3 => k_asm); (case k4 => k_asm); (case k5 => k_asm); (case k6 => (refine' Eq.trans ?ql9 ?qr9; (case ql9 => k_is); (case qr9 => ((conv in (fnA _) => whnf); (conv in (fnB _) => whnf); (conv in (fnS _) => whnf); exact rfl)))); (case k7 => k_is); (case k8 => first | ktr_room | omega); (case k9 => first | exact BindsTo.of_eq rfl | exact binds_K (by k_in) rfl (by k_is) rfl rfl rfl); (case c5 => decide); (case kB => exact locs rfl); (case c2 => exact rfl); (case c3 => exact rfl); (case c4 => exact rfl); k_whole; intro g' L' h' FG' F' N' B' X' T'; (try dsimp only); (try k_fold))
  k_with "eval ListComp" => (refine Stop.out ?_)
  k_steps
  refine Stop.go ?_
  rename Fr _ _ _ _ => lF'
  rename News _ _ _ _ => lN'
  have hlen := spans_len xs stop (stop - at0).toNat at0
  rw [hsp', ← h2'.length] at hlen
  refine comp_evalF lF' (by with_unfolding_all rfl) (by decide) (by rfl) (by decide) ?_
  k_steps
  refine go_flat0 (fun i ys => Two (FieldAt w led') ys (List.take i rs')) (by rfl) (by rfl) (src_list (by rfl) lF' lN' (.inr ⟨_, List.mem_append_left _ hl', rfl, _, rfl⟩)) (by rw [sizeLine_eq, List.size_toArray]; omega) (.inr ⟨_, List.mem_append_left _ hl', rfl, _, rfl⟩) .nil (fun i v ys I oI C oC D m₂ hh tk E' hi hP hK hl hC hv F' N' off3 ne3 => ?_) (fun a' hh tk ys m' hm F' N' o1 la1 hK => ?_)
  · clear lF' lN'
    rw [List.getElem?_toArray] at hP
    obtain ⟨r, hr, T3, x3, d3, t1, t2, tn, tr, tb, te, rfl, hT3, hx3, hd3⟩ := h2'.get hP
    k_steps
    exact flat_end (by k_asm) (by k_asm) (fun _ h => h) off3 (.inr ⟨_, List.mem_append_left _ hl', rfl, _, rfl⟩) (by rw [List.take_add_one, hr]; exact hK.snoc ⟨x3, d3, t1, t2, tn, tr, rfl, hx3, hd3⟩)
  · clear lF' lN'
    subst hm
    (try dsimp only [List.cons_append, List.nil_append])
    (try k_unmd)
    k_fold
    rw [List.size_toArray, h2'.length, List.take_length] at hK
    k_steps
    rename _ ∧ AllLt _ _ => l1n
    refine ret _ _ _ _ _ _ _ _ _ (_ :: _ :: led') (by k_asm) (by k_asm) (.head _) (.tail _ (.head _)) (hK.imp (FieldAt.mono fun p hp => .tail _ (.tail _ hp))) hsp' ?_
    intro q hq p hp
    simp only [List.mem_cons] at hq
    rcases hq with rfl | rfl | hq
    · exact Nat.lt_trans (la1 p (List.mem_append_right _ hp)) l1n.1
    · exact la1 p (List.mem_append_right _ hp)
    · exact ho' q hq p hp
end

theorem sOf_inj {a b : List UInt8} (h : sOf a = sOf b) : a = b := by
  have h := congrArg (fun x : Str => x.cps.toList) h
  dsimp only at h
  exact List.map_inj_right (fun x y e => UInt8.toNat_inj.mp e) |>.mp h
theorem sOf_ne {a b : List UInt8} (h : a ≠ b) : (sOf a == sOf b) = false := by
  rw [beq_eq_false_iff_ne]
  exact fun e => h (sOf_inj e)
section
variable {prog : Program} {w : World} {p : Program} {loose : List Str} {mean : ExcName → Option Value} {mg mb : Str → Option Value}
  {dp un : Nat} {gd : Option (List Code)} {cn : Str} {cs : Scope} {a : Addr} {ccd : Value} {cl : List (Str × Addr)} {outer : List Env} {A₀ : Around} {base h₀ : Heap} {L : Addr} {m : Str → Option Value} {news : List (Addr × Obj)} {s : Shared}
  {Q E : Value → Shared → Prop}
theorem first_none_ok {xs : List UInt8} {l : Addr} {vs : List Value} {k : Nat} {rs : List Row} {t : Tok} (B : Below A₀ base outer h₀) (F : Fr h₀ L s.heap m) (X : (Mine.K0 w.params).In h₀) (N : News h₀ L s.heap news) (T : Top p loose mean mg mb h₀) (hk : cs.kind = .function)
   (hd : dp + 4 < recursionLimit) (h3 : xs.length < 1048576) (hl : (l, listOf vs.toArray k) ∈ news) (h2 : Two (FieldAt w news) vs rs) (hnl : ∀ r ∈ rs, r.name.length < 1048576) (hno : ∀ r ∈ rs, r.name.map lowB ≠ xs.map lowB)
   (ret : ∀ h' tk', Fr h₀ L h' m → News h₀ L h' news → Q .none {s with heap := h', toks := tk'}) :
   wpAny (model prog w) (ktrTop dp un gd cn cs L a ccd cl outer) (call (.ref 222) [.ref l, .str (sOf xs) t]) Q E s := by
  refine wpAny_call ?_
  k_with_none
  k_with "call ref" => (k_here; (with_reducible show wpAny _ _ (call (Value.ref 124) _ _) _ _ _); k_dflt (refine' lower_text_ok ?mB ?mF ?mX ?mN ?mT ?mk ?md ?mh0 ?_; kbo_bools; (case mh0 => (first | omega | (simp only [List.length_map]; omega))); k_whole); intro t' h' tk' F' N'; kct_strs)
  k_with "SrchPost" => (dsimp only [SrchPost])
  k_with "call ref" => (k_here; (with_reducible show wpAny _ _ (call (Value.ref 152) _ _) _ _ _); k_dflt (refine' word_ok ?mB ?mF ?mX ?mN ?mT ?mk ?md ?mh0 ?mh1 ?mh2 ?_; kbo_bools; (case mh0 => assumption); (case mh1 => (first | assumption | k_mem)); (case mh2 => (first | assumption | k_mem)); k_whole); intro tw' hw' tkw' F' N'; kct_strs)
  k_dflt (refine' code_def ?k1 ?k2 ?k3 ?k4 ?k5 ?kA ?kF ?kK ?k6 ?k7 ?k8 ?k9 ?kB ?_ ?c2 ?c3 ?c4 ?c5; (case kA => exact rfl); (case kF => exact rfl); (case kK => first | exact rfl | assumption); (case k1 => k_asm); (case k2 => k_asm); (case k3 => k_asm); (case k4 => k_asm); (case k5 => k_asm); (case k6 => (refine' Eq.trans ?ql9 ?qr9; (case ql9 => k_is); (case qr9 => ((conv in (fnA _) => whnf); (conv in (fnB _) => whnf); (conv in (fnS _) => whnf); exact rfl)))); (case k7 => k_is); (case k8 => first | ktr_room | omega); (case k9 => first | exact BindsTo.of_eq rfl | exact binds_K (by k_in) rfl (by k_is) rfl rfl rfl); (case c5 => decide); (case kB => exact locs rfl); (case c2 => exact rfl); (case c3 => exact rfl); (case c4 => exact rfl); k_whole; intro g' L' h' FG' F' N' B' X' T'; (try dsimp only); (try k_fold))
  k_with "pyIter ref" => (refine Stop.out ?_)
  k_steps
  refine Stop.go ?_
  rename Fr _ _ _ _ => lF'
  rename News _ _ _ _ => lN'
  refine list_search (fun _ => True) (by rfl) lF' lN' hl rfl rfl (fun v I it hh tk hv hI F' N' => ?_) (fun u hh tk _ F' N' => ?_)
  · clear lF' lN'
    obtain ⟨i, hi⟩ := List.mem_iff_getElem?.mp hv
    obtain ⟨r, hr, x3, d3, t1, t2, tn, tr, rfl, hx3, hd3⟩ := h2.get hi
    have hrm := List.mem_of_getElem? hr
    have hne := sOf_ne (hno r hrm)
    have hnl' := hnl r hrm
    (try k_unmd)
    k_fold
    k_with "exec Return some" => (exfalso; exact absurd ‹(sOf _ == sOf _) = true› (by rw [hne]; exact Bool.false_ne_true))
    k_steps
    exact ⟨_, _, _, rfl, (by assumption), (by assumption), (by intro z hz; simp [hz]), trivial⟩
  · clear lF' lN'
    k_steps
    exact ret _ _ (by k_asm) (by k_asm)
end

section
variable {prog : Program} {w : World} {p : Program} {loose : List Str} {mean : ExcName → Option Value} {mg mb : Str → Option Value}
  {dp un : Nat} {gd : Option (List Code)} {cn : Str} {cs : Scope} {a : Addr} {ccd : Value} {cl : List (Str × Addr)} {outer : List Env} {A₀ : Around} {base h₀ : Heap} {L : Addr} {m : Str → Option Value} {news : List (Addr × Obj)} {s : Shared}
  {Q E : Value → Shared → Prop}
noncomputable abbrev kindD (w : World) (top sub : Str) (pa : Addr) (t1 t2 t3 tt ts : Tok) : Obj := dictOf [ent w "top" t1 (.str top tt), ent w "sub" t2 (.str sub ts), ent w "params" t3 (.ref pa)] 3
theorem kind_new_ok {top sub : Str} {pa : Addr} {tt ts : Tok} (B : Below A₀ base outer h₀) (F : Fr h₀ L s.heap m) (X : (Mine.K0 w.params).In h₀) (N : News h₀ L s.heap news) (T : Top p loose mean mg mb h₀) (hk : cs.kind = .function)
   (hd : dp + 2 < recursionLimit)
   (ret : ∀ x d t1 t2 t3 h' tk', Fr h₀ L h' m → News h₀ L h' ((x, instObj 413 d) :: (d, kindD w top sub pa t1 t2 t3 tt ts) :: news) → (∀ p ∈ news, p.1 < d) → d < x → Q (.ref x) {s with heap := h', toks := tk'}) :
   wpAny (model prog w) (ktrTop dp un gd cn cs L a ccd cl outer) (call (.ref 413) [.str top tt, .str sub ts, .ref pa]) Q E s := by
  k_with_none
  k_here
  refine' call_cls ?k1 ?k2 ?k3 ?k4 ?k5 ?k6 ?_; (case k1 => k_asm); (case k2 => k_asm); (case k3 => k_asm); (case k4 => k_is); (case k5 => k_is); (case k6 => k_is); k_whole; intro x' d' h' F' N' l1 l2; (try k_sweep)
  have l1o := l1
  have l2o := l2
  (try k_lt l1)
  (try k_lt2 l2)
  k_dflt ktr_enter
  k_steps
  exact ret _ _ _ _ _ _ _ (by k_asm) (by k_asm) l1o l2o
end
section
variable {prog : Program} {w : World} {p : Program} {loose : List Str} {mean : ExcName → Option Value} {mg mb : Str → Option Value}
  {dp un : Nat} {gd : Option (List Code)} {cn : Str} {cs : Scope} {a : Addr} {ccd : Value} {cl : List (Str × Addr)} {outer : List Env} {A₀ : Around} {base h₀ : Heap} {L : Addr} {m : Str → Option Value} {news : List (Addr × Obj)} {s : Shared}
  {Q E : Value → Shared → Prop}
theorem plain_kind_ok (B : Below A₀ base outer h₀) (F : Fr h₀ L s.heap m) (X : (Mine.K0 w.params).In h₀) (N : News h₀ L s.heap news) (T : Top p loose mean mg mb h₀) (hk : cs.kind = .function)
   (hd : dp + 3 < recursionLimit)
   (ret : ∀ x d pa po t1 t2 t3 tt ts h' tk', Fr h₀ L h' m → News h₀ L h' ((x, instObj 413 d) :: (d, kindD w (Str.ofString "text") (Str.ofString "plain") pa t1 t2 t3 tt ts) :: (pa, po) :: news) → (∀ p ∈ news, p.1 < pa) → pa < d → d < x → Q (.ref x) {s with heap := h', toks := tk'}) :
   wpAny (model prog w) (ktrTop dp un gd cn cs L a ccd cl outer) (call (.ref 424) []) Q E s := by
  refine wpAny_call ?_
  k_with_none
  k_with "call ref" => (k_here; (with_reducible show wpAny _ _ (call (Value.ref 413) _ _) _ _ _); k_dflt (refine' kind_new_ok ?mB ?mF ?mX ?mN ?mT ?mk ?md  ?_; kbo_bools;  k_whole); intro xk dk t1k t2k t3k hk' tkk F' N' lk1 lk2; (try k_lt lk1); (try k_lt2 lk2); kct_strs)
  k_dflt (refine' code_def ?k1 ?k2 ?k3 ?k4 ?k5 ?kA ?kF ?kK ?k6 ?k7 ?k8 ?k9 ?kB ?_ ?c2 ?c3 ?c4 ?c5; (case kA => exact rfl); (case kF => exact rfl); (case kK => first | exact rfl | assumption); (case k1 => k_asm); (case k2 => k_asm); (case k3 => k_asm); (case k4 => k_asm); (case k5 => k_asm); (case k6 => (refine' Eq.trans ?ql9 ?qr9; (case ql9 => k_is); (case qr9 => ((conv in (fnA _) => whnf); (conv in (fnB _) => whnf); (conv in (fnS _) => whnf); exact rfl)))); (case k7 => k_is); (case k8 => first | ktr_room | omega); (case k9 => first | exact BindsTo.of_eq rfl | exact binds_K (by k_in) rfl (by k_is) rfl rfl rfl); (case c5 => decide); (case kB => exact locs rfl); (case c2 => exact rfl); (case c3 => exact rfl); (case c4 => exact rfl); k_whole; intro g' L' h' FG' F' N' B' X' T'; (try dsimp only); (try k_fold))
  k_steps
  exact ret _ _ _ _ _ _ _ _ _ _ _ (by k_asm) (by k_asm) (by assumption) lk1.1 lk2
end
section
variable {prog : Program} {w : World} {p : Program} {loose : List Str} {mean : ExcName → Option Value} {mg mb : Str → Option Value}
  {dp un : Nat} {gd : Option (List Code)} {cn : Str} {cs : Scope} {a : Addr} {ccd : Value} {cl : List (Str × Addr)} {outer : List Env} {A₀ : Around} {base h₀ : Heap} {L : Addr} {m : Str → Option Value} {news : List (Addr × Obj)} {s : Shared}
  {Q E : Value → Shared → Prop}
theorem read_kind_none_ok (B : Below A₀ base outer h₀) (F : Fr h₀ L s.heap m) (X : (Mine.K0 w.params).In h₀) (N : News h₀ L s.heap news) (T : Top p loose mean mg mb h₀) (hk : cs.kind = .function)
   (hd : dp + 4 < recursionLimit)
   (ret : ∀ x d pa po t1 t2 t3 tt ts h' tk', Fr h₀ L h' m → News h₀ L h' ((x, instObj 413 d) :: (d, kindD w (Str.ofString "text") (Str.ofString "plain") pa t1 t2 t3 tt ts) :: (pa, po) :: news) → (∀ p ∈ news, p.1 < pa) → pa < d → d < x → Q (.ref x) {s with heap := h', toks := tk'}) :
   wpAny (model prog w) (ktrTop dp un gd cn cs L a ccd cl outer) (call (.ref 530) [.none]) Q E s := by
  refine wpAny_call ?_
  k_with_none
  k_with "call ref" => (k_here; (with_reducible show wpAny _ _ (call (Value.ref 424) _ _) _ _ _); k_dflt (refine' plain_kind_ok ?mB ?mF ?mX ?mN ?mT ?mk ?md  ?_; kbo_bools;  k_whole); intro xk dk pk pok t1k t2k t3k t4k t5k hk' tkk F' N' lk1 lk2 lk3; have lk1o := lk1; (try k_lt lk1); (try k_lt2 lk2); (try k_lt2 lk3); kct_strs)
  k_dflt (refine' code_def ?k1 ?k2 ?k3 ?k4 ?k5 ?kA ?kF ?kK ?k6 ?k7 ?k8 ?k9 ?kB ?_ ?c2 ?c3 ?c4 ?c5; (case kA => exact rfl); (case kF => exact rfl); (case kK => first | exact rfl | assumption); (case k1 => k_asm); (case k2 => k_asm); (case k3 => k_asm); (case k4 => k_asm); (case k5 => k_asm); (case k6 => (refine' Eq.trans ?ql9 ?qr9; (case ql9 => k_is); (case qr9 => ((conv in (fnA _) => whnf); (conv in (fnB _) => whnf); (conv in (fnS _) => whnf); exact rfl)))); (case k7 => k_is); (case k8 => first | ktr_room | omega); (case k9 => first | exact BindsTo.of_eq rfl | exact binds_K (by k_in) rfl (by k_is) rfl rfl rfl); (case c5 => decide); (case kB => exact locs rfl); (case c2 => exact rfl); (case c3 => exact rfl); (case c4 => exact rfl); k_whole; intro g' L' h' FG' F' N' B' X' T'; (try dsimp only); (try k_fold))
  k_steps
  exact ret _ _ _ _ _ _ _ _ _ _ _ (by k_asm) (by k_asm) (by assumption) (by assumption) (by assumption)
end

noncomputable def ctB : List UInt8 := [99, 111, 110, 116, 101, 110, 116, 45, 116, 121, 112, 101]
noncomputable def cteB : List UInt8 := [99, 111, 110, 116, 101, 110, 116, 45, 116, 114, 97, 110, 115, 102, 101, 114, 45, 101, 110, 99, 111, 100, 105, 110, 103]
structure plainRows (rs : List Row) : Prop where
  h : ∀ r ∈ rs, r.name.length < 1048576 ∧ r.name.map lowB ≠ ctB ∧ r.name.map lowB ≠ cteB
section
variable {prog : Program} {w : World} {p : Program} {loose : List Str} {mean : ExcName → Option Value} {mg mb : Str → Option Value}
  {dp un : Nat} {gd : Option (List Code)} {cn : Str} {cs : Scope} {a : Addr} {ccd : Value} {cl : List (Str × Addr)} {outer : List Env} {A₀ : Around} {base h₀ : Heap} {L : Addr} {m : Str → Option Value} {news : List (Addr × Obj)} {s : Shared}
  {Q E : Value → Shared → Prop}
theorem first_ct {l : Addr} {vs : List Value} {k : Nat} {rs : List Row} {t : Tok} (B : Below A₀ base outer h₀) (F : Fr h₀ L s.heap m) (X : (Mine.K0 w.params).In h₀) (N : News h₀ L s.heap news) (T : Top p loose mean mg mb h₀) (hk : cs.kind = .function)
   (hd : dp + 4 < recursionLimit) (hl : (l, listOf vs.toArray k) ∈ news) (h2 : Two (FieldAt w news) vs rs) (hp : plainRows rs)
   (ret : ∀ h' tk', Fr h₀ L h' m → News h₀ L h' news → Q .none {s with heap := h', toks := tk'}) :
   wpAny (model prog w) (ktrTop dp un gd cn cs L a ccd cl outer) (call (.ref 222) [.ref l, .str (Str.ofString "content-type") t]) Q E s := by
  rw [show Str.ofString "content-type" = sOf ctB from rfl]
  exact first_none_ok B F X N T hk hd (by decide) hl h2 (fun r hr => (hp.h r hr).1) (fun r hr => (hp.h r hr).2.1) ret
theorem first_cte {l : Addr} {vs : List Value} {k : Nat} {rs : List Row} {t : Tok} (B : Below A₀ base outer h₀) (F : Fr h₀ L s.heap m) (X : (Mine.K0 w.params).In h₀) (N : News h₀ L s.heap news) (T : Top p loose mean mg mb h₀) (hk : cs.kind = .function)
   (hd : dp + 4 < recursionLimit) (hl : (l, listOf vs.toArray k) ∈ news) (h2 : Two (FieldAt w news) vs rs) (hp : plainRows rs)
   (ret : ∀ h' tk', Fr h₀ L h' m → News h₀ L h' news → Q .none {s with heap := h', toks := tk'}) :
   wpAny (model prog w) (ktrTop dp un gd cn cs L a ccd cl outer) (call (.ref 222) [.ref l, .str (Str.ofString "content-transfer-encoding") t]) Q E s := by
  rw [show Str.ofString "content-transfer-encoding" = sOf cteB from rfl]
  exact first_none_ok B F X N T hk hd (by decide) hl h2 (fun r hr => (hp.h r hr).1) (fun r hr => (hp.h r hr).2.2) ret
end
section
variable {prog : Program} {w : World} {p : Program} {loose : List Str} {mean : ExcName → Option Value} {mg mb : Str → Option Value}
  {dp un : Nat} {gd : Option (List Code)} {cn : Str} {cs : Scope} {a : Addr} {ccd : Value} {cl : List (Str × Addr)} {outer : List Env} {A₀ : Around} {base h₀ : Heap} {L : Addr} {m : Str → Option Value} {news : List (Addr × Obj)} {s : Shared}
  {Q E : Value → Shared → Prop}
theorem encoding_ok {l : Addr} {vs : List Value} {k : Nat} {rs : List Row} (B : Below A₀ base outer h₀) (F : Fr h₀ L s.heap m) (X : (Mine.K0 w.params).In h₀) (N : News h₀ L s.heap news) (T : Top p loose mean mg mb h₀) (hk : cs.kind = .function)
   (hd : dp + 5 < recursionLimit) (hl : (l, listOf vs.toArray k) ∈ news) (h2 : Two (FieldAt w news) vs rs) (hp : plainRows rs)
   (ret : ∀ t' h' tk', Fr h₀ L h' m → News h₀ L h' news → Q (.str (Str.ofString "7bit") t') {s with heap := h', toks := tk'}) :
   wpAny (model prog w) (ktrTop dp un gd cn cs L a ccd cl outer) (call (.ref 564) [.ref l]) Q E s := by
  refine wpAny_call ?_
  k_with_none
  k_with "call ref" => (k_here; (with_reducible show wpAny _ _ (call (Value.ref 222) _ _) _ _ _); k_dflt (refine' first_cte ?mB ?mF ?mX ?mN ?mT ?mk ?md ?q81ml ?q626m2 ?q948mp ?_; kbo_bools; (case q81ml => first | assumption | k_mem); (case q626m2 => first | assumption | (refine Two.imp (FieldAt.mono ?_) (by assumption); intro p hp; k_mem)); (case q948mp => first | exact hp _ _ hspf | assumption); k_whole); intro h' tk' F' N'; kct_strs)
  k_dflt (refine' code_def ?k1 ?k2 ?k3 ?k4 ?k5 ?kA ?kF ?kK ?k6 ?k7 ?k8 ?k9 ?kB ?_ ?c2 ?c3 ?c4 ?c5; (case kA => exact rfl); (case kF => exact rfl); (case kK => first | exact rfl | assumption); (case k1 => k_asm); (case k2 => k_asm); (case k3 => k_asm); (case k4 => k_asm); (case k5 => k_asm); (case k6 => (refine' Eq.trans ?ql9 ?qr9; (case ql9 => k_is); (case qr9 => ((conv in (fnA _) => whnf); (conv in (fnB _) => whnf); (conv in (fnS _) => whnf); exact rfl)))); (case k7 => k_is); (case k8 => first | ktr_room | omega); (case k9 => first | exact BindsTo.of_eq rfl | exact binds_K (by k_in) rfl (by k_is) rfl rfl rfl); (case c5 => decide); (case kB => exact locs rfl); (case c2 => exact rfl); (case c3 => exact rfl); (case c4 => exact rfl); k_whole; intro g' L' h' FG' F' N' B' X' T'; (try dsimp only); (try k_fold))
  k_steps
  exact ret _ _ _ (by k_asm) (by k_asm)
end

section
variable {prog : Program} {w : World} {p : Program} {loose : List Str} {mean : ExcName → Option Value} {mg mb : Str → Option Value}
  {dp un : Nat} {gd : Option (List Code)} {cn : Str} {cs : Scope} {a : Addr} {ccd : Value} {cl : List (Str × Addr)} {outer : List Env} {A₀ : Around} {base h₀ : Heap} {L : Addr} {m : Str → Option Value} {news : List (Addr × Obj)} {s : Shared}
  {Q E : Value → Shared → Prop}
noncomputable abbrev partD (w : World) (b body e : Int) (l kd kids : Addr) (enc : Value) (tb tbo te : Tok) (t1 t2 t3 t4 t5 t6 t7 t8 : Tok) : Obj :=
  dictOf [ent w "begin" t1 (.int b tb), ent w "body" t2 (.int body tbo), ent w "end" t3 (.int e te), ent w "fields" t4 (.ref l), ent w "kind" t5 (.ref kd), ent w "encoding" t6 enc, ent w "kids" t7 (.ref kids), ent w "inner" t8 .none] 8
theorem part_new_ok {b body e : Int} {tb tbo te : Tok} {l kd : Addr} {vs : List Value} {k : Nat} {rs : List Row} (B : Below A₀ base outer h₀) (F : Fr h₀ L s.heap m) (X : (Mine.K0 w.params).In h₀) (N : News h₀ L s.heap news) (T : Top p loose mean mg mb h₀) (hk : cs.kind = .function)
   (hd : dp + 7 < recursionLimit) (hl : (l, listOf vs.toArray k) ∈ news) (h2 : Two (FieldAt w news) vs rs) (hp : plainRows rs)
   (ret : ∀ x d kids te' t1 t2 t3 t4 t5 t6 t7 t8 h' tk', Fr h₀ L h' m → News h₀ L h' ((kids, listOf #[] 0) :: (x, instObj 555 d) :: (d, partD w b body e l kd kids (.str (Str.ofString "7bit") te') tb tbo te t1 t2 t3 t4 t5 t6 t7 t8) :: news) → (∀ p ∈ news, p.1 < d) → d < x → x < kids → Q (.ref x) {s with heap := h', toks := tk'}) :
   wpAny (model prog w) (ktrTop dp un gd cn cs L a ccd cl outer) (call (.ref 555) [.int b tb, .int body tbo, .int e te, .ref l, .ref kd]) Q E s := by
  k_with_none
  k_with "call ref" => (k_here; (with_reducible show wpAny _ _ (call (Value.ref 564) _ _) _ _ _); k_dflt (refine' encoding_ok ?mB ?mF ?mX ?mN ?mT ?mk ?md ?mh0 ?mh1 ?mh2 ?_; kbo_bools; (case mh0 => (first | assumption | k_mem)); (case mh1 => (first | assumption | (refine Two.imp (FieldAt.mono ?_) (by assumption); intro p hp; k_mem))); (case mh2 => (first | exact hp _ _ hspf | assumption)); k_whole); intro te' he' tke' F' N'; kct_strs)
  k_here
  refine' call_cls ?k1 ?k2 ?k3 ?k4 ?k5 ?k6 ?_; (case k1 => k_asm); (case k2 => k_asm); (case k3 => k_asm); (case k4 => k_is); (case k5 => k_is); (case k6 => k_is); k_whole; intro x' d' h' F' N' l1 l2; (try k_sweep)
  have l1o := l1
  have l2o := l2
  (try k_lt l1)
  (try k_lt2 l2)
  k_dflt ktr_enter
  k_steps
  rename _ ∧ _ ∧ AllLt _ _ => l1n
  exact ret _ _ _ _ _ _ _ _ _ _ _ _ _ _ (by k_asm) (by k_asm) l1o l2o l1n.1
end

section
variable {prog : Program} {w : World} {p : Program} {loose : List Str} {mean : ExcName → Option Value} {mg mb : Str → Option Value}
  {dp un : Nat} {gd : Option (List Code)} {cn : Str} {cs : Scope} {a : Addr} {ccd : Value} {cl : List (Str × Addr)} {outer : List Env} {A₀ : Around} {base h₀ : Heap} {L : Addr} {m : Str → Option Value} {news : List (Addr × Obj)} {s : Shared}
  {Q E : Value → Shared → Prop}
noncomputable abbrev plainK (w : World) (d pa : Addr) (t1 t2 t3 tt ts : Tok) : Addr × Obj := (d, kindD w (Str.ofString "text") (Str.ofString "plain") pa t1 t2 t3 tt ts)
theorem is_multi_ok {kd d pa : Addr} {t1 t2 t3 tt ts : Tok} (B : Below A₀ base outer h₀) (F : Fr h₀ L s.heap m) (X : (Mine.K0 w.params).In h₀) (N : News h₀ L s.heap news) (T : Top p loose mean mg mb h₀) (hk : cs.kind = .function)
   (hd : dp + 1 < recursionLimit) (hx : (kd, instObj 413 d) ∈ news) (hdd : plainK w d pa t1 t2 t3 tt ts ∈ news)
   (ret : ∀ h' tk', Fr h₀ L h' m → News h₀ L h' news → Q (.bool false) {s with heap := h', toks := tk'}) :
   wpAny (model prog w) (ktrTop dp un gd cn cs L a ccd cl outer) (call (.ref 396) [.ref kd]) Q E s := by
  refine wpAny_call ?_
  k_with_none
  k_dflt (refine' code_def ?k1 ?k2 ?k3 ?k4 ?k5 ?kA ?kF ?kK ?k6 ?k7 ?k8 ?k9 ?kB ?_ ?c2 ?c3 ?c4 ?c5; (case kA => exact rfl); (case kF => exact rfl); (case kK => first | exact rfl | assumption); (case k1 => k_asm); (case k2 => k_asm); (case k3 => k_asm); (case k4 => k_asm); (case k5 => k_asm); (case k6 => (refine' Eq.trans ?ql9 ?qr9; (case ql9 => k_is); (case qr9 => ((conv in (fnA _) => whnf); (conv in (fnB _) => whnf); (conv in (fnS _) => whnf); exact rfl)))); (case k7 => k_is); (case k8 => first | ktr_room | omega); (case k9 => first | exact BindsTo.of_eq rfl | exact binds_K (by k_in) rfl (by k_is) rfl rfl rfl); (case c5 => decide); (case kB => exact locs rfl); (case c2 => exact rfl); (case c3 => exact rfl); (case c4 => exact rfl); k_whole; intro g' L' h' FG' F' N' B' X' T'; (try dsimp only); (try k_fold))
  k_steps
  exact ret _ _ (by k_asm) (by k_asm)
theorem is_letter_ok {kd d pa : Addr} {t1 t2 t3 tt ts : Tok} (B : Below A₀ base outer h₀) (F : Fr h₀ L s.heap m) (X : (Mine.K0 w.params).In h₀) (N : News h₀ L s.heap news) (T : Top p loose mean mg mb h₀) (hk : cs.kind = .function)
   (hd : dp + 1 < recursionLimit) (hx : (kd, instObj 413 d) ∈ news) (hdd : plainK w d pa t1 t2 t3 tt ts ∈ news)
   (ret : ∀ h' tk', Fr h₀ L h' m → News h₀ L h' news → Q (.bool false) {s with heap := h', toks := tk'}) :
   wpAny (model prog w) (ktrTop dp un gd cn cs L a ccd cl outer) (call (.ref 403) [.ref kd]) Q E s := by
  refine wpAny_call ?_
  k_with_none
  k_dflt (refine' code_def ?k1 ?k2 ?k3 ?k4 ?k5 ?kA ?kF ?kK ?k6 ?k7 ?k8 ?k9 ?kB ?_ ?c2 ?c3 ?c4 ?c5; (case kA => exact rfl); (case kF => exact rfl); (case kK => first | exact rfl | assumption); (case k1 => k_asm); (case k2 => k_asm); (case k3 => k_asm); (case k4 => k_asm); (case k5 => k_asm); (case k6 => (refine' Eq.trans ?ql9 ?qr9; (case ql9 => k_is); (case qr9 => ((conv in (fnA _) => whnf); (conv in (fnB _) => whnf); (conv in (fnS _) => whnf); exact rfl)))); (case k7 => k_is); (case k8 => first | ktr_room | omega); (case k9 => first | exact BindsTo.of_eq rfl | exact binds_K (by k_in) rfl (by k_is) rfl rfl rfl); (case c5 => decide); (case kB => exact locs rfl); (case c2 => exact rfl); (case c3 => exact rfl); (case c4 => exact rfl); k_whole; intro g' L' h' FG' F' N' B' X' T'; (try dsimp only); (try k_fold))
  k_steps
  exact ret _ _ (by k_asm) (by k_asm)
end
section
variable {prog : Program} {w : World} {p : Program} {loose : List Str} {mean : ExcName → Option Value} {mg mb : Str → Option Value}
  {dp un : Nat} {gd : Option (List Code)} {cn : Str} {cs : Scope} {a : Addr} {ccd : Value} {cl : List (Str × Addr)} {outer : List Env} {A₀ : Around} {base h₀ : Heap} {L : Addr} {m : Str → Option Value} {news : List (Addr × Obj)} {s : Shared}
  {Q E : Value → Shared → Prop}
theorem has_inner_ok {x dx l kids kd d pa : Addr} {b body e : Int} {enc : Value} {tb tbo te a1 a2 a3 a4 a5 a6 a7 a8 t1 t2 t3 tt ts : Tok} (B : Below A₀ base outer h₀) (F : Fr h₀ L s.heap m) (X : (Mine.K0 w.params).In h₀) (N : News h₀ L s.heap news) (T : Top p loose mean mg mb h₀) (hk : cs.kind = .function)
   (hd : dp + 2 < recursionLimit) (hx : (x, instObj 555 dx) ∈ news) (hdx : (dx, partD w b body e l kd kids enc tb tbo te a1 a2 a3 a4 a5 a6 a7 a8) ∈ news) (hk2 : (kd, instObj 413 d) ∈ news) (hdd : plainK w d pa t1 t2 t3 tt ts ∈ news)
   (ret : ∀ h' tk', Fr h₀ L h' m → News h₀ L h' news → Q (.bool false) {s with heap := h', toks := tk'}) :
   wpAny (model prog w) (ktrTop dp un gd cn cs L a ccd cl outer) (call (.ref 590) [.ref x]) Q E s := by
  refine wpAny_call ?_
  k_with_none
  k_with "call ref" => (k_here; (with_reducible show wpAny _ _ (call (Value.ref 403) _ _) _ _ _); k_dflt (refine' is_letter_ok ?mB ?mF ?mX ?mN ?mT ?mk ?md ?mh0 ?mh1 ?_; kbo_bools; (case mh0 => (first | assumption | k_mem)); (case mh1 => (first | assumption | k_mem)); k_whole); intro hm' tkm' F' N'; kct_strs)
  k_dflt (refine' code_def ?k1 ?k2 ?k3 ?k4 ?k5 ?kA ?kF ?kK ?k6 ?k7 ?k8 ?k9 ?kB ?_ ?c2 ?c3 ?c4 ?c5; (case kA => exact rfl); (case kF => exact rfl); (case kK => first | exact rfl | assumption); (case k1 => k_asm); (case k2 => k_asm); (case k3 => k_asm); (case k4 => k_asm); (case k5 => k_asm); (case k6 => (refine' Eq.trans ?ql9 ?qr9; (case ql9 => k_is); (case qr9 => ((conv in (fnA _) => whnf); (conv in (fnB _) => whnf); (conv in (fnS _) => whnf); exact rfl)))); (case k7 => k_is); (case k8 => first | ktr_room | omega); (case k9 => first | exact BindsTo.of_eq rfl | exact binds_K (by k_in) rfl (by k_is) rfl rfl rfl); (case c5 => decide); (case kB => exact locs rfl); (case c2 => exact rfl); (case c3 => exact rfl); (case c4 => exact rfl); k_whole; intro g' L' h' FG' F' N' B' X' T'; (try dsimp only); (try k_fold))
  k_steps
  exact ret _ _ (by k_asm) (by k_asm)
end
theorem led_join {h₀ h : Heap} {L : Addr} {a b c d : List (Addr × Obj)} (N : News h₀ L h (a ++ (b ++ (c ++ d)))) : News h₀ L h ((a ++ (b ++ c)) ++ d) := by
  rw [List.append_assoc, List.append_assoc]
  exact N
section
variable {prog : Program} {w : World} {p : Program} {loose : List Str} {mean : ExcName → Option Value} {mg mb : Str → Option Value}
  {dp un : Nat} {gd : Option (List Code)} {cn : Str} {cs : Scope} {a : Addr} {ccd : Value} {cl : List (Str × Addr)} {outer : List Env} {A₀ : Around} {base h₀ : Heap} {L : Addr} {m : Str → Option Value} {news : List (Addr × Obj)} {s : Shared}
  {Q E : Value → Shared → Prop}
noncomputable def PartAt (w : World) (led : List (Addr × Obj)) (x : Addr) (b body e : Int) : Prop :=
  ∃ dx l kd kids enc tb tbo te a1 a2 a3 a4 a5 a6 a7 a8, (x, instObj 555 dx) ∈ led ∧ (dx, partD w b body e l kd kids enc tb tbo te a1 a2 a3 a4 a5 a6 a7 a8) ∈ led ∧ (kids, listOf #[] 0) ∈ led
theorem read_part_ok {xs : List UInt8} {at0 stop : Int} {t ti te tz : Tok} (B : Below A₀ base outer h₀) (F : Fr h₀ L s.heap m) (X : (Mine.K0 w.params).In h₀) (N : News h₀ L s.heap news) (T : Top p loose mean mg mb h₀) (hk : cs.kind = .function)
   (hd : dp + 8 < recursionLimit) (h0 : 0 ≤ at0) (h1 : at0 ≤ stop) (h2 : stop ≤ (xs.length : Int)) (h3 : xs.length < 1048576) (hp : ∀ rs body, spans xs stop (stop - at0).toNat at0 = (rs, body) → plainRows rs)
   (ret : ∀ x led h' tk', Fr h₀ L h' m → News h₀ L h' (led ++ news) → PartAt w led x at0 (spans xs stop (stop - at0).toNat at0).2 stop → (∀ q ∈ led, ∀ p ∈ news, @LT.lt Nat _ p.1 q.1) → Q (.ref x) {s with heap := h', toks := tk'}) :
   wpAny (model prog w) (ktrTop dp un gd cn cs L a ccd cl outer) (call (.ref 595) [.bytes xs.toArray t, .int at0 ti, .int stop te, .int 0 tz, .bool false]) Q E s := by
  refine wpAny_call ?_
  k_with_none
  k_with "call ref" => (k_here; (with_reducible show wpAny _ _ (call (Value.ref 201) _ _) _ _ _); k_dflt (refine' read_fields_ok ?mB ?mF ?mX ?mN ?mT ?mk ?md ?mh0 ?mh1 ?mh2 ?mh3 ?_; kbo_bools; (case mh0 => omega); (case mh1 => omega); (case mh2 => omega); (case mh3 => omega); k_whole); intro Tf lf vsf kf rsf bodyf tzf hf' tkf ledf F' N' hTf hlf h2f hspf hof; kct_strs)
  k_with "call ref" => (k_here; (with_reducible show wpAny _ _ (call (Value.ref 222) _ _) _ _ _); k_dflt (refine' first_ct ?mB ?mF ?mX ?mN ?mT ?mk ?md ?q775ml ?q392m2 ?q802mp ?_; kbo_bools; (case q775ml => first | assumption | k_mem); (case q392m2 => first | assumption | (refine Two.imp (FieldAt.mono ?_) (by assumption); intro p hp; k_mem)); (case q802mp => first | exact hp _ _ hspf | assumption); k_whole); intro h' tk' F' N'; kct_strs)
  k_with "call ref" => (k_here; (with_reducible show wpAny _ _ (call (Value.ref 396) _ _) _ _ _); k_dflt (refine' is_multi_ok ?mB ?mF ?mX ?mN ?mT ?mk ?md ?mh0 ?mh1 ?_; kbo_bools; (case mh0 => (first | assumption | k_mem)); (case mh1 => (first | assumption | k_mem)); k_whole); intro hm' tkm' F' N'; kct_strs)
  k_with "call ref" => (k_here; (with_reducible show wpAny _ _ (call (Value.ref 590) _ _) _ _ _); k_dflt (refine' has_inner_ok ?mB ?mF ?mX ?mN ?mT ?mk ?md ?mh0 ?mh1 ?mh2 ?mh3 ?_; kbo_bools; (case mh0 => (first | assumption | k_mem)); (case mh1 => (first | assumption | k_mem)); (case mh2 => (first | assumption | k_mem)); (case mh3 => (first | assumption | k_mem)); k_whole); intro hm' tkm' F' N'; kct_strs)
  k_with "call ref" => (k_here; (with_reducible show wpAny _ _ (call (Value.ref 530) _ _) _ _ _); k_dflt (refine' read_kind_none_ok ?mB ?mF ?mX ?mN ?mT ?mk ?md  ?_; kbo_bools;  k_whole); intro xk dk pk pok t1k t2k t3k t4k t5k hk' tkk F' N' lk1 lk2 lk3; have lk1o := lk1; (try k_lt lk1); (try k_lt2 lk2); (try k_lt2 lk3); kct_strs)
  k_with "call ref" => (k_here; (with_reducible show wpAny _ _ (call (Value.ref 555) _ _) _ _ _); k_dflt (refine' part_new_ok ?mB ?mF ?mX ?mN ?mT ?mk ?md ?mh0 ?mh1 ?mh2 ?_; kbo_bools; (case mh0 => (first | assumption | k_mem)); (case mh1 => (first | assumption | (refine Two.imp (FieldAt.mono ?_) (by assumption); intro p hp; k_mem))); (case mh2 => (first | exact hp _ _ hspf | assumption)); k_whole); intro xp dpp kp tep t1p t2p t3p t4p t5p t6p t7p t8p hp' tkp' F' N' lp1 lp2 lp3; have lp1o := lp1; (try k_lt lp1); (try k_lt2 lp2); (try k_lt2 lp3); kct_strs)
  k_with "eval Name" => (k_here; k_dflt (refine' nameX_C ?q953N ?q481c ?q702m ?q834d ?_ ?q805a ?q365b; (case q805a => rfl); (case q365b => rfl); (case q953N => k_asm); (case q481c => rfl); (case q702m => k_mem); (case q834d => assumption); k_whole))
  k_dflt (refine' code_defC ?k1 ?k2 ?k3 ?k4 ?k5 ?kA ?kF ?kK ?k6 ?k7 ?k8 ?k9 ?kB ?kD ?_ ?c2 ?c3 ?c4; (case kA => exact rfl); (case kF => exact rfl); (case kK => first | exact rfl | assumption); (case k1 => k_asm); (case k2 => k_asm); (case k3 => k_asm); (case k4 => k_asm); (case k5 => k_asm); (case k6 => (refine' Eq.trans ?ql9 ?qr9; (case ql9 => k_is); (case qr9 => ((conv in (fnA _) => whnf); (conv in (fnB _) => whnf); (conv in (fnS _) => whnf); exact rfl)))); (case k7 => k_is); (case k8 => first | ktr_room | omega); (case k9 => first | exact BindsTo.of_eq rfl | exact binds_K (by k_in) rfl (by k_is) rfl rfl rfl); (case kB => exact rfl); (case kD => decide +kernel); (case c2 => exact rfl); (case c3 => exact rfl); (case c4 => exact rfl); k_whole; intro g' L' h' tk' cells' FG' F' N' Y' B' X' T' l1; (try k_lt l1); k_cells Y'; (try simp only [List.cons_append, List.nil_append] at N'); (try dsimp only); (try k_fold))
  k_steps
  rename News _ _ _ _ => lN'
  refine ret xp ([_, _, _, _, _, _] ++ (ledf ++ [_, _, _])) _ _ (by k_asm) (led_join lN') ?_ ?_
  · rw [hspf]
    exact ⟨_, _, _, _, _, _, _, _, _, _, _, _, _, _, _, _, .tail _ (.head _), .tail _ (.tail _ (.head _)), .head _⟩
  · have low : ∀ p ∈ news, @LT.lt Nat _ p.1 pk := fun p hp => lk1o p (List.mem_append_right _ (.tail _ (.tail _ (.tail _ hp))))
    intro q hq p hp
    have h9 := low p hp
    have h8 : @LT.lt Nat _ p.1 L' := l1 p hp
    simp only [List.mem_append, List.mem_cons, List.not_mem_nil, or_false] at hq
    rcases hq with (rfl | rfl | rfl | rfl | rfl | rfl) | hq | (rfl | rfl | rfl)
    · dsimp only; omega
    · dsimp only; omega
    · dsimp only; omega
    · dsimp only; omega
    · dsimp only; omega
    · exact h9
    · exact hof q hq p (.tail _ (.tail _ (.tail _ hp)))
    · dsimp only; omega
    · dsimp only; omega
    · dsimp only; omega
end

theorem PartAt.mono {w : World} {led led' : List (Addr × Obj)} {x : Addr} {b body e : Int} (h : ∀ p ∈ led, p ∈ led') (P : PartAt w led x b body e) : PartAt w led' x b body e := by
  obtain ⟨dx, l, kd, kids, enc, tb, tbo, te, a1, a2, a3, a4, a5, a6, a7, a8, h1, h2, h3⟩ := P
  exact ⟨dx, l, kd, kids, enc, tb, tbo, te, a1, a2, a3, a4, a5, a6, a7, a8, h _ h1, h _ h2, h _ h3⟩
section
variable {prog : Program} {w : World} {p : Program} {loose : List Str} {mean : ExcName → Option Value} {mg mb : Str → Option Value}
  {dp un : Nat} {gd : Option (List Code)} {cn : Str} {cs : Scope} {a : Addr} {ccd : Value} {cl : List (Str × Addr)} {outer : List Env} {A₀ : Around} {base h₀ : Heap} {L : Addr} {m : Str → Option Value} {news : List (Addr × Obj)} {s : Shared}
  {Q E : Value → Shared → Prop}
theorem read_message_ok {xs : List UInt8} {t : Tok} (B : Below A₀ base outer h₀) (F : Fr h₀ L s.heap m) (X : (Mine.K0 w.params).In h₀) (N : News h₀ L s.heap news) (T : Top p loose mean mg mb h₀) (hk : cs.kind = .function)
   (hd : dp + 9 < recursionLimit) (h3 : xs.length < 1048576) (hp : ∀ rs body, spans xs (xs.length : Int) ((xs.length : Int) - 0).toNat 0 = (rs, body) → plainRows rs)
   (ret : ∀ x led h' tk', Fr h₀ L h' m → News h₀ L h' (led ++ news) → PartAt w led x 0 (spans xs (xs.length : Int) ((xs.length : Int) - 0).toNat 0).2 (xs.length : Int) → (∀ q ∈ led, ∀ p ∈ news, @LT.lt Nat _ p.1 q.1) → Q (.ref x) {s with heap := h', toks := tk'}) :
   wpAny (model prog w) (ktrTop dp un gd cn cs L a ccd cl outer) (call (.ref 602) [.bytes xs.toArray t]) Q E s := by
  refine wpAny_call ?_
  k_with_none
  k_with "call ref" => (k_here; (with_reducible show wpAny _ _ (call (Value.ref 595) _ _) _ _ _); k_dflt (refine' read_part_ok ?mB ?mF ?mX ?mN ?mT ?mk ?md ?mh0 ?mh1 ?mh2 ?mh3 ?mh4 ?_; kbo_bools; (case mh0 => omega); (case mh1 => omega); (case mh2 => (simp; done)); (case mh3 => (first | assumption | omega)); (case mh4 => (first | exact hp | assumption)); k_whole); intro xq ledq hq' tkq' F' N' hPq hoq; kct_strs)
  k_dflt (refine' code_def ?k1 ?k2 ?k3 ?k4 ?k5 ?kA ?kF ?kK ?k6 ?k7 ?k8 ?k9 ?kB ?_ ?c2 ?c3 ?c4 ?c5; (case kA => exact rfl); (case kF => exact rfl); (case kK => first | exact rfl | assumption); (case k1 => k_asm); (case k2 => k_asm); (case k3 => k_asm); (case k4 => k_asm); (case k5 => k_asm); (case k6 => (refine' Eq.trans ?ql9 ?qr9; (case ql9 => k_is); (case qr9 => ((conv in (fnA _) => whnf); (conv in (fnB _) => whnf); (conv in (fnS _) => whnf); exact rfl)))); (case k7 => k_is); (case k8 => first | ktr_room | omega); (case k9 => first | exact BindsTo.of_eq rfl | exact binds_K (by k_in) rfl (by k_is) rfl rfl rfl); (case c5 => decide); (case kB => exact locs rfl); (case c2 => exact rfl); (case c3 => exact rfl); (case c4 => exact rfl); k_whole; intro g' L' h' FG' F' N' B' X' T'; (try dsimp only); (try k_fold))
  k_steps
  rename PartAt _ _ _ _ _ _ => hPq'
  simp only [List.size_toArray] at hPq'
  exact ret _ _ _ _ (by k_asm) (by k_asm) hPq' (by assumption)
end

set_option hygiene false in
local macro_rules | `(tactic| kba_ints) => `(tactic| (first | assumption | (refine PartAt.mono ?_ (by assumption); intro p hp; k_mem) | (refine NamesAt.mono ?_ (by assumption); intro p hp; k_mem) | (refine SecAt.mono ?_ (by assumption); intro p hp; k_mem) | (refine WordDue.mono ?_ (by assumption); intro p hp; k_mem) | (refine Due.mono ?_ (by assumption); intro p hp; k_mem)))
local macro_rules | `(tactic| units_room) => `(tactic| (have hcL9 := cLine_is; (simp only [units_in1, units_deeper, Around.mark_units, units_caller]); (try dsimp only [ktrTop]); omega))
theorem news_drop {h₀ h : Heap} {L : Addr} {x y : Addr × Obj} {news : List (Addr × Obj)} (N : News h₀ L h (x :: y :: news)) : News h₀ L h (x :: news) := fun p hp => N p (by rcases List.mem_cons.mp hp with rfl | hp; exact .head _; exact .tail _ (.tail _ hp))
section
variable {prog : Program} {w : World} {p : Program} {loose : List Str} {mean : ExcName → Option Value} {mg mb : Str → Option Value}
  {dp un : Nat} {gd : Option (List Code)} {cn : Str} {cs : Scope} {a : Addr} {ccd : Value} {cl : List (Str × Addr)} {outer : List Env} {A₀ : Around} {base h₀ : Heap} {L : Addr} {m : Str → Option Value} {news : List (Addr × Obj)} {s : Shared}
  {Q E : Value → Shared → Prop}
theorem numbered_kids_ok {x : Addr} {b body e : Int} (B : Below A₀ base outer h₀) (F : Fr h₀ L s.heap m) (X : (Mine.K0 w.params).In h₀) (N : News h₀ L s.heap news) (T : Top p loose mean mg mb h₀) (hk : cs.kind = .function)
   (hd : dp + 1 < recursionLimit) (hu : un < 500) (hP : PartAt w news x b body e)
   (ret : ∀ l h' tk', Fr h₀ L h' m → News h₀ L h' ((l, listOf #[.ref x] 0) :: news) → (∀ p ∈ news, p.1 < l) → Q (.ref l) {s with heap := h', toks := tk'}) :
   wpAny (model prog w) (ktrTop dp un gd cn cs L a ccd cl outer) (call (.ref 609) [.ref x, .bool true]) Q E s := by
  obtain ⟨dx, lx, kd, kids, enc, tb, tbo, te, a1, a2, a3, a4, a5, a6, a7, a8, hp1, hp2, hp3⟩ := hP
  refine wpAny_call ?_
  k_with_none
  k_dflt (refine' code_def ?k1 ?k2 ?k3 ?k4 ?k5 ?kA ?kF ?kK ?k6 ?k7 ?k8 ?k9 ?kB ?_ ?c2 ?c3 ?c4 ?c5; (case kA => exact rfl); (case kF => exact rfl); (case kK => first | exact rfl | assumption); (case k1 => k_asm); (case k2 => k_asm); (case k3 => k_asm); (case k4 => k_asm); (case k5 => k_asm); (case k6 => (refine' Eq.trans ?ql9 ?qr9; (case ql9 => k_is); (case qr9 => ((conv in (fnA _) => whnf); (conv in (fnB _) => whnf); (conv in (fnS _) => whnf); exact rfl)))); (case k7 => k_is); (case k8 => first | ktr_room | omega); (case k9 => first | exact BindsTo.of_eq rfl | exact binds_K (by k_in) rfl (by k_is) rfl rfl rfl); (case c5 => decide); (case kB => exact locs rfl); (case c2 => exact rfl); (case c3 => exact rfl); (case c4 => exact rfl); k_whole; intro g' L' h' FG' F' N' B' X' T'; (try dsimp only); (try k_fold))
  k_steps
  rename _ ∧ AllLt _ _ => l1n
  exact ret _ _ _ (by k_asm) (news_drop (by k_asm)) (ktn_ltOf l1n.2)
end
section
variable {prog : Program} {w : World} {p : Program} {loose : List Str} {mean : ExcName → Option Value} {mg mb : Str → Option Value}
  {dp un : Nat} {gd : Option (List Code)} {cn : Str} {cs : Scope} {a : Addr} {ccd : Value} {cl : List (Str × Addr)} {outer : List Env} {A₀ : Around} {base h₀ : Heap} {L : Addr} {m : Str → Option Value} {news : List (Addr × Obj)} {s : Shared}
  {Q E : Value → Shared → Prop}
theorem part_at_1 {x pt : Addr} {b body e : Int} {t1 : Tok} (B : Below A₀ base outer h₀) (F : Fr h₀ L s.heap m) (X : (Mine.K0 w.params).In h₀) (N : News h₀ L s.heap news) (T : Top p loose mean mg mb h₀) (hk : cs.kind = .function)
   (hd : dp + 2 < recursionLimit) (hu : un < 400) (hP : PartAt w news x b body e) (hpt : (pt, tupOf [.int 1 t1]) ∈ news)
   (ret : ∀ h' tk', Fr h₀ L h' m → News h₀ L h' news → Q (.ref x) {s with heap := h', toks := tk'}) :
   wpAny (model prog w) (ktrTop dp un gd cn cs L a ccd cl outer) (call (.ref 616) [.ref x, .ref pt]) Q E s := by
  refine wpAny_call ?_
  k_with_none
  k_with "call ref" => (k_here; (with_reducible show wpAny _ _ (call (Value.ref 609) _ _) _ _ _); k_dflt (refine' numbered_kids_ok ?mB ?mF ?mX ?mN ?mT ?mk ?md ?mh0 ?mh1 ?_; kbo_bools; (case mh1 => kba_ints); (case mh0 => kln_le); k_whole); intro ln hn' tkn' F' N' ln1; (try k_lt ln1); kct_strs)
  k_dflt (refine' code_def ?k1 ?k2 ?k3 ?k4 ?k5 ?kA ?kF ?kK ?k6 ?k7 ?k8 ?k9 ?kB ?_ ?c2 ?c3 ?c4 ?c5; (case kA => exact rfl); (case kF => exact rfl); (case kK => first | exact rfl | assumption); (case k1 => k_asm); (case k2 => k_asm); (case k3 => k_asm); (case k4 => k_asm); (case k5 => k_asm); (case k6 => (refine' Eq.trans ?ql9 ?qr9; (case ql9 => k_is); (case qr9 => ((conv in (fnA _) => whnf); (conv in (fnB _) => whnf); (conv in (fnS _) => whnf); exact rfl)))); (case k7 => k_is); (case k8 => first | ktr_room | omega); (case k9 => first | exact BindsTo.of_eq rfl | exact binds_K (by k_in) rfl (by k_is) rfl rfl rfl); (case c5 => decide); (case kB => exact locs rfl); (case c2 => exact rfl); (case c3 => exact rfl); (case c4 => exact rfl); k_whole; intro g' L' h' FG' F' N' B' X' T'; (try dsimp only); (try k_fold))
  k_with "exec For Name Name cons nil" => (refine Stop.out ?_)
  k_steps
  refine Stop.go ?_
  rename Fr _ _ _ _ => lF'
  refine For_turns lF' ?_
  k_with "pyIter ref" => (refine Stop.out ?_)
  k_steps
  refine Stop.go ?_
  rename News _ _ _ _ => lN'
  refine iter_tupTurns (vs := [.int 1 t1]) (by rfl) lF' lN' hpt rfl rfl (fun I hI => ItemsRest.val (fun hh tk F' it' hc' N' => ?_))
  clear lF' lN'
  (try dsimp only [List.cons_append, List.nil_append] at N')
  k_steps
  rename Fr _ _ _ _ => lF'
  rename News _ _ _ _ => lN'
  refine ⟨_, _, _, news, rfl, lF', newsT lN', (fun p hp q hq => by rw [List.mem_singleton.mp hq]; exact Nat.ne_of_lt (hI p hp)), ⟨hpt, trivial⟩, ItemsRest.zero (fun h9 tk9 F' N' => ?_)⟩
  clear lF' lN'
  k_steps
  exact ret _ _ (by k_asm) (by k_asm)
theorem part_at_2 {x pt : Addr} {b body e : Int} {t1 : Tok} (B : Below A₀ base outer h₀) (F : Fr h₀ L s.heap m) (X : (Mine.K0 w.params).In h₀) (N : News h₀ L s.heap news) (T : Top p loose mean mg mb h₀) (hk : cs.kind = .function)
   (hd : dp + 2 < recursionLimit) (hu : un < 400) (hP : PartAt w news x b body e) (hpt : (pt, tupOf [.int 2 t1]) ∈ news)
   (ret : ∀ h' tk', Fr h₀ L h' m → News h₀ L h' news → Q .none {s with heap := h', toks := tk'}) :
   wpAny (model prog w) (ktrTop dp un gd cn cs L a ccd cl outer) (call (.ref 616) [.ref x, .ref pt]) Q E s := by
  refine wpAny_call ?_
  k_with_none
  k_with "call ref" => (k_here; (with_reducible show wpAny _ _ (call (Value.ref 609) _ _) _ _ _); k_dflt (refine' numbered_kids_ok ?mB ?mF ?mX ?mN ?mT ?mk ?md ?mh0 ?mh1 ?_; kbo_bools; (case mh1 => kba_ints); (case mh0 => kln_le); k_whole); intro ln hn' tkn' F' N' ln1; (try k_lt ln1); kct_strs)
  k_dflt (refine' code_def ?k1 ?k2 ?k3 ?k4 ?k5 ?kA ?kF ?kK ?k6 ?k7 ?k8 ?k9 ?kB ?_ ?c2 ?c3 ?c4 ?c5; (case kA => exact rfl); (case kF => exact rfl); (case kK => first | exact rfl | assumption); (case k1 => k_asm); (case k2 => k_asm); (case k3 => k_asm); (case k4 => k_asm); (case k5 => k_asm); (case k6 => (refine' Eq.trans ?ql9 ?qr9; (case ql9 => k_is); (case qr9 => ((conv in (fnA _) => whnf); (conv in (fnB _) => whnf); (conv in (fnS _) => whnf); exact rfl)))); (case k7 => k_is); (case k8 => first | ktr_room | omega); (case k9 => first | exact BindsTo.of_eq rfl | exact binds_K (by k_in) rfl (by k_is) rfl rfl rfl); (case c5 => decide); (case kB => exact locs rfl); (case c2 => exact rfl); (case c3 => exact rfl); (case c4 => exact rfl); k_whole; intro g' L' h' FG' F' N' B' X' T'; (try dsimp only); (try k_fold))
  k_with "exec For Name Name cons nil" => (refine Stop.out ?_)
  k_steps
  refine Stop.go ?_
  rename Fr _ _ _ _ => lF'
  refine For_turns lF' ?_
  k_with "pyIter ref" => (refine Stop.out ?_)
  k_steps
  refine Stop.go ?_
  rename News _ _ _ _ => lN'
  refine iter_tupTurns (vs := [.int 2 t1]) (by rfl) lF' lN' hpt rfl rfl (fun I hI => ItemsRest.val (fun hh tk F' it' hc' N' => ?_))
  clear lF' lN'
  (try dsimp only [List.cons_append, List.nil_append] at N')
  k_steps
  exact ret _ _ (by k_asm) (newsT (newsT (by k_asm)))
end

section
variable {prog : Program} {w : World} {p : Program} {loose : List Str} {mean : ExcName → Option Value} {mg mb : Str → Option Value}
  {dp un : Nat} {gd : Option (List Code)} {cn : Str} {cs : Scope} {a : Addr} {ccd : Value} {cl : List (Str × Addr)} {outer : List Env} {A₀ : Around} {base h₀ : Heap} {L : Addr} {m : Str → Option Value} {news : List (Addr × Obj)} {s : Shared}
  {Q E : Value → Shared → Prop}
theorem tup_of_K {A : Around} {Q : Value → Shared → Prop} {E : Value → Shared → Prop} {b : Addr} {its : List Value} {n : Nat} (F : Fr h₀ L s.heap m) (X : (Mine.K0 w.params).In h₀) (hl : (Mine.K0 w.params).lookup b = some ⟨.type "tuple", none, .seq its.toArray n, #[]⟩)
    (h : Q (.ref b) s) : wpAny (model prog w) A (call (.type "tuple") [.ref b]) Q E s := call_tuple_tup (tupK (X.keeps F.keep) hl) h
end
section
variable {prog : Program} {w : World} {p : Program} {loose : List Str} {mean : ExcName → Option Value} {mg mb : Str → Option Value}
  {dp un : Nat} {gd : Option (List Code)} {cn : Str} {cs : Scope} {a : Addr} {ccd : Value} {cl : List (Str × Addr)} {outer : List Env} {A₀ : Around} {base h₀ : Heap} {L : Addr} {m : Str → Option Value} {news : List (Addr × Obj)} {s : Shared}
  {Q E : Value → Shared → Prop}
noncomputable abbrev secD (w : World) (pa : Addr) (wd : Str) (na : Addr) (pv : Value) (tw : Tok) (t1 t2 t3 t4 : Tok) : Obj :=
  dictOf [ent w "path" t1 (.ref pa), ent w "word" t2 (.str wd tw), ent w "names" t3 (.ref na), ent w "partial" t4 pv] 4
theorem section4_t {pa na : Addr} {vp vn : List Value} {wd : Str} {tw : Tok} {pp : Addr} (B : Below A₀ base outer h₀) (F : Fr h₀ L s.heap m) (X : (Mine.K0 w.params).In h₀) (N : News h₀ L s.heap news) (T : Top p loose mean mg mb h₀) (hk : cs.kind = .function)
   (hd : dp + 2 < recursionLimit) (hpa : (pa, tupOf vp) ∈ news) (hna : (na, tupOf vn) ∈ news)
   (ret : ∀ x d t1 t2 t3 t4 h' tk', Fr h₀ L h' m → News h₀ L h' ((x, instObj 643 d) :: (d, secD w pa wd na (.ref pp) tw t1 t2 t3 t4) :: news) → (∀ p ∈ news, p.1 < d) → d < x → Q (.ref x) {s with heap := h', toks := tk'}) :
   wpAny (model prog w) (ktrTop dp un gd cn cs L a ccd cl outer) (call (.ref 643) [.ref pa, .str wd tw, .ref na, .ref pp]) Q E s := by
  k_with_none
  k_with "call type:tuple" => (k_here; (with_reducible show wpAny _ _ (call (Value.type _) [Value.ref _]) _ _ _); k_dflt (refine' call_tuple_tup ?q280k1 ?_; (case q280k1 => exact News.isTup (by k_asm) (by k_mem)); k_whole))
  k_here
  refine' call_cls ?k1 ?k2 ?k3 ?k4 ?k5 ?k6 ?_; (case k1 => k_asm); (case k2 => k_asm); (case k3 => k_asm); (case k4 => k_is); (case k5 => k_is); (case k6 => k_is); k_whole; intro x' d' h' F' N' l1 l2; (try k_sweep)
  have l1o := l1
  have l2o := l2
  (try k_lt l1)
  (try k_lt2 l2)
  k_dflt (refine' code_def ?k1 ?k2 ?k3 ?k4 ?k5 ?kA ?kF ?kK ?k6 ?k7 ?k8 ?k9 ?kB ?_ ?c2 ?c3 ?c4 ?c5; (case kA => exact rfl); (case kF => exact rfl); (case kK => first | exact rfl | assumption); (case k1 => k_asm); (case k2 => k_asm); (case k3 => k_asm); (case k4 => k_asm); (case k5 => k_asm); (case k6 => (refine' Eq.trans ?ql9 ?qr9; (case ql9 => k_is); (case qr9 => ((conv in (fnA _) => whnf); (conv in (fnB _) => whnf); (conv in (fnS _) => whnf); exact rfl)))); (case k7 => k_is); (case k8 => first | ktr_room | omega); (case k9 => first | exact BindsTo.of_eq rfl | exact binds_K (by k_in) rfl (by k_is) rfl rfl rfl); (case c5 => decide); (case kB => exact locs rfl); (case c2 => exact rfl); (case c3 => exact rfl); (case c4 => exact rfl); k_whole; intro g' L' h' FG' F' N' B' X' T'; (try dsimp only); (try k_fold))
  k_steps
  exact ret _ _ _ _ _ _ _ _ (by k_asm) (by k_asm) l1o l2o
theorem section3_t {pa na : Addr} {vp vn : List Value} {wd : Str} {tw : Tok} (B : Below A₀ base outer h₀) (F : Fr h₀ L s.heap m) (X : (Mine.K0 w.params).In h₀) (N : News h₀ L s.heap news) (T : Top p loose mean mg mb h₀) (hk : cs.kind = .function)
   (hd : dp + 2 < recursionLimit) (hpa : (pa, tupOf vp) ∈ news) (hna : (na, tupOf vn) ∈ news)
   (ret : ∀ x d t1 t2 t3 t4 h' tk', Fr h₀ L h' m → News h₀ L h' ((x, instObj 643 d) :: (d, secD w pa wd na .none tw t1 t2 t3 t4) :: news) → (∀ p ∈ news, p.1 < d) → d < x → Q (.ref x) {s with heap := h', toks := tk'}) :
   wpAny (model prog w) (ktrTop dp un gd cn cs L a ccd cl outer) (call (.ref 643) [.ref pa, .str wd tw, .ref na]) Q E s := by
  k_with_none
  k_with "call type:tuple" => (k_here; (with_reducible show wpAny _ _ (call (Value.type _) [Value.ref _]) _ _ _); k_dflt (refine' call_tuple_tup ?q280k1 ?_; (case q280k1 => exact News.isTup (by k_asm) (by k_mem)); k_whole))
  k_here
  refine' call_cls ?k1 ?k2 ?k3 ?k4 ?k5 ?k6 ?_; (case k1 => k_asm); (case k2 => k_asm); (case k3 => k_asm); (case k4 => k_is); (case k5 => k_is); (case k6 => k_is); k_whole; intro x' d' h' F' N' l1 l2; (try k_sweep)
  have l1o := l1
  have l2o := l2
  (try k_lt l1)
  (try k_lt2 l2)
  k_dflt (refine' code_def ?k1 ?k2 ?k3 ?k4 ?k5 ?kA ?kF ?kK ?k6 ?k7 ?k8 ?k9 ?kB ?_ ?c2 ?c3 ?c4 ?c5; (case kA => exact rfl); (case kF => exact rfl); (case kK => first | exact rfl | assumption); (case k1 => k_asm); (case k2 => k_asm); (case k3 => k_asm); (case k4 => k_asm); (case k5 => k_asm); (case k6 => (refine' Eq.trans ?ql9 ?qr9; (case ql9 => k_is); (case qr9 => ((conv in (fnA _) => whnf); (conv in (fnB _) => whnf); (conv in (fnS _) => whnf); exact rfl)))); (case k7 => k_is); (case k8 => first | ktr_room | omega); (case k9 => first | exact BindsTo.of_eq rfl | exact binds_K (by k_in) rfl (by k_is) rfl rfl rfl); (case c5 => decide); (case kB => exact locs rfl); (case c2 => exact rfl); (case c3 => exact rfl); (case c4 => exact rfl); k_whole; intro g' L' h' FG' F' N' B' X' T'; (try dsimp only); (try k_fold))
  k_steps
  exact ret _ _ _ _ _ _ _ _ (by k_asm) (by k_asm) l1o l2o
theorem section2_d {pa : Addr} {vp : List Value} {wd : Str} {tw : Tok} (B : Below A₀ base outer h₀) (F : Fr h₀ L s.heap m) (X : (Mine.K0 w.params).In h₀) (N : News h₀ L s.heap news) (T : Top p loose mean mg mb h₀) (hk : cs.kind = .function)
   (hd : dp + 2 < recursionLimit) (hpa : (pa, tupOf vp) ∈ news)
   (ret : ∀ x d na t1 t2 t3 t4 h' tk', Fr h₀ L h' m → News h₀ L h' ((x, instObj 643 d) :: (d, secD w pa wd na .none tw t1 t2 t3 t4) :: news) → (∀ p ∈ news, p.1 < d) → d < x → Q (.ref x) {s with heap := h', toks := tk'}) :
   wpAny (model prog w) (ktrTop dp un gd cn cs L a ccd cl outer) (call (.ref 643) [.ref pa, .str wd tw]) Q E s := by
  k_with_none
  k_with "call type:tuple" => (k_here; (with_reducible show wpAny _ _ (call (Value.type _) [Value.ref _]) _ _ _); k_dflt (refine' tup_of_K ?q880F ?q363X ?q991l ?_; (case q880F => k_asm); (case q363X => k_asm); (case q991l => k_is); k_whole))
  k_with "call type:tuple" => (k_here; (with_reducible show wpAny _ _ (call (Value.type _) [Value.ref _]) _ _ _); k_dflt (refine' call_tuple_tup ?q280k1 ?_; (case q280k1 => exact News.isTup (by k_asm) (by k_mem)); k_whole))
  k_here
  refine' call_cls ?k1 ?k2 ?k3 ?k4 ?k5 ?k6 ?_; (case k1 => k_asm); (case k2 => k_asm); (case k3 => k_asm); (case k4 => k_is); (case k5 => k_is); (case k6 => k_is); k_whole; intro x' d' h' F' N' l1 l2; (try k_sweep)
  have l1o := l1
  have l2o := l2
  (try k_lt l1)
  (try k_lt2 l2)
  k_dflt (refine' code_def ?k1 ?k2 ?k3 ?k4 ?k5 ?kA ?kF ?kK ?k6 ?k7 ?k8 ?k9 ?kB ?_ ?c2 ?c3 ?c4 ?c5; (case kA => exact rfl); (case kF => exact rfl); (case kK => first | exact rfl | assumption); (case k1 => k_asm); (case k2 => k_asm); (case k3 => k_asm); (case k4 => k_asm); (case k5 => k_asm); (case k6 => (refine' Eq.trans ?ql9 ?qr9; (case ql9 => k_is); (case qr9 => ((conv in (fnA _) => whnf); (conv in (fnB _) => whnf); (conv in (fnS _) => whnf); exact rfl)))); (case k7 => k_is); (case k8 => first | ktr_room | omega); (case k9 => first | exact BindsTo.of_eq rfl | exact binds_K (by k_in) rfl (by k_is) rfl rfl rfl); (case c5 => decide); (case kB => exact locs rfl); (case c2 => exact rfl); (case c3 => exact rfl); (case c4 => exact rfl); k_whole; intro g' L' h' FG' F' N' B' X' T'; (try dsimp only); (try k_fold))
  k_steps
  exact ret _ _ _ _ _ _ _ _ _ (by k_asm) (by k_asm) l1o l2o
theorem section1_d {pa : Addr} {vp : List Value} (B : Below A₀ base outer h₀) (F : Fr h₀ L s.heap m) (X : (Mine.K0 w.params).In h₀) (N : News h₀ L s.heap news) (T : Top p loose mean mg mb h₀) (hk : cs.kind = .function)
   (hd : dp + 2 < recursionLimit) (hpa : (pa, tupOf vp) ∈ news)
   (ret : ∀ x d na tw t1 t2 t3 t4 h' tk', Fr h₀ L h' m → News h₀ L h' ((x, instObj 643 d) :: (d, secD w pa (Str.ofString "") na .none tw t1 t2 t3 t4) :: news) → (∀ p ∈ news, p.1 < d) → d < x → Q (.ref x) {s with heap := h', toks := tk'}) :
   wpAny (model prog w) (ktrTop dp un gd cn cs L a ccd cl outer) (call (.ref 643) [.ref pa]) Q E s := by
  k_with_none
  k_with "call type:tuple" => (k_here; (with_reducible show wpAny _ _ (call (Value.type _) [Value.ref _]) _ _ _); k_dflt (refine' tup_of_K ?q880F ?q363X ?q991l ?_; (case q880F => k_asm); (case q363X => k_asm); (case q991l => k_is); k_whole))
  k_with "call type:tuple" => (k_here; (with_reducible show wpAny _ _ (call (Value.type _) [Value.ref _]) _ _ _); k_dflt (refine' call_tuple_tup ?q280k1 ?_; (case q280k1 => exact News.isTup (by k_asm) (by k_mem)); k_whole))
  k_here
  refine' call_cls ?k1 ?k2 ?k3 ?k4 ?k5 ?k6 ?_; (case k1 => k_asm); (case k2 => k_asm); (case k3 => k_asm); (case k4 => k_is); (case k5 => k_is); (case k6 => k_is); k_whole; intro x' d' h' F' N' l1 l2; (try k_sweep)
  have l1o := l1
  have l2o := l2
  (try k_lt l1)
  (try k_lt2 l2)
  k_dflt (refine' code_def ?k1 ?k2 ?k3 ?k4 ?k5 ?kA ?kF ?kK ?k6 ?k7 ?k8 ?k9 ?kB ?_ ?c2 ?c3 ?c4 ?c5; (case kA => exact rfl); (case kF => exact rfl); (case kK => first | exact rfl | assumption); (case k1 => k_asm); (case k2 => k_asm); (case k3 => k_asm); (case k4 => k_asm); (case k5 => k_asm); (case k6 => (refine' Eq.trans ?ql9 ?qr9; (case ql9 => k_is); (case qr9 => ((conv in (fnA _) => whnf); (conv in (fnB _) => whnf); (conv in (fnS _) => whnf); exact rfl)))); (case k7 => k_is); (case k8 => first | ktr_room | omega); (case k9 => first | exact BindsTo.of_eq rfl | exact binds_K (by k_in) rfl (by k_is) rfl rfl rfl); (case c5 => decide); (case kB => exact locs rfl); (case c2 => exact rfl); (case c3 => exact rfl); (case c4 => exact rfl); k_whole; intro g' L' h' FG' F' N' B' X' T'; (try dsimp only); (try k_fold))
  k_steps
  exact ret _ _ _ _ _ _ _ _ _ _ (by k_asm) (by k_asm) l1o l2o
end
section
variable {prog : Program} {w : World} {p : Program} {loose : List Str} {mean : ExcName → Option Value} {mg mb : Str → Option Value}
  {dp un : Nat} {gd : Option (List Code)} {cn : Str} {cs : Scope} {a : Addr} {ccd : Value} {cl : List (Str × Addr)} {outer : List Env} {A₀ : Around} {base h₀ : Heap} {L : Addr} {m : Str → Option Value} {news : List (Addr × Obj)} {s : Shared}
  {Q E : Value → Shared → Prop}
theorem section4_l {pa na : Addr} {vp vn : List Value} {kn : Nat} {wd : Str} {tw : Tok} {pp : Addr} (B : Below A₀ base outer h₀) (F : Fr h₀ L s.heap m) (X : (Mine.K0 w.params).In h₀) (N : News h₀ L s.heap news) (T : Top p loose mean mg mb h₀) (hk : cs.kind = .function)
   (hd : dp + 2 < recursionLimit) (hlen : vn.length < 16) (hpa : (pa, tupOf vp) ∈ news) (hna : (na, listOf vn.toArray kn) ∈ news)
   (ret : ∀ x d nt t1 t2 t3 t4 h' tk', Fr h₀ L h' m → News h₀ L h' ((nt, tupOf vn) :: (x, instObj 643 d) :: (d, secD w pa wd nt (.ref pp) tw t1 t2 t3 t4) :: news) → (∀ p ∈ news, p.1 < d) → d < x → x < nt → Q (.ref x) {s with heap := h', toks := tk'}) :
   wpAny (model prog w) (ktrTop dp un gd cn cs L a ccd cl outer) (call (.ref 643) [.ref pa, .str wd tw, .ref na, .ref pp]) Q E s := by
  k_with_none
  k_with "call type:tuple" => (k_here; (with_reducible show wpAny _ _ (call (Value.type _) [Value.ref _]) _ _ _); k_dflt (refine' call_tuple_tup ?q280k1 ?_; (case q280k1 => exact News.isTup (by k_asm) (by k_mem)); k_whole))
  k_with "call type:tuple" => (k_here; (with_reducible show wpAny _ _ (call (Value.type _) [Value.ref _]) _ _ _); k_dflt (refine' kde_tupleOf ?q931k1 ?q435k2 ?q113k3 ?q446k4 ?q713k5 ?_; (case q931k1 => k_asm); (case q435k2 => k_asm); (case q113k3 => exact News.isList (by k_asm) (by k_mem)); (case q446k4 => (simp only [List.size_toArray]; omega)); (case q713k5 => exact rfl); k_whole); intro D' h' F' N' l1; (try k_lt l1))
  k_here
  refine' call_cls ?k1 ?k2 ?k3 ?k4 ?k5 ?k6 ?_; (case k1 => k_asm); (case k2 => k_asm); (case k3 => k_asm); (case k4 => k_is); (case k5 => k_is); (case k6 => k_is); k_whole; intro x' d' h' F' N' l1 l2; (try k_sweep)
  have l1o := l1
  have l2o := l2
  (try k_lt l1)
  (try k_lt2 l2)
  k_dflt (refine' code_def ?k1 ?k2 ?k3 ?k4 ?k5 ?kA ?kF ?kK ?k6 ?k7 ?k8 ?k9 ?kB ?_ ?c2 ?c3 ?c4 ?c5; (case kA => exact rfl); (case kF => exact rfl); (case kK => first | exact rfl | assumption); (case k1 => k_asm); (case k2 => k_asm); (case k3 => k_asm); (case k4 => k_asm); (case k5 => k_asm); (case k6 => (refine' Eq.trans ?ql9 ?qr9; (case ql9 => k_is); (case qr9 => ((conv in (fnA _) => whnf); (conv in (fnB _) => whnf); (conv in (fnS _) => whnf); exact rfl)))); (case k7 => k_is); (case k8 => first | ktr_room | omega); (case k9 => first | exact BindsTo.of_eq rfl | exact binds_K (by k_in) rfl (by k_is) rfl rfl rfl); (case c5 => decide); (case kB => exact locs rfl); (case c2 => exact rfl); (case c3 => exact rfl); (case c4 => exact rfl); k_whole; intro g' L' h' FG' F' N' B' X' T'; (try dsimp only); (try k_fold))
  k_steps
  rename _ ∧ _ ∧ AllLt _ _ => l1n
  exact ret _ _ _ _ _ _ _ _ _ (by k_asm) (by k_asm) l1o l2o l1n.1
theorem section3_l {pa na : Addr} {vp vn : List Value} {kn : Nat} {wd : Str} {tw : Tok} (B : Below A₀ base outer h₀) (F : Fr h₀ L s.heap m) (X : (Mine.K0 w.params).In h₀) (N : News h₀ L s.heap news) (T : Top p loose mean mg mb h₀) (hk : cs.kind = .function)
   (hd : dp + 2 < recursionLimit) (hlen : vn.length < 16) (hpa : (pa, tupOf vp) ∈ news) (hna : (na, listOf vn.toArray kn) ∈ news)
   (ret : ∀ x d nt t1 t2 t3 t4 h' tk', Fr h₀ L h' m → News h₀ L h' ((nt, tupOf vn) :: (x, instObj 643 d) :: (d, secD w pa wd nt .none tw t1 t2 t3 t4) :: news) → (∀ p ∈ news, p.1 < d) → d < x → x < nt → Q (.ref x) {s with heap := h', toks := tk'}) :
   wpAny (model prog w) (ktrTop dp un gd cn cs L a ccd cl outer) (call (.ref 643) [.ref pa, .str wd tw, .ref na]) Q E s := by
  k_with_none
  k_with "call type:tuple" => (k_here; (with_reducible show wpAny _ _ (call (Value.type _) [Value.ref _]) _ _ _); k_dflt (refine' call_tuple_tup ?q280k1 ?_; (case q280k1 => exact News.isTup (by k_asm) (by k_mem)); k_whole))
  k_with "call type:tuple" => (k_here; (with_reducible show wpAny _ _ (call (Value.type _) [Value.ref _]) _ _ _); k_dflt (refine' kde_tupleOf ?q931k1 ?q435k2 ?q113k3 ?q446k4 ?q713k5 ?_; (case q931k1 => k_asm); (case q435k2 => k_asm); (case q113k3 => exact News.isList (by k_asm) (by k_mem)); (case q446k4 => (simp only [List.size_toArray]; omega)); (case q713k5 => exact rfl); k_whole); intro D' h' F' N' l1; (try k_lt l1))
  k_here
  refine' call_cls ?k1 ?k2 ?k3 ?k4 ?k5 ?k6 ?_; (case k1 => k_asm); (case k2 => k_asm); (case k3 => k_asm); (case k4 => k_is); (case k5 => k_is); (case k6 => k_is); k_whole; intro x' d' h' F' N' l1 l2; (try k_sweep)
  have l1o := l1
  have l2o := l2
  (try k_lt l1)
  (try k_lt2 l2)
  k_dflt (refine' code_def ?k1 ?k2 ?k3 ?k4 ?k5 ?kA ?kF ?kK ?k6 ?k7 ?k8 ?k9 ?kB ?_ ?c2 ?c3 ?c4 ?c5; (case kA => exact rfl); (case kF => exact rfl); (case kK => first | exact rfl | assumption); (case k1 => k_asm); (case k2 => k_asm); (case k3 => k_asm); (case k4 => k_asm); (case k5 => k_asm); (case k6 => (refine' Eq.trans ?ql9 ?qr9; (case ql9 => k_is); (case qr9 => ((conv in (fnA _) => whnf); (conv in (fnB _) => whnf); (conv in (fnS _) => whnf); exact rfl)))); (case k7 => k_is); (case k8 => first | ktr_room | omega); (case k9 => first | exact BindsTo.of_eq rfl | exact binds_K (by k_in) rfl (by k_is) rfl rfl rfl); (case c5 => decide); (case kB => exact locs rfl); (case c2 => exact rfl); (case c3 => exact rfl); (case c4 => exact rfl); k_whole; intro g' L' h' FG' F' N' B' X' T'; (try dsimp only); (try k_fold))
  k_steps
  rename _ ∧ _ ∧ AllLt _ _ => l1n
  exact ret _ _ _ _ _ _ _ _ _ (by k_asm) (by k_asm) l1o l2o l1n.1
end

section
variable {prog : Program} {w : World} {p : Program} {loose : List Str} {mean : ExcName → Option Value} {mg mb : Str → Option Value}
  {dp un : Nat} {gd : Option (List Code)} {cn : Str} {cs : Scope} {a : Addr} {ccd : Value} {cl : List (Str × Addr)} {outer : List Env} {A₀ : Around} {base h₀ : Heap} {L : Addr} {m : Str → Option Value} {news : List (Addr × Obj)} {s : Shared}
  {Q E : Value → Shared → Prop}
theorem sliced_b {xs : List UInt8} {t t1 t2 : Tok} {pp : Addr} {i j : Int} (B : Below A₀ base outer h₀) (F : Fr h₀ L s.heap m) (X : (Mine.K0 w.params).In h₀) (N : News h₀ L s.heap news) (T : Top p loose mean mg mb h₀) (hk : cs.kind = .function)
   (hd : dp + 1 < recursionLimit) (h3 : xs.length < 8000000) (hi0 : 0 ≤ i) (hi1 : i ≤ 1000) (hj0 : 0 ≤ j) (hj1 : j ≤ 1000) (hpp : (pp, tupOf [.int i t1, .int j t2]) ∈ news)
   (ret : ∀ t' h' tk', Fr h₀ L h' m → News h₀ L h' news → Q (.bytes (cut xs i.toNat (i + j).toNat).toArray t') {s with heap := h', toks := tk'}) :
   wpAny (model prog w) (ktrTop dp un gd cn cs L a ccd cl outer) (call (.ref 673) [.bytes xs.toArray t, .ref pp]) Q E s := by
  refine wpAny_call ?_
  k_with_none
  k_with "subscriptTail" => (k_here; (with_reducible show wpAny _ _ (subscriptTail _ (Expr.Slice _ _ none _) (Value.bytes (List.toArray _) _) (Value.ref _)) _ _ _); (with_reducible rename Fr _ _ _ _ => F'); (with_reducible rename News _ _ _ _ => N'); (first | refine slice_ij (s := ⟨_, _, _, _, _⟩) F' N' (by omega) (by omega) (by omega) ?_ | refine slice_0j (s := ⟨_, _, _, _, _⟩) F' N' (by omega) (by omega) ?_); intro h' _ _ F' N'; (try k_sweep))
  k_dflt (refine' code_def ?k1 ?k2 ?k3 ?k4 ?k5 ?kA ?kF ?kK ?k6 ?k7 ?k8 ?k9 ?kB ?_ ?c2 ?c3 ?c4 ?c5; (case kA => exact rfl); (case kF => exact rfl); (case kK => first | exact rfl | assumption); (case k1 => k_asm); (case k2 => k_asm); (case k3 => k_asm); (case k4 => k_asm); (case k5 => k_asm); (case k6 => (refine' Eq.trans ?ql9 ?qr9; (case ql9 => k_is); (case qr9 => ((conv in (fnA _) => whnf); (conv in (fnB _) => whnf); (conv in (fnS _) => whnf); exact rfl)))); (case k7 => k_is); (case k8 => first | ktr_room | omega); (case k9 => first | exact BindsTo.of_eq rfl | exact binds_K (by k_in) rfl (by k_is) rfl rfl rfl); (case c5 => decide); (case kB => exact locs rfl); (case c2 => exact rfl); (case c3 => exact rfl); (case c4 => exact rfl); k_whole; intro g' L' h' FG' F' N' B' X' T'; (try dsimp only); (try k_fold))
  k_steps
  exact ret _ _ _ (by k_asm) (by k_asm)
theorem sliced_bn {xs : List UInt8} {t : Tok} (B : Below A₀ base outer h₀) (F : Fr h₀ L s.heap m) (X : (Mine.K0 w.params).In h₀) (N : News h₀ L s.heap news) (T : Top p loose mean mg mb h₀) (hk : cs.kind = .function)
   (hd : dp + 1 < recursionLimit) (h3 : xs.length < 8000000)
   (ret : ∀ h' tk', Fr h₀ L h' m → News h₀ L h' news → Q (.bytes xs.toArray t) {s with heap := h', toks := tk'}) :
   wpAny (model prog w) (ktrTop dp un gd cn cs L a ccd cl outer) (call (.ref 673) [.bytes xs.toArray t, .none]) Q E s := by
  refine wpAny_call ?_
  k_with_none
  k_dflt (refine' code_def ?k1 ?k2 ?k3 ?k4 ?k5 ?kA ?kF ?kK ?k6 ?k7 ?k8 ?k9 ?kB ?_ ?c2 ?c3 ?c4 ?c5; (case kA => exact rfl); (case kF => exact rfl); (case kK => first | exact rfl | assumption); (case k1 => k_asm); (case k2 => k_asm); (case k3 => k_asm); (case k4 => k_asm); (case k5 => k_asm); (case k6 => (refine' Eq.trans ?ql9 ?qr9; (case ql9 => k_is); (case qr9 => ((conv in (fnA _) => whnf); (conv in (fnB _) => whnf); (conv in (fnS _) => whnf); exact rfl)))); (case k7 => k_is); (case k8 => first | ktr_room | omega); (case k9 => first | exact BindsTo.of_eq rfl | exact binds_K (by k_in) rfl (by k_is) rfl rfl rfl); (case c5 => decide); (case kB => exact locs rfl); (case c2 => exact rfl); (case c3 => exact rfl); (case c4 => exact rfl); k_whole; intro g' L' h' FG' F' N' B' X' T'; (try dsimp only); (try k_fold))
  k_steps
  exact ret _ _ (by k_asm) (by k_asm)
theorem sliced_nn (B : Below A₀ base outer h₀) (F : Fr h₀ L s.heap m) (X : (Mine.K0 w.params).In h₀) (N : News h₀ L s.heap news) (T : Top p loose mean mg mb h₀) (hk : cs.kind = .function)
   (hd : dp + 1 < recursionLimit)
   (ret : ∀ h' tk', Fr h₀ L h' m → News h₀ L h' news → Q .none {s with heap := h', toks := tk'}) :
   wpAny (model prog w) (ktrTop dp un gd cn cs L a ccd cl outer) (call (.ref 673) [.none, .none]) Q E s := by
  refine wpAny_call ?_
  k_with_none
  k_dflt (refine' code_def ?k1 ?k2 ?k3 ?k4 ?k5 ?kA ?kF ?kK ?k6 ?k7 ?k8 ?k9 ?kB ?_ ?c2 ?c3 ?c4 ?c5; (case kA => exact rfl); (case kF => exact rfl); (case kK => first | exact rfl | assumption); (case k1 => k_asm); (case k2 => k_asm); (case k3 => k_asm); (case k4 => k_asm); (case k5 => k_asm); (case k6 => (refine' Eq.trans ?ql9 ?qr9; (case ql9 => k_is); (case qr9 => ((conv in (fnA _) => whnf); (conv in (fnB _) => whnf); (conv in (fnS _) => whnf); exact rfl)))); (case k7 => k_is); (case k8 => first | ktr_room | omega); (case k9 => first | exact BindsTo.of_eq rfl | exact binds_K (by k_in) rfl (by k_is) rfl rfl rfl); (case c5 => decide); (case kB => exact locs rfl); (case c2 => exact rfl); (case c3 => exact rfl); (case c4 => exact rfl); k_whole; intro g' L' h' FG' F' N' B' X' T'; (try dsimp only); (try k_fold))
  k_steps
  exact ret _ _ (by k_asm) (by k_asm)
theorem sliced_nr {pp : Addr} (B : Below A₀ base outer h₀) (F : Fr h₀ L s.heap m) (X : (Mine.K0 w.params).In h₀) (N : News h₀ L s.heap news) (T : Top p loose mean mg mb h₀) (hk : cs.kind = .function)
   (hd : dp + 1 < recursionLimit)
   (ret : ∀ h' tk', Fr h₀ L h' m → News h₀ L h' news → Q .none {s with heap := h', toks := tk'}) :
   wpAny (model prog w) (ktrTop dp un gd cn cs L a ccd cl outer) (call (.ref 673) [.none, .ref pp]) Q E s := by
  refine wpAny_call ?_
  k_with_none
  k_dflt (refine' code_def ?k1 ?k2 ?k3 ?k4 ?k5 ?kA ?kF ?kK ?k6 ?k7 ?k8 ?k9 ?kB ?_ ?c2 ?c3 ?c4 ?c5; (case kA => exact rfl); (case kF => exact rfl); (case kK => first | exact rfl | assumption); (case k1 => k_asm); (case k2 => k_asm); (case k3 => k_asm); (case k4 => k_asm); (case k5 => k_asm); (case k6 => (refine' Eq.trans ?ql9 ?qr9; (case ql9 => k_is); (case qr9 => ((conv in (fnA _) => whnf); (conv in (fnB _) => whnf); (conv in (fnS _) => whnf); exact rfl)))); (case k7 => k_is); (case k8 => first | ktr_room | omega); (case k9 => first | exact BindsTo.of_eq rfl | exact binds_K (by k_in) rfl (by k_is) rfl rfl rfl); (case c5 => decide); (case kB => exact locs rfl); (case c2 => exact rfl); (case c3 => exact rfl); (case c4 => exact rfl); k_whole; intro g' L' h' FG' F' N' B' X' T'; (try dsimp only); (try k_fold))
  k_steps
  exact ret _ _ (by k_asm) (by k_asm)
end

section
variable {xs : List UInt8} {stop : Int}
theorem lineAt_facts {i e : Int} (h0 : 0 ≤ i) (h1 : i ≤ e) : i ≤ (lineAt xs i e).1 ∧ (lineAt xs i e).1 ≤ (lineAt xs i e).2 ∧ (lineAt xs i e).2 ≤ e ∧ (i < e → i < (lineAt xs i e).2) := by
  have hz := findZ_lt (xs := xs) (c := 10) (i := i.toNat) (j := e.toNat)
  unfold lineAt
  split
  · dsimp only; omega
  · split
    · dsimp only; omega
    · dsimp only; omega
theorem foldEnd_facts : ∀ (n : Nat) (last later : Int), 0 ≤ last → last ≤ later → later ≤ stop → later ≤ (foldEnd xs stop n last later).2 ∧ (foldEnd xs stop n last later).2 ≤ stop
  | 0, last, later, _, _, h => ⟨Int.le_refl _, h⟩
  | n + 1, last, later, h0, h1, h => by
    unfold foldEnd
    split
    · rename_i hc
      have hl := lineAt_facts (xs := xs) (i := later) (e := stop) (by omega) h
      have := foldEnd_facts n (lineAt xs later stop).1 (lineAt xs later stop).2 (by omega) (by omega) (by omega)
      omega
    · exact ⟨Int.le_refl _, h⟩
noncomputable def rowsSum : List Row → Int
  | [] => 0
  | r :: rs => (r.e - r.b) + rowsSum rs
theorem spans_facts : ∀ (n : Nat) (here : Int), 0 ≤ here → here ≤ stop → (∀ r ∈ (spans xs stop n here).1, here ≤ r.b ∧ r.b ≤ r.e ∧ r.e ≤ stop) ∧ rowsSum (spans xs stop n here).1 ≤ stop - here
  | 0, here, h0, h1 => ⟨(fun _ h => nomatch h), by show (0 : Int) ≤ _; omega⟩
  | n + 1, here, h0, h1 => by
    unfold spans
    split
    · split
      · exact ⟨(fun _ h => nomatch h), by show (0 : Int) ≤ _; omega⟩
      · split
        · exact ⟨(fun _ h => nomatch h), by show (0 : Int) ≤ _; omega⟩
        · have hl := lineAt_facts (xs := xs) (i := here) (e := stop) h0 h1
          have hf := foldEnd_facts (xs := xs) (stop := stop) (stop - (lineAt xs here stop).2).toNat (lineAt xs here stop).1 (lineAt xs here stop).2 (by omega) (by omega) (by omega)
          have ih := spans_facts n (foldEnd xs stop (stop - (lineAt xs here stop).2).toNat (lineAt xs here stop).1 (lineAt xs here stop).2).2 (by omega) (by omega)
          dsimp only
          refine ⟨?_, ?_⟩
          · intro r hr
            rcases List.mem_cons.mp hr with rfl | hr
            · dsimp only; omega
            · have := ih.1 r hr; omega
          · rw [rowsSum]
            dsimp only
            have := ih.2
            omega
    · exact ⟨(fun _ h => nomatch h), by show (0 : Int) ≤ _; omega⟩
theorem spans_names : ∀ (n : Nat) (here : Int), ∀ r ∈ (spans xs stop n here).1, r.name.length ≤ xs.length
  | 0, here, _, h => nomatch h
  | n + 1, here, r, hr => by
    unfold spans at hr
    split at hr
    · split at hr
      · exact nomatch hr
      · split at hr
        · exact nomatch hr
        · dsimp only at hr
          rcases List.mem_cons.mp hr with rfl | hr
          · exact cut_len_le _ _ _
          · exact spans_names n _ r hr
    · exact nomatch hr
end
noncomputable def picks (wl : List (List UInt8)) (neg : Bool) (r : Row) : Bool := (wl.any (· == r.name.map lowB)) != neg
noncomputable def found (xs : List UInt8) (rs : List Row) (wl : List (List UInt8)) (neg : Bool) : List (List UInt8) := (rs.filter (picks wl neg)).map fun r => cut xs r.b.toNat r.e.toNat
noncomputable def emptyAt (rs : List Row) (b : Int) : Int := match rs.getLast? with | some r => r.e | none => b
theorem cut_len (xs : List UInt8) (i j : Nat) : (cut xs i j).length ≤ j - i := by
  unfold cut
  rw [List.length_take]
  omega
theorem found_len (xs : List UInt8) (wl : List (List UInt8)) (neg : Bool) : ∀ (rs : List Row), (∀ r ∈ rs, 0 ≤ r.b ∧ r.b ≤ r.e) → ((found xs rs wl neg).flatten.length : Int) ≤ rowsSum rs
  | [], _ => Int.le_refl _
  | r :: rs, h => by
    have ih := found_len xs wl neg rs fun q hq => h q (.tail _ hq)
    have hr := h r (.head _)
    have hc := cut_len xs r.b.toNat r.e.toNat
    unfold found at ih ⊢
    rw [List.filter_cons]
    show _ ≤ (r.e - r.b) + rowsSum rs
    split
    · rw [List.map_cons, List.flatten_cons, List.length_append]
      omega
    · omega
theorem any_sOf (z : List UInt8) : ∀ (wl : List (List UInt8)), ((wl.map sOf).any (· == sOf z)) = wl.any (· == z)
  | [] => rfl
  | x :: r => by
    rw [List.map_cons, List.any_cons, List.any_cons, any_sOf z r]
    congr 1
    rw [Bool.eq_iff_iff, beq_iff_eq, beq_iff_eq]
    exact ⟨sOf_inj, fun h => by rw [h]⟩
theorem strs_get : ∀ {vs : List Value} {ns : List (List UInt8)}, StrsAre vs (ns.map sOf) → ∀ {i : Nat} {v : Value}, vs[i]? = some v → ∃ n t, ns[i]? = some n ∧ v = .str (sOf n) t
  | [], _, _, _, _, h => by simp at h
  | _ :: _, [], h, _, _, _ => nomatch h
  | _ :: _, n :: ns, .cons _ t r, 0, _, h => by
    rw [List.getElem?_cons_zero] at h
    cases h
    exact ⟨n, t, rfl, rfl⟩
  | _ :: _, n :: ns, .cons _ _ r, i + 1, v, h => by
    rw [List.getElem?_cons_succ] at h
    obtain ⟨n', t', h1, h2⟩ := strs_get r h
    exact ⟨n', t', by rw [List.getElem?_cons_succ]; exact h1, h2⟩
/-- the names of a call, a list or a tuple -/
noncomputable def NamesAt (news : List (Addr × Obj)) (na : Addr) (vn : List Value) : Prop := (∃ k, (na, listOf vn.toArray k) ∈ news) ∨ (na, tupOf vn) ∈ news
theorem NamesAt.mono {news news' : List (Addr × Obj)} {na : Addr} {vn : List Value} (h : ∀ p ∈ news, p ∈ news') : NamesAt news na vn → NamesAt news' na vn
  | .inl ⟨k, x⟩ => .inl ⟨k, h _ x⟩
  | .inr x => .inr (h _ x)
section
variable {prog : Program} {w : World} {A : Around} {h₀ : Heap} {L : Addr} {m : Str → Option Value} {news : List (Addr × Obj)} {s₁ : Shared}
theorem src_names {na : Addr} {vn : List Value} (hh : A.handled = none) (F : Fr h₀ L s₁.heap m) (N : News h₀ L s₁.heap news) (hn : NamesAt news na vn) :
    ∃ isL S, SrcG prog w A h₀ L m isL vn.length (fun i v => vn[i]? = some v) S news (.ref na) s₁ ∧ S news := by
  rcases hn with ⟨k, hm⟩ | hm
  · refine ⟨true, LCg.SrcAt h₀ na vn.toArray, ?_, .inr ⟨_, hm, rfl, _, rfl⟩⟩
    have := src_list (prog := prog) (w := w) (its := vn.toArray) hh F N (.inr ⟨_, hm, rfl, _, rfl⟩)
    simpa using this
  · exact ⟨false, _, src_tuple hh F N hm, hm⟩
theorem go_names {env : Env} {elt : PySem.Expr} {x : Str} {px : Pos} {scope : Scope} {cl : List (Str × Addr)} {Fin : Shared → Addr → Prop} {DD : Addr → Heap → Nat → (Str → Option Value) → Prop} {na : Addr} {vn : List Value}
    (K : Nat → List Value → Prop) (hx : scope.names.lookup x = some .local) (hkind : scope.kind = .function) (hh : A.handled = none) (F : Fr h₀ L s₁.heap m) (N : News h₀ L s₁.heap news) (hn : NamesAt news na vn) (hsz : vn.length ≤ sizeLine) (h0 : K 0 [])
    (turn : ∀ (S : List (Addr × Obj) → Prop), S news → ∀ i v ys I oI C oC D m₂ h tk (E' : Value → Shared → Prop), i < vn.length → vn[i]? = some v → K i ys → ys.length ≤ i → LCg.NsObj oC m₂ → m₂ x = some v → Fr h₀ L h m → News h₀ L h ((I, oI) :: (C, oC) :: (D, LCg.lst ys) :: news) → LCg.Off3 I C D news → ((@Ne Nat I C) ∧ (@Ne Nat I D) ∧ (@Ne Nat C D)) →
      wpAny (model prog w) A (eval elt (compEnvC scope cl C env)) (LCg.CompEnd h₀ L m { s₁ with heap := h, toks := tk } I oI C oC D (LCg.lst ys) S (fun y nw' => nw' = news ∧ K (i + 1) (ys ++ [y]))) E' { s₁ with heap := h, toks := tk })
    (fin : ∀ a h tk ys m', DD a h tk m' → Fr h₀ L h m' → News h₀ L h ((a, LCg.lst ys) :: news) → LCg.Off1 a news → (∀ p ∈ news, p.1 < a) → K vn.length ys → Fin { s₁ with heap := h, toks := tk } a) :
    CompGo prog w A h₀ L m env elt (.Name x px) [] scope cl Fin DD (.ref na) s₁ := by
  obtain ⟨isL, S, src, hS⟩ := src_names hh F N hn
  exact go_flat0 K hx hkind src hsz hS h0 (turn S hS) fin
end
theorem Two.last {α β : Type} {R : α → β → Prop} : ∀ {a : α} {l : List α} {k : List β}, Two R (a :: l) k → ∃ b, k.getLast? = some b ∧ ∃ x, (a :: l)[(a :: l).length - 1]? = some x ∧ R x b
  | _, [], _, .cons x .nil => ⟨_, rfl, _, rfl, x⟩
  | a, a' :: l, _, .cons (bs := bs) x r => by
    obtain ⟨b, h1, y, h2, h3⟩ := r.last
    refine ⟨b, ?_, y, ?_, h3⟩
    · rw [List.getLast?_cons, h1]; rfl
    · exact h2
theorem strs_len {vs : List Value} {ns : List (List UInt8)} (h : StrsAre vs (ns.map sOf)) : vs.length = ns.length := by
  have := StrsAre.length h
  rw [List.length_map] at this
  exact this
theorem picks_is {wl : List (List UInt8)} {neg : Bool} {r : Row} : picks (wl.map (·.map lowB)) neg r = (((wl.take wl.length).map fun n => sOf (n.map lowB)).any (fun x => x == sOf (r.name.map lowB)) != neg) := by
  unfold picks
  rw [List.take_length, ← any_sOf, List.map_map]
  rfl
theorem found_take {xs : List UInt8} {wl : List (List UInt8)} {neg : Bool} {rs : List Row} {i : Nat} {r : Row} (h : rs[i]? = some r) : found xs (rs.take (i + 1)) wl neg = found xs (rs.take i) wl neg ++ if picks wl neg r = true then [cut xs r.b.toNat r.e.toNat] else [] := by
  unfold found
  rw [List.take_add_one, h, Option.toList_some, List.filter_append, List.map_append]
  congr 1
  rw [List.filter_cons]
  split <;> simp
theorem cell3 {a : Addr} {o2 o3 : Obj} {news : List (Addr × Obj)} (l1 : ∀ p ∈ news, p.1 < a) : ∀ p ∈ (a + 1 + 1, o2) :: (a + 1, o3) :: news, p.1 ≠ a + 1 + 1 + 1 := by
  intro p hp
  have l1 : ∀ p ∈ news, @LT.lt Nat _ p.1 a := l1
  simp only [List.mem_cons] at hp
  rcases hp with rfl | rfl | hp
  · exact Nat.ne_of_lt (Nat.lt_succ_self _)
  · exact Nat.ne_of_lt (Nat.lt_succ_of_lt (Nat.lt_succ_self _))
  · exact Nat.ne_of_lt (Nat.lt_of_lt_of_le (l1 p hp) (Nat.le_trans (Nat.le_add_right _ 3) (Nat.le_refl _)))
local macro_rules | `(tactic| k_all) => `(tactic| exact cell3 (by assumption))
theorem add_room {a b : List UInt8} (h1 : a.length ≤ 8000000) (h2 : b.length ≤ 8000000) : a.toArray.size + b.toArray.size ≤ 16777216 := by
  rw [List.size_toArray, List.size_toArray]; omega
section
variable {prog : Program} {w : World} {p : Program} {loose : List Str} {mean : ExcName → Option Value} {mg mb : Str → Option Value}
  {dp un : Nat} {gd : Option (List Code)} {cn : Str} {cs : Scope} {a : Addr} {ccd : Value} {cl : List (Str × Addr)} {outer : List Env} {A₀ : Around} {base h₀ : Heap} {L : Addr} {m : Str → Option Value} {news : List (Addr × Obj)} {s : Shared}
  {Q E : Value → Shared → Prop}
theorem header_octets_ok {xs : List UInt8} {x na : Addr} {b body e : Int} {vn : List Value} {ns : List (List UInt8)} {neg : Bool} {t : Tok} (B : Below A₀ base outer h₀) (F : Fr h₀ L s.heap m) (X : (Mine.K0 w.params).In h₀) (N : News h₀ L s.heap news) (T : Top p loose mean mg mb h₀) (hk : cs.kind = .function)
   (hd : dp + 6 < recursionLimit) (hu : un < 300) (h3 : xs.length < 1048576) (h0 : 0 ≤ b) (h1 : b ≤ body) (h2 : body ≤ (xs.length : Int)) (hP : PartAt w news x b body e) (hna : NamesAt news na vn) (hns : StrsAre vn (ns.map sOf)) (hnl : vn.length < 16) (hnn : ∀ n ∈ ns, n.length < 1048576)
   (ret : ∀ t' h' tk', Fr h₀ L h' m → News h₀ L h' news → Q (.bytes (((found xs (spans xs body (body - b).toNat b).1 (ns.map (·.map lowB)) neg).flatten ++ cut xs (emptyAt (spans xs body (body - b).toNat b).1 b).toNat body.toNat).toArray) t') {s with heap := h', toks := tk'}) :
   wpAny (model prog w) (ktrTop dp un gd cn cs L a ccd cl outer) (call (.ref 652) [.bytes xs.toArray t, .ref x, .ref na, .bool neg]) Q E s := by
  obtain ⟨dx, lx, kd, kids, enc, tb, tbo, te, a1, a2, a3, a4, a5, a6, a7, a8, hp1, hp2, hp3⟩ := hP
  refine wpAny_call ?_
  k_with_none
  k_with "subscriptTail" => (k_here; (with_reducible show wpAny _ _ (subscriptTail _ (Expr.Slice _ _ none _) (Value.bytes (List.toArray _) _) (Value.ref _)) _ _ _); (with_reducible rename Fr _ _ _ _ => F'); (with_reducible rename News _ _ _ _ => N'); (first | refine slice_ij (s := ⟨_, _, _, _, _⟩) F' N' (by omega) (by omega) (by omega) ?_ | refine slice_0j (s := ⟨_, _, _, _, _⟩) F' N' (by omega) (by omega) ?_); intro h' _ _ F' N'; (try k_sweep))
  k_with "call ref" => (k_here; (with_reducible show wpAny _ _ (call (Value.ref 124) _ _) _ _ _); k_dflt (refine' lower_text_ok ?mB ?mF ?mX ?mN ?mT ?mk ?md ?mh0 ?_; kbo_bools; (case mh0 => (first | omega | (simp only [List.length_map]; omega))); k_whole); intro t' h' tk' F' N'; kct_strs)
  k_with "call ref" => (k_here; (with_reducible show wpAny _ _ (call (Value.ref 195) _ _) _ _ _); k_dflt (refine' read_spans_ok ?mB ?mF ?mX ?mN ?mT ?mk ?md ?mh0 ?mh1 ?mh2 ?mh3 ?_; kbo_bools; (case mh0 => omega); (case mh1 => omega); (case mh2 => omega); (case mh3 => omega); k_whole); intro T' l' vs' k' rs' body' tz' h' tk' led' F' N' hT' hl' h2' hsp' ho'; kct_strs)
  k_with "call ref" => (k_here; (with_reducible show wpAny _ _ (call (Value.ref 152) _ _) _ _ _); k_dflt (refine' word_ok ?mB ?mF ?mX ?mN ?mT ?mk ?md ?mh0 ?mh1 ?mh2 ?_; kbo_bools; (case mh0 => assumption); (case mh1 => (first | assumption | k_mem)); (case mh2 => (first | assumption | k_mem)); k_whole); intro tw' hw' tkw' F' N'; kct_strs)
  k_with "eval Name" => (k_here; k_dflt (refine' nameX_C ?q953N ?q481c ?q702m ?q834d ?_ ?q805a ?q365b; (case q805a => rfl); (case q365b => rfl); (case q953N => k_asm); (case q481c => rfl); (case q702m => k_mem); (case q834d => assumption); k_whole))
  k_with "binaryOp Add bytes bytes" => (k_here; (with_reducible show wpAny _ _ (binaryOp Operator.Add (Value.bytes (List.toArray _) _) (Value.bytes (List.toArray _) _)) _ _ _); k_dflt (refine' bytes_add_K ?q530z rfl ?_; (case q530z => refine add_room ?_ ?_ <;> first | omega | exact Nat.le_trans (cut_len_le _ _ _) (by omega) | (simp only [List.length_append, List.length_cons, List.length_nil]; omega)); k_whole); intro _ _)
  k_with "compareOp In str ref" => (k_here; (with_reducible show wpAny _ _ (compareOp CmpOp.In (Value.str _ _) (Value.ref _)) _ _ _); k_dflt (refine' in_list_strs ?q507k1 ?q26k2 ?_; (case q507k1 => exact lst_is (by k_asm) (by k_mem)); (case q26k2 => assumption); k_whole))
  k_dflt (refine' code_defC ?k1 ?k2 ?k3 ?k4 ?k5 ?kA ?kF ?kK ?k6 ?k7 ?k8 ?k9 ?kB ?kD ?_ ?c2 ?c3 ?c4; (case kA => exact rfl); (case kF => exact rfl); (case kK => first | exact rfl | assumption); (case k1 => k_asm); (case k2 => k_asm); (case k3 => k_asm); (case k4 => k_asm); (case k5 => k_asm); (case k6 => (refine' Eq.trans ?ql9 ?qr9; (case ql9 => k_is); (case qr9 => ((conv in (fnA _) => whnf); (conv in (fnB _) => whnf); (conv in (fnS _) => whnf); exact rfl)))); (case k7 => k_is); (case k8 => first | ktr_room | omega); (case k9 => first | exact BindsTo.of_eq rfl | exact binds_K (by k_in) rfl (by k_is) rfl rfl rfl); (case kB => exact rfl); (case kD => decide +kernel); (case c2 => exact rfl); (case c3 => exact rfl); (case c4 => exact rfl); k_whole; intro g' L' h' tk' cells' FG' F' N' Y' B' X' T' l1; (try k_lt l1); k_cells Y'; (try simp only [List.cons_append, List.nil_append] at N'); (try dsimp only); (try k_fold))
  k_with "exec Assign cons ListComp" => (refine Stop.out ?_)
  k_steps
  refine Stop.go ?_
  rename Fr _ _ _ _ => lF'
  rename News _ _ _ _ => lN'
  refine wpAny_Assign_Name ?_ (by with_unfolding_all rfl)
  refine comp_evalF lF' (by with_unfolding_all rfl) (by decide) (by rfl) (by decide) ?_
  k_steps
  refine go_names (fun i ys => StrsAre ys ((ns.take i).map fun n => sOf (n.map lowB))) (by rfl) (by rfl) (by rfl) lF' lN' (hna.mono fun p hp => .tail _ (.tail _ (.tail _ hp))) (by rw [sizeLine_eq]; omega) .nil (fun S hS i v ys I oI C oC D m₂ hh tk E' hi hP hK hl hC hv F' N' off3 ne3 => ?_) (fun a' hh tk ys m' hm F' N' o1 la1 hK => ?_)
  · clear lF' lN'
    obtain ⟨n, tn, hn, rfl⟩ := strs_get hns hP
    have hnn' := hnn n (List.mem_of_getElem? hn)
    k_steps
    exact flat_end (by k_asm) (by k_asm) (fun _ h => h) off3 hS (by rw [List.take_add_one, hn]; simpa using strs_snoc hK)
  · clear lF' lN'
    subst hm
    have la1o := la1
    k_lt la1
    (try dsimp only [List.cons_append, List.nil_append])
    (try k_unmd)
    k_fold
    k_steps
    refine Stop.go ?_
    rename Fr _ _ _ _ => lF'
    rename News _ _ _ _ => lN'
    have hsf := spans_facts (xs := xs) (stop := body) (body - b).toNat b h0 h1
    have hln := spans_len xs body (body - b).toNat b
    rw [hsp'] at hsf hln ret
    dsimp only at hsf hln ret
    have hnm : ∀ r ∈ rs', r.name.length ≤ xs.length := by
      have := spans_names (xs := xs) (stop := body) (body - b).toNat b
      rw [hsp'] at this
      exact this
    rw [← h2'.length] at hln
    refine comp_assignF lF' (by rfl) (by with_unfolding_all rfl) (by with_unfolding_all rfl) (by decide) (by rfl) (by decide) (by rfl) (by rfl) ?_
    k_steps
    refine go_flat3 (fun i ys => BytesAre ys (found xs (rs'.take i) (ns.map (·.map lowB)) neg)) (fun i v1 v2 v3 => ∃ r x d t1 t2 tn tr tb te, rs'[i]? = some r ∧ v1 = .ref x ∧ v2 = .int r.b tb ∧ v3 = .int r.e te ∧ (x, instObj 162 d) ∈ led' ∧ (d, fieldD w r.name r.raw t1 t2 tn tr) ∈ led')
      (by rfl) (by rfl) (by rfl) (by decide) (by decide) (by decide) (by rfl) (by rfl) (src_list (by rfl) lF' lN' (.inr ⟨_, List.mem_append_left _ hl', rfl, _, rfl⟩)) (by rw [sizeLine_eq, List.size_toArray]; omega) (.inr ⟨_, List.mem_append_left _ hl', rfl, _, rfl⟩) .nil ?_
      (fun i v1 v2 v3 ys I oI C oC D m₂ hh tk E' hi hV hK hl hC hv1 hv2 hv3 F' N' off3 ne3 => ?_) (fun a' hh tk ys m' hm F' N' o1 la1 hK => ?_)
    · intro i v hi hP
      rw [List.getElem?_toArray] at hP
      obtain ⟨r, hr, T3, x3, d3, t1, t2, tn, tr, tb, te, rfl, hT3, hx3, hd3⟩ := h2'.get hP
      exact ⟨T3, _, _, _, _, rfl, List.mem_append_left _ hT3, r, x3, d3, t1, t2, tn, tr, tb, te, hr, rfl, rfl, rfl, hx3, hd3⟩
    · clear lF' lN'
      obtain ⟨r, x3, d3, t1, t2, tn, tr, tb, te, hr, rfl, rfl, rfl, hx3, hd3⟩ := hV
      have hrm := hsf.1 r (List.mem_of_getElem? hr)
      have hrn := hnm r (List.mem_of_getElem? hr)
      have hrn' : r.name.length < 1048576 := by omega
      have hpk := picks_is (wl := ns) (neg := neg) (r := r)
      rw [← strs_len hns] at hpk
      refine wpAny_tests_one ?_
      k_steps
      · rename (_ != neg) = true => hyes
        refine flat_end (by k_asm) (by k_asm) (fun _ h => h) off3 ⟨.inr ⟨_, List.mem_append_left _ hl', rfl, _, rfl⟩, fun _ h => h⟩ ?_
        rw [found_take hr, if_pos (hpk.trans hyes)]
        exact hK.snoc
      · rename (_ != neg) = false => hno
        refine flat_end (by k_asm) (by k_asm) (fun _ h => h) off3 ⟨.inr ⟨_, List.mem_append_left _ hl', rfl, _, rfl⟩, fun _ h => h⟩ ?_
        rw [found_take hr, if_neg (by rw [hpk.trans hno]; exact Bool.false_ne_true), List.append_nil]
        exact hK
    · clear lF' lN'
      subst hm
      (try dsimp only [List.cons_append, List.nil_append])
      (try k_unmd)
      k_fold
      rw [List.size_toArray, h2'.length, List.take_length] at hK
      have hfl := found_len xs (ns.map (·.map lowB)) neg rs' (fun r hr => by have := hsf.1 r hr; omega)
      have hfz : (found xs rs' (ns.map (·.map lowB)) neg).flatten.length ≤ 1048576 := by omega
      k_with "getMethod bytes" => (k_here; (with_reducible refine meth_join ?_))
      k_with "call builtin:bytes.join" => (k_here; (refine' join_K ?k1 ?k2 ?k3 ?_; (case k1 => exact lst_is (by k_asm) (by k_mem)); (case k2 => exact hK); (case k3 => omega)); intro tj' kj')
      rcases vs' with _ | ⟨v0, vs0⟩
      · cases h2'
        k_with "compareOp NotEq ref ref" => (k_here; (refine' ne_nil_ff ?k1 ?k2 ?k3 ?_; (case k1 => exact News.isList (by k_asm) (by k_mem)); (case k2 => exact News.isList (by k_asm) (by k_mem)); (case k3 => ((try simp only [units_in1, units_deeper, Around.mark_units, units_caller]); (try dsimp only [ktrTop]); have hcL9 := cLine_is; omega))))
        k_steps
        exact ret _ _ _ (by k_asm) (by (rename News _ _ _ _ => lN9); exact fun p hp => lN9 p (by k_mem))
      · obtain ⟨r, hr1, v4, hv4, hr2⟩ := h2'.last
        obtain ⟨T4, x4, d4, t1, t2, tn, tr, tb4, te4, rfl, hm4, hx4, hd4⟩ := hr2
        have hrm := hsf.1 r (List.mem_of_getLast? hr1)
        k_with "compareOp NotEq ref ref" => (k_here; (refine' ne_nil_tt ?k1 ?k2 ?k3 ?k4 ?_; (case k1 => exact News.isList (by k_asm) (by k_mem)); (case k2 => exact News.isList (by k_asm) (by k_mem)); (case k4 => exact List.cons_ne_nil _ _); (case k3 => ((try simp only [units_in1, units_deeper, Around.mark_units, units_caller]); (try dsimp only [ktrTop]); have hcL9 := cLine_is; omega))))
        k_with "subscriptTail Name UnaryOp ref int" => (k_here; (with_unfolding_all refine' kde_neg ?k1 ?k2 ?k3 ?k4 ?k5 ?_ ?k6; (case k2 => decide); (case k3 => decide); (case k1 => exact News.isList (by k_asm) (by k_mem)); (case k4 => exact last_index _ (Nat.succ_pos _)); (case k5 => exact hv4); (case k6 => with_unfolding_all rfl)))
        k_steps
        rw [show r.e = emptyAt rs' b by unfold emptyAt; rw [hr1]]
        exact ret _ _ _ (by k_asm) (by (rename News _ _ _ _ => lN9); exact fun p hp => lN9 p (by k_mem))
end

section
variable {prog : Program} {w : World} {p : Program} {loose : List Str} {mean : ExcName → Option Value} {mg mb : Str → Option Value}
  {dp un : Nat} {gd : Option (List Code)} {cn : Str} {cs : Scope} {a : Addr} {ccd : Value} {cl : List (Str × Addr)} {outer : List Env} {A₀ : Around} {base h₀ : Heap} {L : Addr} {m : Str → Option Value} {news : List (Addr × Obj)} {s : Shared}
  {Q E : Value → Shared → Prop}
theorem in_words {A : Around} {Q E : Value → Shared → Prop} {c : Str} {u : Tok} {b : Addr} {its : List Value} {ys : List Str} {n : Nat} {k : Bool} (F : Fr h₀ L s.heap m) (X : (Mine.K0 w.params).In h₀) (hl : (Mine.K0 w.params).lookup b = some ⟨.type "tuple", none, .seq its.toArray n, #[]⟩) (hy : StrsAre its ys) (hk : ys.any (· == c) = k)
    (h : Q (.bool k) s) : wpAny (model prog w) A (compareOp .In (.str c u) (.ref b)) Q E s := by
  subst hk
  exact in_tuple_strs (tupK (X.keeps F.keep) hl) hy h
end
noncomputable def SecAt (w : World) (news : List (Addr × Obj)) (sx pa : Addr) (wd : Str) (na : Addr) (pv : Value) : Prop :=
  ∃ d tw t1 t2 t3 t4, (sx, instObj 643 d) ∈ news ∧ (d, secD w pa wd na pv tw t1 t2 t3 t4) ∈ news
theorem SecAt.mono {w : World} {news news' : List (Addr × Obj)} {sx pa na : Addr} {wd : Str} {pv : Value} (h : ∀ p ∈ news, p ∈ news') : SecAt w news sx pa wd na pv → SecAt w news' sx pa wd na pv
  | ⟨d, tw, t1, t2, t3, t4, a, b⟩ => ⟨d, tw, t1, t2, t3, t4, h _ a, h _ b⟩
/-- what the octets of a word are -/
inductive WordDue (xs : List UInt8) (b body e : Int) (news : List (Addr × Obj)) : Str → Addr → List UInt8 → Prop
  | all {na : Addr} : WordDue xs b body e news (Str.ofString "") na (cut xs b.toNat e.toNat)
  | header {na : Addr} : WordDue xs b body e news (Str.ofString "HEADER") na (cut xs b.toNat body.toNat)
  | text {na : Addr} : WordDue xs b body e news (Str.ofString "TEXT") na (cut xs body.toNat e.toNat)
  | fields {na : Addr} {vn : List Value} {ns : List (List UInt8)} (h1 : NamesAt news na vn) (h2 : StrsAre vn (ns.map sOf)) (h3 : vn.length < 16) (h4 : ∀ n ∈ ns, n.length < 1048576) :
      WordDue xs b body e news (Str.ofString "HEADER.FIELDS") na ((found xs (spans xs body (body - b).toNat b).1 (ns.map (·.map lowB)) false).flatten ++ cut xs (emptyAt (spans xs body (body - b).toNat b).1 b).toNat body.toNat)
  | nots {na : Addr} {vn : List Value} {ns : List (List UInt8)} (h1 : NamesAt news na vn) (h2 : StrsAre vn (ns.map sOf)) (h3 : vn.length < 16) (h4 : ∀ n ∈ ns, n.length < 1048576) :
      WordDue xs b body e news (Str.ofString "HEADER.FIELDS.NOT") na ((found xs (spans xs body (body - b).toNat b).1 (ns.map (·.map lowB)) true).flatten ++ cut xs (emptyAt (spans xs body (body - b).toNat b).1 b).toNat body.toNat)
theorem WordDue.mono {xs : List UInt8} {b body e : Int} {news news' : List (Addr × Obj)} {wd : Str} {na : Addr} {due : List UInt8} (h : ∀ p ∈ news, p ∈ news') : WordDue xs b body e news wd na due → WordDue xs b body e news' wd na due
  | .all => .all
  | .header => .header
  | .text => .text
  | .fields h1 h2 h3 h4 => .fields (h1.mono h) h2 h3 h4
  | .nots h1 h2 h3 h4 => .nots (h1.mono h) h2 h3 h4
section
variable {prog : Program} {w : World} {p : Program} {loose : List Str} {mean : ExcName → Option Value} {mg mb : Str → Option Value}
  {dp un : Nat} {gd : Option (List Code)} {cn : Str} {cs : Scope} {a : Addr} {ccd : Value} {cl : List (Str × Addr)} {outer : List Env} {A₀ : Around} {base h₀ : Heap} {L : Addr} {m : Str → Option Value} {news : List (Addr × Obj)} {s : Shared}
  {Q E : Value → Shared → Prop}
theorem word_octets_ok {xs : List UInt8} {x sx pa na : Addr} {b body e : Int} {wd : Str} {pv : Value} {due : List UInt8} {t : Tok} (B : Below A₀ base outer h₀) (F : Fr h₀ L s.heap m) (X : (Mine.K0 w.params).In h₀) (N : News h₀ L s.heap news) (T : Top p loose mean mg mb h₀) (hk : cs.kind = .function)
   (hd : dp + 7 < recursionLimit) (hu : un < 200) (h3 : xs.length < 1048576) (h0 : 0 ≤ b) (h1 : b ≤ body) (h2 : body ≤ e) (h4 : e ≤ (xs.length : Int)) (hP : PartAt w news x b body e) (hS : SecAt w news sx pa wd na pv) (hW : WordDue xs b body e news wd na due)
   (ret : ∀ t' h' tk', Fr h₀ L h' m → News h₀ L h' news → Q (.bytes due.toArray t') {s with heap := h', toks := tk'}) :
   wpAny (model prog w) (ktrTop dp un gd cn cs L a ccd cl outer) (call (.ref 659) [.bytes xs.toArray t, .ref x, .ref sx]) Q E s := by
  have hPo := hP
  obtain ⟨dx, lx, kd, kids, enc, tb, tbo, te, a1, a2, a3, a4, a5, a6, a7, a8, hp1, hp2, hp3⟩ := hP
  obtain ⟨ds, tw, s1, s2, s3, s4, hs1, hs2⟩ := hS
  refine wpAny_call ?_
  k_with_none
  k_with "subscriptTail" => (k_here; (with_reducible show wpAny _ _ (subscriptTail _ (Expr.Slice _ _ none _) (Value.bytes (List.toArray _) _) (Value.ref _)) _ _ _); (with_reducible rename Fr _ _ _ _ => F'); (with_reducible rename News _ _ _ _ => N'); (first | refine slice_ij (s := ⟨_, _, _, _, _⟩) F' N' (by omega) (by omega) (by omega) ?_ | refine slice_0j (s := ⟨_, _, _, _, _⟩) F' N' (by omega) (by omega) ?_); intro h' _ _ F' N'; (try k_sweep))
  k_with "compareOp In str ref" => (k_here; (with_reducible show wpAny _ _ (compareOp CmpOp.In (Value.str _ _) (Value.ref _)) _ _ _); first | (k_dflt (refine' in_words (k := true) ?q735ihF ?q560ihX ?q292ihl ?q622ihy ?q517ihk ?_; (case q735ihF => k_asm); (case q560ihX => k_asm); (case q292ihl => k_is); (case q622ihy => repeat constructor); (case q517ihk => decide); k_whole)) | (k_dflt (refine' in_words (k := false) ?q735ihF ?q560ihX ?q292ihl ?q622ihy ?q517ihk ?_; (case q735ihF => k_asm); (case q560ihX => k_asm); (case q292ihl => k_is); (case q622ihy => repeat constructor); (case q517ihk => decide); k_whole)))
  k_with "call ref" => (k_here; (with_reducible show wpAny _ _ (call (Value.ref 652) _ _) _ _ _); k_dflt (refine' header_octets_ok ?mB ?mF ?mX ?mN ?mT ?mk ?md ?mh0 ?mh1 ?mh2 ?mh3 ?mh4 ?mh5 ?mh6 ?mh7 ?mh8 ?mh9 ?_; kbo_bools; (case mh5 => kba_ints); (case mh6 => kba_ints); (case mh0 => kln_le); (case mh1 => omega); (case mh2 => omega); (case mh3 => omega); (case mh4 => omega); (case mh7 => assumption); (case mh8 => omega); (case mh9 => assumption); k_whole); intro th' hh' tkh' F' N'; kct_strs)
  k_dflt (refine' code_def ?k1 ?k2 ?k3 ?k4 ?k5 ?kA ?kF ?kK ?k6 ?k7 ?k8 ?k9 ?kB ?_ ?c2 ?c3 ?c4 ?c5; (case kA => exact rfl); (case kF => exact rfl); (case kK => first | exact rfl | assumption); (case k1 => k_asm); (case k2 => k_asm); (case k3 => k_asm); (case k4 => k_asm); (case k5 => k_asm); (case k6 => (refine' Eq.trans ?ql9 ?qr9; (case ql9 => k_is); (case qr9 => ((conv in (fnA _) => whnf); (conv in (fnB _) => whnf); (conv in (fnS _) => whnf); exact rfl)))); (case k7 => k_is); (case k8 => first | ktr_room | omega); (case k9 => first | exact BindsTo.of_eq rfl | exact binds_K (by k_in) rfl (by k_is) rfl rfl rfl); (case c5 => decide); (case kB => exact locs rfl); (case c2 => exact rfl); (case c3 => exact rfl); (case c4 => exact rfl); k_whole; intro g' L' h' FG' F' N' B' X' T'; (try dsimp only); (try k_fold))
  cases hW
  · k_steps
    refine ret _ _ _ ?_ ?_
    · k_asm
    · exact (by (rename News _ _ _ _ => lN9); exact fun p hp => lN9 p (by k_mem))
  · k_steps
    refine ret _ _ _ ?_ ?_
    · k_asm
    · exact (by (rename News _ _ _ _ => lN9); exact fun p hp => lN9 p (by k_mem))
  · k_steps
    refine ret _ _ _ ?_ ?_
    · k_asm
    · exact (by (rename News _ _ _ _ => lN9); exact fun p hp => lN9 p (by k_mem))
  · rename NamesAt _ _ _ => hna
    rename StrsAre _ _ => hns
    k_steps
    refine ret _ _ _ ?_ ?_
    · k_asm
    · exact (by (rename News _ _ _ _ => lN9); exact fun p hp => lN9 p (by k_mem))
  · rename NamesAt _ _ _ => hna
    rename StrsAre _ _ => hns
    k_steps
    refine ret _ _ _ ?_ ?_
    · k_asm
    · exact (by (rename News _ _ _ _ => lN9); exact fun p hp => lN9 p (by k_mem))
end

section
variable {prog : Program} {w : World} {p : Program} {loose : List Str} {mean : ExcName → Option Value} {mg mb : Str → Option Value}
  {dp un : Nat} {gd : Option (List Code)} {cn : Str} {cs : Scope} {a : Addr} {ccd : Value} {cl : List (Str × Addr)} {outer : List Env} {A₀ : Around} {base h₀ : Heap} {L : Addr} {m : Str → Option Value} {news : List (Addr × Obj)} {s : Shared}
  {Q E : Value → Shared → Prop}
theorem whole_word {xs : List UInt8} {x sx pa na : Addr} {b body e : Int} {wd : Str} {pv : Value} {due : List UInt8} {t : Tok} (B : Below A₀ base outer h₀) (F : Fr h₀ L s.heap m) (X : (Mine.K0 w.params).In h₀) (N : News h₀ L s.heap news) (T : Top p loose mean mg mb h₀) (hk : cs.kind = .function)
   (hd : dp + 8 < recursionLimit) (hu : un < 190) (h3 : xs.length < 1048576) (h0 : 0 ≤ b) (h1 : b ≤ body) (h2 : body ≤ e) (h4 : e ≤ (xs.length : Int)) (hP : PartAt w news x b body e) (hS : SecAt w news sx pa wd na pv) (hpa : (pa, tupOf []) ∈ news) (hW : WordDue xs b body e news wd na due)
   (ret : ∀ t' h' tk', Fr h₀ L h' m → News h₀ L h' news → Q (.bytes due.toArray t') {s with heap := h', toks := tk'}) :
   wpAny (model prog w) (ktrTop dp un gd cn cs L a ccd cl outer) (call (.ref 666) [.bytes xs.toArray t, .ref x, .ref sx, .ref 616]) Q E s := by
  have hPo := hP
  have hSo := hS
  obtain ⟨dx, lx, kd, kids, enc, tb, tbo, te, a1, a2, a3, a4, a5, a6, a7, a8, hp1, hp2, hp3⟩ := hP
  obtain ⟨ds, tw, s1, s2, s3, s4, hs1, hs2⟩ := hS
  refine wpAny_call ?_
  k_with_none
  k_with "call ref" => (k_here; (with_reducible show wpAny _ _ (call (Value.ref 659) _ _) _ _ _); k_dflt (refine' word_octets_ok ?mB ?mF ?mX ?mN ?mT ?mk ?md ?mh0 ?mh1 ?mh2 ?mh3 ?mh4 ?mh5 ?mh6 ?mh7 ?mh8 ?_; kbo_bools; (case mh6 => kba_ints); (case mh7 => kba_ints); (case mh8 => kba_ints); (case mh0 => kln_le); (case mh1 => omega); (case mh2 => omega); (case mh3 => omega); (case mh4 => omega); (case mh5 => omega); k_whole); intro tw9 hw9 tkw9 F' N'; kct_strs)
  k_dflt (refine' code_def ?k1 ?k2 ?k3 ?k4 ?k5 ?kA ?kF ?kK ?k6 ?k7 ?k8 ?k9 ?kB ?_ ?c2 ?c3 ?c4 ?c5; (case kA => exact rfl); (case kF => exact rfl); (case kK => first | exact rfl | assumption); (case k1 => k_asm); (case k2 => k_asm); (case k3 => k_asm); (case k4 => k_asm); (case k5 => k_asm); (case k6 => (refine' Eq.trans ?ql9 ?qr9; (case ql9 => k_is); (case qr9 => ((conv in (fnA _) => whnf); (conv in (fnB _) => whnf); (conv in (fnS _) => whnf); exact rfl)))); (case k7 => k_is); (case k8 => first | ktr_room | omega); (case k9 => first | exact BindsTo.of_eq rfl | exact binds_K (by k_in) rfl (by k_is) rfl rfl rfl); (case c5 => decide); (case kB => exact locs rfl); (case c2 => exact rfl); (case c3 => exact rfl); (case c4 => exact rfl); k_whole; intro g' L' h' FG' F' N' B' X' T'; (try dsimp only); (try k_fold))
  k_steps
  refine ret _ _ _ ?_ ?_
  · k_asm
  · exact (by (rename News _ _ _ _ => lN9); exact fun p hp => lN9 p (by k_mem))
theorem whole_1e {xs : List UInt8} {x sx pa na : Addr} {b body e : Int} {pv : Value} {t tq : Tok} (B : Below A₀ base outer h₀) (F : Fr h₀ L s.heap m) (X : (Mine.K0 w.params).In h₀) (N : News h₀ L s.heap news) (T : Top p loose mean mg mb h₀) (hk : cs.kind = .function)
   (hd : dp + 8 < recursionLimit) (hu : un < 190) (h3 : xs.length < 1048576) (h0 : 0 ≤ b) (h1 : b ≤ body) (h2 : body ≤ e) (h4 : e ≤ (xs.length : Int)) (hP : PartAt w news x b body e) (hS : SecAt w news sx pa (Str.ofString "") na pv) (hpa : (pa, tupOf [.int 1 tq]) ∈ news)
   (ret : ∀ t' h' tk', Fr h₀ L h' m → News h₀ L h' news → Q (.bytes (cut xs body.toNat e.toNat).toArray t') {s with heap := h', toks := tk'}) :
   wpAny (model prog w) (ktrTop dp un gd cn cs L a ccd cl outer) (call (.ref 666) [.bytes xs.toArray t, .ref x, .ref sx, .ref 616]) Q E s := by
  have hPo := hP
  have hSo := hS
  obtain ⟨dx, lx, kd, kids, enc, tb, tbo, te, a1, a2, a3, a4, a5, a6, a7, a8, hp1, hp2, hp3⟩ := hP
  obtain ⟨ds, tw, s1, s2, s3, s4, hs1, hs2⟩ := hS
  refine wpAny_call ?_
  k_with_none
  k_with "subscriptTail" => (k_here; (with_reducible show wpAny _ _ (subscriptTail _ (Expr.Slice _ _ none _) (Value.bytes (List.toArray _) _) (Value.ref _)) _ _ _); (with_reducible rename Fr _ _ _ _ => F'); (with_reducible rename News _ _ _ _ => N'); (first | refine slice_ij (s := ⟨_, _, _, _, _⟩) F' N' (by omega) (by omega) (by omega) ?_ | refine slice_0j (s := ⟨_, _, _, _, _⟩) F' N' (by omega) (by omega) ?_); intro h' _ _ F' N'; (try k_sweep))
  k_with "call ref" => (k_here; (with_reducible show wpAny _ _ (call (Value.ref 616) _ _) _ _ _); k_dflt (refine' part_at_1 ?mB ?mF ?mX ?mN ?mT ?mk ?md ?mh0 ?mh1 ?mh2 ?_; kbo_bools; (case mh1 => kba_ints); (case mh0 => kln_le); (case mh2 => k_mem); k_whole); intro hw9 tkw9 F' N'; kct_strs)
  k_dflt (refine' code_def ?k1 ?k2 ?k3 ?k4 ?k5 ?kA ?kF ?kK ?k6 ?k7 ?k8 ?k9 ?kB ?_ ?c2 ?c3 ?c4 ?c5; (case kA => exact rfl); (case kF => exact rfl); (case kK => first | exact rfl | assumption); (case k1 => k_asm); (case k2 => k_asm); (case k3 => k_asm); (case k4 => k_asm); (case k5 => k_asm); (case k6 => (refine' Eq.trans ?ql9 ?qr9; (case ql9 => k_is); (case qr9 => ((conv in (fnA _) => whnf); (conv in (fnB _) => whnf); (conv in (fnS _) => whnf); exact rfl)))); (case k7 => k_is); (case k8 => first | ktr_room | omega); (case k9 => first | exact BindsTo.of_eq rfl | exact binds_K (by k_in) rfl (by k_is) rfl rfl rfl); (case c5 => decide); (case kB => exact locs rfl); (case c2 => exact rfl); (case c3 => exact rfl); (case c4 => exact rfl); k_whole; intro g' L' h' FG' F' N' B' X' T'; (try dsimp only); (try k_fold))
  k_steps
  refine ret _ _ _ ?_ ?_
  · k_asm
  · exact (by (rename News _ _ _ _ => lN9); exact fun p hp => lN9 p (by k_mem))
theorem whole_1m {xs : List UInt8} {x sx pa na : Addr} {b body e : Int} {pv : Value} {t tq : Tok} (B : Below A₀ base outer h₀) (F : Fr h₀ L s.heap m) (X : (Mine.K0 w.params).In h₀) (N : News h₀ L s.heap news) (T : Top p loose mean mg mb h₀) (hk : cs.kind = .function)
   (hd : dp + 8 < recursionLimit) (hu : un < 190) (h3 : xs.length < 1048576) (h0 : 0 ≤ b) (h1 : b ≤ body) (h2 : body ≤ e) (h4 : e ≤ (xs.length : Int)) (hP : PartAt w news x b body e) (hS : SecAt w news sx pa (Str.ofString "MIME") na pv) (hpa : (pa, tupOf [.int 1 tq]) ∈ news)
   (ret : ∀ t' h' tk', Fr h₀ L h' m → News h₀ L h' news → Q (.bytes (cut xs b.toNat body.toNat).toArray t') {s with heap := h', toks := tk'}) :
   wpAny (model prog w) (ktrTop dp un gd cn cs L a ccd cl outer) (call (.ref 666) [.bytes xs.toArray t, .ref x, .ref sx, .ref 616]) Q E s := by
  have hPo := hP
  have hSo := hS
  obtain ⟨dx, lx, kd, kids, enc, tb, tbo, te, a1, a2, a3, a4, a5, a6, a7, a8, hp1, hp2, hp3⟩ := hP
  obtain ⟨ds, tw, s1, s2, s3, s4, hs1, hs2⟩ := hS
  refine wpAny_call ?_
  k_with_none
  k_with "subscriptTail" => (k_here; (with_reducible show wpAny _ _ (subscriptTail _ (Expr.Slice _ _ none _) (Value.bytes (List.toArray _) _) (Value.ref _)) _ _ _); (with_reducible rename Fr _ _ _ _ => F'); (with_reducible rename News _ _ _ _ => N'); (first | refine slice_ij (s := ⟨_, _, _, _, _⟩) F' N' (by omega) (by omega) (by omega) ?_ | refine slice_0j (s := ⟨_, _, _, _, _⟩) F' N' (by omega) (by omega) ?_); intro h' _ _ F' N'; (try k_sweep))
  k_with "call ref" => (k_here; (with_reducible show wpAny _ _ (call (Value.ref 616) _ _) _ _ _); k_dflt (refine' part_at_1 ?mB ?mF ?mX ?mN ?mT ?mk ?md ?mh0 ?mh1 ?mh2 ?_; kbo_bools; (case mh1 => kba_ints); (case mh0 => kln_le); (case mh2 => k_mem); k_whole); intro hw9 tkw9 F' N'; kct_strs)
  k_dflt (refine' code_def ?k1 ?k2 ?k3 ?k4 ?k5 ?kA ?kF ?kK ?k6 ?k7 ?k8 ?k9 ?kB ?_ ?c2 ?c3 ?c4 ?c5; (case kA => exact rfl); (case kF => exact rfl); (case kK => first | exact rfl | assumption); (case k1 => k_asm); (case k2 => k_asm); (case k3 => k_asm); (case k4 => k_asm); (case k5 => k_asm); (case k6 => (refine' Eq.trans ?ql9 ?qr9; (case ql9 => k_is); (case qr9 => ((conv in (fnA _) => whnf); (conv in (fnB _) => whnf); (conv in (fnS _) => whnf); exact rfl)))); (case k7 => k_is); (case k8 => first | ktr_room | omega); (case k9 => first | exact BindsTo.of_eq rfl | exact binds_K (by k_in) rfl (by k_is) rfl rfl rfl); (case c5 => decide); (case kB => exact locs rfl); (case c2 => exact rfl); (case c3 => exact rfl); (case c4 => exact rfl); k_whole; intro g' L' h' FG' F' N' B' X' T'; (try dsimp only); (try k_fold))
  k_steps
  refine ret _ _ _ ?_ ?_
  · k_asm
  · exact (by (rename News _ _ _ _ => lN9); exact fun p hp => lN9 p (by k_mem))
theorem whole_1t {xs : List UInt8} {x sx pa na : Addr} {b body e : Int} {pv : Value} {t tq : Tok} (B : Below A₀ base outer h₀) (F : Fr h₀ L s.heap m) (X : (Mine.K0 w.params).In h₀) (N : News h₀ L s.heap news) (T : Top p loose mean mg mb h₀) (hk : cs.kind = .function)
   (hd : dp + 8 < recursionLimit) (hu : un < 190) (h3 : xs.length < 1048576) (h0 : 0 ≤ b) (h1 : b ≤ body) (h2 : body ≤ e) (h4 : e ≤ (xs.length : Int)) (hP : PartAt w news x b body e) (hS : SecAt w news sx pa (Str.ofString "TEXT") na pv) (hpa : (pa, tupOf [.int 1 tq]) ∈ news)
   (ret : ∀ h' tk', Fr h₀ L h' m → News h₀ L h' news → Q .none {s with heap := h', toks := tk'}) :
   wpAny (model prog w) (ktrTop dp un gd cn cs L a ccd cl outer) (call (.ref 666) [.bytes xs.toArray t, .ref x, .ref sx, .ref 616]) Q E s := by
  have hPo := hP
  have hSo := hS
  obtain ⟨dx, lx, kd, kids, enc, tb, tbo, te, a1, a2, a3, a4, a5, a6, a7, a8, hp1, hp2, hp3⟩ := hP
  obtain ⟨ds, tw, s1, s2, s3, s4, hs1, hs2⟩ := hS
  refine wpAny_call ?_
  k_with_none
  k_with "call ref" => (k_here; (with_reducible show wpAny _ _ (call (Value.ref 616) _ _) _ _ _); k_dflt (refine' part_at_1 ?mB ?mF ?mX ?mN ?mT ?mk ?md ?mh0 ?mh1 ?mh2 ?_; kbo_bools; (case mh1 => kba_ints); (case mh0 => kln_le); (case mh2 => k_mem); k_whole); intro hw9 tkw9 F' N'; kct_strs)
  k_dflt (refine' code_def ?k1 ?k2 ?k3 ?k4 ?k5 ?kA ?kF ?kK ?k6 ?k7 ?k8 ?k9 ?kB ?_ ?c2 ?c3 ?c4 ?c5; (case kA => exact rfl); (case kF => exact rfl); (case kK => first | exact rfl | assumption); (case k1 => k_asm); (case k2 => k_asm); (case k3 => k_asm); (case k4 => k_asm); (case k5 => k_asm); (case k6 => (refine' Eq.trans ?ql9 ?qr9; (case ql9 => k_is); (case qr9 => ((conv in (fnA _) => whnf); (conv in (fnB _) => whnf); (conv in (fnS _) => whnf); exact rfl)))); (case k7 => k_is); (case k8 => first | ktr_room | omega); (case k9 => first | exact BindsTo.of_eq rfl | exact binds_K (by k_in) rfl (by k_is) rfl rfl rfl); (case c5 => decide); (case kB => exact locs rfl); (case c2 => exact rfl); (case c3 => exact rfl); (case c4 => exact rfl); k_whole; intro g' L' h' FG' F' N' B' X' T'; (try dsimp only); (try k_fold))
  k_steps
  refine ret _ _ ?_ ?_
  · k_asm
  · exact (by (rename News _ _ _ _ => lN9); exact fun p hp => lN9 p (by k_mem))
theorem whole_2 {xs : List UInt8} {x sx pa na : Addr} {b body e : Int} {pv : Value} {t tq : Tok} (B : Below A₀ base outer h₀) (F : Fr h₀ L s.heap m) (X : (Mine.K0 w.params).In h₀) (N : News h₀ L s.heap news) (T : Top p loose mean mg mb h₀) (hk : cs.kind = .function)
   (hd : dp + 8 < recursionLimit) (hu : un < 190) (h3 : xs.length < 1048576) (h0 : 0 ≤ b) (h1 : b ≤ body) (h2 : body ≤ e) (h4 : e ≤ (xs.length : Int)) (hP : PartAt w news x b body e) (hS : SecAt w news sx pa (Str.ofString "") na pv) (hpa : (pa, tupOf [.int 2 tq]) ∈ news)
   (ret : ∀ h' tk', Fr h₀ L h' m → News h₀ L h' news → Q .none {s with heap := h', toks := tk'}) :
   wpAny (model prog w) (ktrTop dp un gd cn cs L a ccd cl outer) (call (.ref 666) [.bytes xs.toArray t, .ref x, .ref sx, .ref 616]) Q E s := by
  have hPo := hP
  have hSo := hS
  obtain ⟨dx, lx, kd, kids, enc, tb, tbo, te, a1, a2, a3, a4, a5, a6, a7, a8, hp1, hp2, hp3⟩ := hP
  obtain ⟨ds, tw, s1, s2, s3, s4, hs1, hs2⟩ := hS
  refine wpAny_call ?_
  k_with_none
  k_with "call ref" => (k_here; (with_reducible show wpAny _ _ (call (Value.ref 616) _ _) _ _ _); k_dflt (refine' part_at_2 ?mB ?mF ?mX ?mN ?mT ?mk ?md ?mh0 ?mh1 ?mh2 ?_; kbo_bools; (case mh1 => kba_ints); (case mh0 => kln_le); (case mh2 => k_mem); k_whole); intro hw9 tkw9 F' N'; kct_strs)
  k_dflt (refine' code_def ?k1 ?k2 ?k3 ?k4 ?k5 ?kA ?kF ?kK ?k6 ?k7 ?k8 ?k9 ?kB ?_ ?c2 ?c3 ?c4 ?c5; (case kA => exact rfl); (case kF => exact rfl); (case kK => first | exact rfl | assumption); (case k1 => k_asm); (case k2 => k_asm); (case k3 => k_asm); (case k4 => k_asm); (case k5 => k_asm); (case k6 => (refine' Eq.trans ?ql9 ?qr9; (case ql9 => k_is); (case qr9 => ((conv in (fnA _) => whnf); (conv in (fnB _) => whnf); (conv in (fnS _) => whnf); exact rfl)))); (case k7 => k_is); (case k8 => first | ktr_room | omega); (case k9 => first | exact BindsTo.of_eq rfl | exact binds_K (by k_in) rfl (by k_is) rfl rfl rfl); (case c5 => decide); (case kB => exact locs rfl); (case c2 => exact rfl); (case c3 => exact rfl); (case c4 => exact rfl); k_whole; intro g' L' h' FG' F' N' B' X' T'; (try dsimp only); (try k_fold))
  k_steps
  refine ret _ _ ?_ ?_
  · k_asm
  · exact (by (rename News _ _ _ _ => lN9); exact fun p hp => lN9 p (by k_mem))
end

theorem found_sum {xs : List UInt8} {b body : Int} {wl : List (List UInt8)} {neg : Bool} (h0 : 0 ≤ b) (h1 : b ≤ body) : ((found xs (spans xs body (body - b).toNat b).1 wl neg).flatten.length : Int) ≤ body - b := by
  have hs := spans_facts (xs := xs) (stop := body) (body - b).toNat b h0 h1
  have := found_len xs wl neg (spans xs body (body - b).toNat b).1 (fun r hr => by have := hs.1 r hr; omega)
  omega
theorem WordDue.len {xs : List UInt8} {b body e : Int} {news : List (Addr × Obj)} {wd : Str} {na : Addr} {due : List UInt8} (h0 : 0 ≤ b) (h1 : b ≤ body) (h2 : body ≤ e) (h4 : e ≤ (xs.length : Int)) : WordDue xs b body e news wd na due → due.length ≤ 2 * xs.length
  | .all => by have := cut_len_le xs b.toNat e.toNat; omega
  | .header => by have := cut_len_le xs b.toNat body.toNat; omega
  | .text => by have := cut_len_le xs body.toNat e.toNat; omega
  | .fields (ns := ns) _ _ _ _ => by
    have h9 := found_sum (xs := xs) (wl := ns.map (·.map lowB)) (neg := false) h0 h1
    have := cut_len_le xs (emptyAt (spans xs body (body - b).toNat b).1 b).toNat body.toNat
    rw [List.length_append]
    omega
  | .nots (ns := ns) _ _ _ _ => by
    have h9 := found_sum (xs := xs) (wl := ns.map (·.map lowB)) (neg := true) h0 h1
    have := cut_len_le xs (emptyAt (spans xs body (body - b).toNat b).1 b).toNat body.toNat
    rw [List.length_append]
    omega
section
variable {prog : Program} {w : World} {p : Program} {loose : List Str} {mean : ExcName → Option Value} {mg mb : Str → Option Value}
  {dp un : Nat} {gd : Option (List Code)} {cn : Str} {cs : Scope} {a : Addr} {ccd : Value} {cl : List (Str × Addr)} {outer : List Env} {A₀ : Around} {base h₀ : Heap} {L : Addr} {m : Str → Option Value} {news : List (Addr × Obj)} {s : Shared}
  {Q E : Value → Shared → Prop}
theorem sec_word_n {xs : List UInt8} {x sx pa na : Addr} {b body e : Int} {wd : Str} {due : List UInt8} {t : Tok} (B : Below A₀ base outer h₀) (F : Fr h₀ L s.heap m) (X : (Mine.K0 w.params).In h₀) (N : News h₀ L s.heap news) (T : Top p loose mean mg mb h₀) (hk : cs.kind = .function)
   (hd : dp + 9 < recursionLimit) (hu : un < 180) (h3 : xs.length < 1048576) (h0 : 0 ≤ b) (h1 : b ≤ body) (h2 : body ≤ e) (h4 : e ≤ (xs.length : Int)) (hP : PartAt w news x b body e) (hS : SecAt w news sx pa wd na .none) (hpa : (pa, tupOf []) ∈ news) (hW : WordDue xs b body e news wd na due)
   (ret : ∀ t' h' tk', Fr h₀ L h' m → News h₀ L h' news → Q (.bytes due.toArray t') {s with heap := h', toks := tk'}) :
   wpAny (model prog w) (ktrTop dp un gd cn cs L a ccd cl outer) (call (.ref 680) [.bytes xs.toArray t, .ref x, .ref sx]) Q E s := by
  have hSo := hS
  have hlen := hW.len h0 h1 h2 h4
  obtain ⟨ds, tw, s1, s2, s3, s4, hs1, hs2⟩ := hS
  refine wpAny_call ?_
  k_with_none
  k_with "call ref" => (k_here; (with_reducible show wpAny _ _ (call (Value.ref 666) _ _) _ _ _); k_dflt (refine' whole_word ?mB ?mF ?mX ?mN ?mT ?mk ?md ?mh0 ?mh1 ?mh2 ?mh3 ?mh4 ?mh5 ?mh6 ?mh7 ?mh8 ?mh9 ?_; kbo_bools; (case mh6 => kba_ints); (case mh7 => kba_ints); (case mh9 => kba_ints); (case mh0 => kln_le); (case mh1 => omega); (case mh2 => omega); (case mh3 => omega); (case mh4 => omega); (case mh5 => omega); (case mh8 => k_mem); k_whole); intro tw9 hw9 tkw9 F' N'; kct_strs)
  k_with "call ref" => (k_here; (with_reducible show wpAny _ _ (call (Value.ref 673) _ _) _ _ _); k_dflt (refine' sliced_bn ?mB ?mF ?mX ?mN ?mT ?mk ?md ?mh0 ?_; kbo_bools; (case mh0 => (first | omega | exact Nat.lt_of_le_of_lt (cut_len_le _ _ _) (by omega))); k_whole); intro hw9 tkw9 F' N'; kct_strs)
  k_dflt (refine' code_def ?k1 ?k2 ?k3 ?k4 ?k5 ?kA ?kF ?kK ?k6 ?k7 ?k8 ?k9 ?kB ?_ ?c2 ?c3 ?c4 ?c5; (case kA => exact rfl); (case kF => exact rfl); (case kK => first | exact rfl | assumption); (case k1 => k_asm); (case k2 => k_asm); (case k3 => k_asm); (case k4 => k_asm); (case k5 => k_asm); (case k6 => (refine' Eq.trans ?ql9 ?qr9; (case ql9 => k_is); (case qr9 => ((conv in (fnA _) => whnf); (conv in (fnB _) => whnf); (conv in (fnS _) => whnf); exact rfl)))); (case k7 => k_is); (case k8 => first | ktr_room | omega); (case k9 => first | exact BindsTo.of_eq rfl | exact binds_K (by k_in) rfl (by k_is) rfl rfl rfl); (case c5 => decide); (case kB => exact locs rfl); (case c2 => exact rfl); (case c3 => exact rfl); (case c4 => exact rfl); k_whole; intro g' L' h' FG' F' N' B' X' T'; (try dsimp only); (try k_fold))
  k_steps
  refine ret _ _ _ ?_ ?_
  · k_asm
  · exact (by (rename News _ _ _ _ => lN9); exact fun p hp => lN9 p (by k_mem))
theorem sec_word_p {xs : List UInt8} {x sx pa na : Addr} {b body e : Int} {wd : Str} {due : List UInt8} {pp : Addr} {i j : Int} {t1 t2 : Tok} {t : Tok} (B : Below A₀ base outer h₀) (F : Fr h₀ L s.heap m) (X : (Mine.K0 w.params).In h₀) (N : News h₀ L s.heap news) (T : Top p loose mean mg mb h₀) (hk : cs.kind = .function)
   (hd : dp + 9 < recursionLimit) (hu : un < 180) (h3 : xs.length < 1048576) (h0 : 0 ≤ b) (h1 : b ≤ body) (h2 : body ≤ e) (h4 : e ≤ (xs.length : Int)) (hP : PartAt w news x b body e) (hS : SecAt w news sx pa wd na (.ref pp)) (hpa : (pa, tupOf []) ∈ news) (hW : WordDue xs b body e news wd na due) (hi0 : 0 ≤ i) (hi1 : i ≤ 100) (hj0 : 0 ≤ j) (hj1 : j ≤ 100) (hpp : (pp, tupOf [.int i t1, .int j t2]) ∈ news)
   (ret : ∀ t' h' tk', Fr h₀ L h' m → News h₀ L h' news → Q (.bytes (cut due i.toNat (i + j).toNat).toArray t') {s with heap := h', toks := tk'}) :
   wpAny (model prog w) (ktrTop dp un gd cn cs L a ccd cl outer) (call (.ref 680) [.bytes xs.toArray t, .ref x, .ref sx]) Q E s := by
  have hSo := hS
  have hlen := hW.len h0 h1 h2 h4
  obtain ⟨ds, tw, s1, s2, s3, s4, hs1, hs2⟩ := hS
  refine wpAny_call ?_
  k_with_none
  k_with "call ref" => (k_here; (with_reducible show wpAny _ _ (call (Value.ref 666) _ _) _ _ _); k_dflt (refine' whole_word ?mB ?mF ?mX ?mN ?mT ?mk ?md ?mh0 ?mh1 ?mh2 ?mh3 ?mh4 ?mh5 ?mh6 ?mh7 ?mh8 ?mh9 ?_; kbo_bools; (case mh6 => kba_ints); (case mh7 => kba_ints); (case mh9 => kba_ints); (case mh0 => kln_le); (case mh1 => omega); (case mh2 => omega); (case mh3 => omega); (case mh4 => omega); (case mh5 => omega); (case mh8 => k_mem); k_whole); intro tw9 hw9 tkw9 F' N'; kct_strs)
  k_with "call ref" => (k_here; (with_reducible show wpAny _ _ (call (Value.ref 673) _ _) _ _ _); k_dflt (refine' sliced_b ?mB ?mF ?mX ?mN ?mT ?mk ?md ?mh0 ?mh1 ?mh2 ?mh3 ?mh4 ?mh5 ?_; kbo_bools; (case mh5 => k_mem); (case mh0 => (first | omega | exact Nat.lt_of_le_of_lt (cut_len_le _ _ _) (by omega))); (case mh1 => omega); (case mh2 => omega); (case mh3 => omega); (case mh4 => omega); k_whole); intro tw9 hw9 tkw9 F' N'; kct_strs)
  k_dflt (refine' code_def ?k1 ?k2 ?k3 ?k4 ?k5 ?kA ?kF ?kK ?k6 ?k7 ?k8 ?k9 ?kB ?_ ?c2 ?c3 ?c4 ?c5; (case kA => exact rfl); (case kF => exact rfl); (case kK => first | exact rfl | assumption); (case k1 => k_asm); (case k2 => k_asm); (case k3 => k_asm); (case k4 => k_asm); (case k5 => k_asm); (case k6 => (refine' Eq.trans ?ql9 ?qr9; (case ql9 => k_is); (case qr9 => ((conv in (fnA _) => whnf); (conv in (fnB _) => whnf); (conv in (fnS _) => whnf); exact rfl)))); (case k7 => k_is); (case k8 => first | ktr_room | omega); (case k9 => first | exact BindsTo.of_eq rfl | exact binds_K (by k_in) rfl (by k_is) rfl rfl rfl); (case c5 => decide); (case kB => exact locs rfl); (case c2 => exact rfl); (case c3 => exact rfl); (case c4 => exact rfl); k_whole; intro g' L' h' FG' F' N' B' X' T'; (try dsimp only); (try k_fold))
  k_steps
  refine ret _ _ _ ?_ ?_
  · k_asm
  · exact (by (rename News _ _ _ _ => lN9); exact fun p hp => lN9 p (by k_mem))
theorem sec_1e {xs : List UInt8} {x sx pa na : Addr} {b body e : Int} {tq : Tok} {t : Tok} (B : Below A₀ base outer h₀) (F : Fr h₀ L s.heap m) (X : (Mine.K0 w.params).In h₀) (N : News h₀ L s.heap news) (T : Top p loose mean mg mb h₀) (hk : cs.kind = .function)
   (hd : dp + 9 < recursionLimit) (hu : un < 180) (h3 : xs.length < 1048576) (h0 : 0 ≤ b) (h1 : b ≤ body) (h2 : body ≤ e) (h4 : e ≤ (xs.length : Int)) (hP : PartAt w news x b body e) (hS : SecAt w news sx pa (Str.ofString "") na .none) (hpa : (pa, tupOf [.int 1 tq]) ∈ news)
   (ret : ∀ t' h' tk', Fr h₀ L h' m → News h₀ L h' news → Q (.bytes (cut xs body.toNat e.toNat).toArray t') {s with heap := h', toks := tk'}) :
   wpAny (model prog w) (ktrTop dp un gd cn cs L a ccd cl outer) (call (.ref 680) [.bytes xs.toArray t, .ref x, .ref sx]) Q E s := by
  have hSo := hS
  obtain ⟨ds, tw, s1, s2, s3, s4, hs1, hs2⟩ := hS
  refine wpAny_call ?_
  k_with_none
  k_with "call ref" => (k_here; (with_reducible show wpAny _ _ (call (Value.ref 666) _ _) _ _ _); k_dflt (refine' whole_1e ?mB ?mF ?mX ?mN ?mT ?mk ?md ?mh0 ?mh1 ?mh2 ?mh3 ?mh4 ?mh5 ?mh6 ?mh7 ?mh8 ?_; kbo_bools; (case mh6 => kba_ints); (case mh7 => kba_ints); (case mh0 => kln_le); (case mh1 => omega); (case mh2 => omega); (case mh3 => omega); (case mh4 => omega); (case mh5 => omega); (case mh8 => k_mem); k_whole); intro tw9 hw9 tkw9 F' N'; kct_strs)
  k_with "call ref" => (k_here; (with_reducible show wpAny _ _ (call (Value.ref 673) _ _) _ _ _); k_dflt (refine' sliced_bn ?mB ?mF ?mX ?mN ?mT ?mk ?md ?mh0 ?_; kbo_bools; (case mh0 => (first | omega | exact Nat.lt_of_le_of_lt (cut_len_le _ _ _) (by omega))); k_whole); intro hw9 tkw9 F' N'; kct_strs)
  k_dflt (refine' code_def ?k1 ?k2 ?k3 ?k4 ?k5 ?kA ?kF ?kK ?k6 ?k7 ?k8 ?k9 ?kB ?_ ?c2 ?c3 ?c4 ?c5; (case kA => exact rfl); (case kF => exact rfl); (case kK => first | exact rfl | assumption); (case k1 => k_asm); (case k2 => k_asm); (case k3 => k_asm); (case k4 => k_asm); (case k5 => k_asm); (case k6 => (refine' Eq.trans ?ql9 ?qr9; (case ql9 => k_is); (case qr9 => ((conv in (fnA _) => whnf); (conv in (fnB _) => whnf); (conv in (fnS _) => whnf); exact rfl)))); (case k7 => k_is); (case k8 => first | ktr_room | omega); (case k9 => first | exact BindsTo.of_eq rfl | exact binds_K (by k_in) rfl (by k_is) rfl rfl rfl); (case c5 => decide); (case kB => exact locs rfl); (case c2 => exact rfl); (case c3 => exact rfl); (case c4 => exact rfl); k_whole; intro g' L' h' FG' F' N' B' X' T'; (try dsimp only); (try k_fold))
  k_steps
  refine ret _ _ _ ?_ ?_
  · k_asm
  · exact (by (rename News _ _ _ _ => lN9); exact fun p hp => lN9 p (by k_mem))
theorem sec_1m {xs : List UInt8} {x sx pa na : Addr} {b body e : Int} {tq : Tok} {t : Tok} (B : Below A₀ base outer h₀) (F : Fr h₀ L s.heap m) (X : (Mine.K0 w.params).In h₀) (N : News h₀ L s.heap news) (T : Top p loose mean mg mb h₀) (hk : cs.kind = .function)
   (hd : dp + 9 < recursionLimit) (hu : un < 180) (h3 : xs.length < 1048576) (h0 : 0 ≤ b) (h1 : b ≤ body) (h2 : body ≤ e) (h4 : e ≤ (xs.length : Int)) (hP : PartAt w news x b body e) (hS : SecAt w news sx pa (Str.ofString "MIME") na .none) (hpa : (pa, tupOf [.int 1 tq]) ∈ news)
   (ret : ∀ t' h' tk', Fr h₀ L h' m → News h₀ L h' news → Q (.bytes (cut xs b.toNat body.toNat).toArray t') {s with heap := h', toks := tk'}) :
   wpAny (model prog w) (ktrTop dp un gd cn cs L a ccd cl outer) (call (.ref 680) [.bytes xs.toArray t, .ref x, .ref sx]) Q E s := by
  have hSo := hS
  obtain ⟨ds, tw, s1, s2, s3, s4, hs1, hs2⟩ := hS
  refine wpAny_call ?_
  k_with_none
  k_with "call ref" => (k_here; (with_reducible show wpAny _ _ (call (Value.ref 666) _ _) _ _ _); k_dflt (refine' whole_1m ?mB ?mF ?mX ?mN ?mT ?mk ?md ?mh0 ?mh1 ?mh2 ?mh3 ?mh4 ?mh5 ?mh6 ?mh7 ?mh8 ?_; kbo_bools; (case mh6 => kba_ints); (case mh7 => kba_ints); (case mh0 => kln_le); (case mh1 => omega); (case mh2 => omega); (case mh3 => omega); (case mh4 => omega); (case mh5 => omega); (case mh8 => k_mem); k_whole); intro tw9 hw9 tkw9 F' N'; kct_strs)
  k_with "call ref" => (k_here; (with_reducible show wpAny _ _ (call (Value.ref 673) _ _) _ _ _); k_dflt (refine' sliced_bn ?mB ?mF ?mX ?mN ?mT ?mk ?md ?mh0 ?_; kbo_bools; (case mh0 => (first | omega | exact Nat.lt_of_le_of_lt (cut_len_le _ _ _) (by omega))); k_whole); intro hw9 tkw9 F' N'; kct_strs)
  k_dflt (refine' code_def ?k1 ?k2 ?k3 ?k4 ?k5 ?kA ?kF ?kK ?k6 ?k7 ?k8 ?k9 ?kB ?_ ?c2 ?c3 ?c4 ?c5; (case kA => exact rfl); (case kF => exact rfl); (case kK => first | exact rfl | assumption); (case k1 => k_asm); (case k2 => k_asm); (case k3 => k_asm); (case k4 => k_asm); (case k5 => k_asm); (case k6 => (refine' Eq.trans ?ql9 ?qr9; (case ql9 => k_is); (case qr9 => ((conv in (fnA _) => whnf); (conv in (fnB _) => whnf); (conv in (fnS _) => whnf); exact rfl)))); (case k7 => k_is); (case k8 => first | ktr_room | omega); (case k9 => first | exact BindsTo.of_eq rfl | exact binds_K (by k_in) rfl (by k_is) rfl rfl rfl); (case c5 => decide); (case kB => exact locs rfl); (case c2 => exact rfl); (case c3 => exact rfl); (case c4 => exact rfl); k_whole; intro g' L' h' FG' F' N' B' X' T'; (try dsimp only); (try k_fold))
  k_steps
  refine ret _ _ _ ?_ ?_
  · k_asm
  · exact (by (rename News _ _ _ _ => lN9); exact fun p hp => lN9 p (by k_mem))
theorem sec_1t {xs : List UInt8} {x sx pa na : Addr} {b body e : Int} {tq : Tok} {t : Tok} (B : Below A₀ base outer h₀) (F : Fr h₀ L s.heap m) (X : (Mine.K0 w.params).In h₀) (N : News h₀ L s.heap news) (T : Top p loose mean mg mb h₀) (hk : cs.kind = .function)
   (hd : dp + 9 < recursionLimit) (hu : un < 180) (h3 : xs.length < 1048576) (h0 : 0 ≤ b) (h1 : b ≤ body) (h2 : body ≤ e) (h4 : e ≤ (xs.length : Int)) (hP : PartAt w news x b body e) (hS : SecAt w news sx pa (Str.ofString "TEXT") na .none) (hpa : (pa, tupOf [.int 1 tq]) ∈ news)
   (ret : ∀ h' tk', Fr h₀ L h' m → News h₀ L h' news → Q .none {s with heap := h', toks := tk'}) :
   wpAny (model prog w) (ktrTop dp un gd cn cs L a ccd cl outer) (call (.ref 680) [.bytes xs.toArray t, .ref x, .ref sx]) Q E s := by
  have hSo := hS
  obtain ⟨ds, tw, s1, s2, s3, s4, hs1, hs2⟩ := hS
  refine wpAny_call ?_
  k_with_none
  k_with "call ref" => (k_here; (with_reducible show wpAny _ _ (call (Value.ref 666) _ _) _ _ _); k_dflt (refine' whole_1t ?mB ?mF ?mX ?mN ?mT ?mk ?md ?mh0 ?mh1 ?mh2 ?mh3 ?mh4 ?mh5 ?mh6 ?mh7 ?mh8 ?_; kbo_bools; (case mh6 => kba_ints); (case mh7 => kba_ints); (case mh0 => kln_le); (case mh1 => omega); (case mh2 => omega); (case mh3 => omega); (case mh4 => omega); (case mh5 => omega); (case mh8 => k_mem); k_whole); intro hw9 tkw9 F' N'; kct_strs)
  k_with "call ref" => (k_here; (with_reducible show wpAny _ _ (call (Value.ref 673) _ _) _ _ _); k_dflt (refine' sliced_nn ?mB ?mF ?mX ?mN ?mT ?mk ?md  ?_; kbo_bools;  k_whole); intro hw9 tkw9 F' N'; kct_strs)
  k_dflt (refine' code_def ?k1 ?k2 ?k3 ?k4 ?k5 ?kA ?kF ?kK ?k6 ?k7 ?k8 ?k9 ?kB ?_ ?c2 ?c3 ?c4 ?c5; (case kA => exact rfl); (case kF => exact rfl); (case kK => first | exact rfl | assumption); (case k1 => k_asm); (case k2 => k_asm); (case k3 => k_asm); (case k4 => k_asm); (case k5 => k_asm); (case k6 => (refine' Eq.trans ?ql9 ?qr9; (case ql9 => k_is); (case qr9 => ((conv in (fnA _) => whnf); (conv in (fnB _) => whnf); (conv in (fnS _) => whnf); exact rfl)))); (case k7 => k_is); (case k8 => first | ktr_room | omega); (case k9 => first | exact BindsTo.of_eq rfl | exact binds_K (by k_in) rfl (by k_is) rfl rfl rfl); (case c5 => decide); (case kB => exact locs rfl); (case c2 => exact rfl); (case c3 => exact rfl); (case c4 => exact rfl); k_whole; intro g' L' h' FG' F' N' B' X' T'; (try dsimp only); (try k_fold))
  k_steps
  refine ret _ _ ?_ ?_
  · k_asm
  · exact (by (rename News _ _ _ _ => lN9); exact fun p hp => lN9 p (by k_mem))
theorem sec_2 {xs : List UInt8} {x sx pa na : Addr} {b body e : Int} {tq : Tok} {pp : Addr} {t : Tok} (B : Below A₀ base outer h₀) (F : Fr h₀ L s.heap m) (X : (Mine.K0 w.params).In h₀) (N : News h₀ L s.heap news) (T : Top p loose mean mg mb h₀) (hk : cs.kind = .function)
   (hd : dp + 9 < recursionLimit) (hu : un < 180) (h3 : xs.length < 1048576) (h0 : 0 ≤ b) (h1 : b ≤ body) (h2 : body ≤ e) (h4 : e ≤ (xs.length : Int)) (hP : PartAt w news x b body e) (hS : SecAt w news sx pa (Str.ofString "") na (.ref pp)) (hpa : (pa, tupOf [.int 2 tq]) ∈ news)
   (ret : ∀ h' tk', Fr h₀ L h' m → News h₀ L h' news → Q .none {s with heap := h', toks := tk'}) :
   wpAny (model prog w) (ktrTop dp un gd cn cs L a ccd cl outer) (call (.ref 680) [.bytes xs.toArray t, .ref x, .ref sx]) Q E s := by
  have hSo := hS
  obtain ⟨ds, tw, s1, s2, s3, s4, hs1, hs2⟩ := hS
  refine wpAny_call ?_
  k_with_none
  k_with "call ref" => (k_here; (with_reducible show wpAny _ _ (call (Value.ref 666) _ _) _ _ _); k_dflt (refine' whole_2 ?mB ?mF ?mX ?mN ?mT ?mk ?md ?mh0 ?mh1 ?mh2 ?mh3 ?mh4 ?mh5 ?mh6 ?mh7 ?mh8 ?_; kbo_bools; (case mh6 => kba_ints); (case mh7 => kba_ints); (case mh0 => kln_le); (case mh1 => omega); (case mh2 => omega); (case mh3 => omega); (case mh4 => omega); (case mh5 => omega); (case mh8 => k_mem); k_whole); intro hw9 tkw9 F' N'; kct_strs)
  k_with "call ref" => (k_here; (with_reducible show wpAny _ _ (call (Value.ref 673) _ _) _ _ _); k_dflt (refine' sliced_nr ?mB ?mF ?mX ?mN ?mT ?mk ?md  ?_; kbo_bools;  k_whole); intro hw9 tkw9 F' N'; kct_strs)
  k_dflt (refine' code_def ?k1 ?k2 ?k3 ?k4 ?k5 ?kA ?kF ?kK ?k6 ?k7 ?k8 ?k9 ?kB ?_ ?c2 ?c3 ?c4 ?c5; (case kA => exact rfl); (case kF => exact rfl); (case kK => first | exact rfl | assumption); (case k1 => k_asm); (case k2 => k_asm); (case k3 => k_asm); (case k4 => k_asm); (case k5 => k_asm); (case k6 => (refine' Eq.trans ?ql9 ?qr9; (case ql9 => k_is); (case qr9 => ((conv in (fnA _) => whnf); (conv in (fnB _) => whnf); (conv in (fnS _) => whnf); exact rfl)))); (case k7 => k_is); (case k8 => first | ktr_room | omega); (case k9 => first | exact BindsTo.of_eq rfl | exact binds_K (by k_in) rfl (by k_is) rfl rfl rfl); (case c5 => decide); (case kB => exact locs rfl); (case c2 => exact rfl); (case c3 => exact rfl); (case c4 => exact rfl); k_whole; intro g' L' h' FG' F' N' B' X' T'; (try dsimp only); (try k_fold))
  k_steps
  refine ret _ _ ?_ ?_
  · k_asm
  · exact (by (rename News _ _ _ _ => lN9); exact fun p hp => lN9 p (by k_mem))
end

section

open Builtin KBd
noncomputable abbrev asc : Str := Str.ofString "ascii"
theorem args_dec2 (a b : Value) : argsOk "bytes.decode" ⟨[a, b], []⟩ := by
  unfold argsOk; rw [signature?_of (id := "bytes.decode") (n := ['e', 'd', 'o', 'c', 'e', 'd']) (o := ['s', 'e', 't', 'y', 'b']) (by kernel_rfl) FB.owner_bytes]; kernel_rfl
theorem road_asc {id : String} {b : Array UInt8} : _codecs.decodeRoad id b asc none [] = (_codecs.runDecoder id _codecs.asciiDecoder none true b 0 [] >>= fun r => mkStr ⟨r.1⟩) := by kernel_rfl
theorem meets_text_asc {b : Array UInt8} {t t1 t2 : Tok} {d x : Str} {n : Nat} (hd : ∀ id, _codecs.runDecoder id _codecs.asciiDecoder none true b 0 [] = pure (x.cps, n)) :
    Meets («_codecs.decode.text» ⟨[.bytes b t, .str asc t1, .none, .str d t2], []⟩) (fun _ R s => x.length ≤ sizeLine ∧ R (.ok (.ret (.str x s.toks))) { s with toks := s.toks + 1 }) := by
  refine .of_wp fun prog w A R s hS => ?_
  obtain ⟨hsz, h⟩ := hS
  show wpAny _ _ (Bytes.bytesLike _ (.bytes b t) >>= fun r => _) _ _ s
  refine wpAny_bind (wpAny_of_eq like_eq ?_)
  refine wpAny_bind (wpAny_of_eq held_eq ?_)
  show wpAny _ _ (_codecs.decodeRoad _ b asc none [] >>= fun v => _) _ _ s
  rw [road_asc, hd]
  refine wpAny_bind (wpAny_bind (wpAny_pure ?_))
  exact wpAny_mkStr (wpAny_pure ⟨_, rfl, h⟩) hsz
theorem dec_entry {c : UInt8} {cs : List UInt8} {t u : Tok} : «bytes.decode» ⟨[.bytes (c :: cs).toArray t, .str asc u], []⟩ = (mkStr (Str.ofString "utf-8") >>= fun _ => mkStr asc >>= fun e => mkStr (Str.ofString "bytes.decode") >>= fun d =>
    call (.builtin "_codecs.decode.text") [.bytes (c :: cs).toArray t, e, .none, d] >>= fun v => ret v) := by kernel_rfl
theorem meets_dec {c : UInt8} {cs : List UInt8} {t u : Tok} {x : Str} {n : Nat} (hd : ∀ id, _codecs.runDecoder id _codecs.asciiDecoder none true (c :: cs).toArray 0 [] = pure (x.cps, n)) :
    Meets («bytes.decode» ⟨[.bytes (c :: cs).toArray t, .str asc u], []⟩) (fun _ R s => x.length ≤ sizeLine ∧ ∀ t' k, R (.ok (.ret (.str x t'))) { s with toks := k }) := by
  refine .of_wp fun prog w A R s hS => ?_
  obtain ⟨hsz, h⟩ := hS
  rw [dec_entry]
  refine wpAny_bind (wpAny_mkStr ?_ (by decide))
  refine wpAny_bind (wpAny_mkStr ?_ (by decide))
  refine wpAny_bind (wpAny_mkStr ?_ (by decide))
  exact wpAny_bind (call_function_meets kind_text plain_text entry_text (args_text _ _ _ _) (meets_text_asc hd) ⟨hsz, wpAny_pure ⟨_, rfl, h _ _⟩⟩)
theorem meets_dec0 {t u : Tok} : Meets («bytes.decode» ⟨[.bytes #[] t, .str asc u], []⟩) (fun _ R s => ∀ t' k, R (.ok (.ret (.str ⟨#[]⟩ t'))) { s with toks := k }) := by
  refine .of_wp fun prog w A R s h => ?_
  have e : «bytes.decode» ⟨[.bytes #[] t, .str asc u], []⟩ = (rule "bytes.decode.empty" >>= fun _ => retStr Str.empty) := by kernel_rfl
  rw [e]
  refine wpAny_bind (wpAny_rule ?_)
  exact wpAny_bind (wpAny_mkStr (wpAny_pure ⟨_, rfl, h _ _⟩) (by decide))
theorem enc_entry {x : Str} {t u : Tok} : «str.encode» ⟨[.str x t, .str asc u], []⟩ = ((_codecs.encodeNarrow "str.encode" _codecs.asciiCodec none (.str x t) x >>= fun b => mkBytes b) >>= fun v => ret v) := by kernel_rfl
theorem meets_enc {x : Str} {b : List UInt8} {t u : Tok} (hd : _codecs.encodeNarrow "str.encode" _codecs.asciiCodec none (.str x t) x = pure b.toArray) (hz : b.length ≤ 16777216) :
    Meets («str.encode» ⟨[.str x t, .str asc u], []⟩) (fun _ R s => ∀ t' k, R (.ok (.ret (.bytes b.toArray t'))) { s with toks := k }) := by
  refine .of_wp fun prog w A R s h => ?_
  rw [enc_entry, hd]
  refine wpAny_bind (wpAny_bind (wpAny_pure ?_))
  exact (wpAny_mkBytes (wpAny_pure ⟨_, rfl, h _ _⟩) (by rw [List.size_toArray, sizeLine_eq]; exact hz))
noncomputable def wantB : List (List UInt8) := [[84, 79], [102, 114, 111, 109], [120, 45, 65], [115, 117, 98, 106, 101, 99], []]
section
variable {prog : Program} {w : World} {A : Around} {E : Value → Shared → Prop} {s : Shared} {t u : Tok} {Q : Value → Shared → Prop}
theorem dec_K {b : List UInt8} (hb : b ∈ wantB) (h : ∀ t' k, Q (.str (sOf b) t') { s with toks := k }) : wpAny (model prog w) A (call (.builtin "bytes.decode") [.bytes b.toArray t, .str asc u]) Q E s := by
  simp only [wantB, List.mem_cons, List.not_mem_nil, or_false] at hb
  rcases hb with rfl | rfl | rfl | rfl | rfl
  · exact call_meets FB.slot_bytes_decode (typeIs_bytes _ _ _) FB.entry_bytes_decode (args_dec2 _ _) (meets_dec (x := sOf [84, 79]) (n := 2) (by intro id; kernel_rfl)) ⟨by decide, h⟩
  · exact call_meets FB.slot_bytes_decode (typeIs_bytes _ _ _) FB.entry_bytes_decode (args_dec2 _ _) (meets_dec (x := sOf [102, 114, 111, 109]) (n := 4) (by intro id; kernel_rfl)) ⟨by decide, h⟩
  · exact call_meets FB.slot_bytes_decode (typeIs_bytes _ _ _) FB.entry_bytes_decode (args_dec2 _ _) (meets_dec (x := sOf [120, 45, 65]) (n := 3) (by intro id; kernel_rfl)) ⟨by decide, h⟩
  · exact call_meets FB.slot_bytes_decode (typeIs_bytes _ _ _) FB.entry_bytes_decode (args_dec2 _ _) (meets_dec (x := sOf [115, 117, 98, 106, 101, 99]) (n := 6) (by intro id; kernel_rfl)) ⟨by decide, h⟩
  · exact call_meets FB.slot_bytes_decode (typeIs_bytes _ _ _) FB.entry_bytes_decode (args_dec2 _ _) meets_dec0 h
theorem low_K {b : List UInt8} (hb : b ∈ wantB) (h : ∀ t' k, Q (.str (sOf (b.map lowB)) t') { s with toks := k }) : wpAny (model prog w) A (call (.builtin "str.lower") [.str (sOf b) t]) Q E s := by
  simp only [wantB, List.mem_cons, List.not_mem_nil, or_false] at hb
  rcases hb with rfl | rfl | rfl | rfl | rfl
  all_goals exact KXw.lower (by decide +kernel) (by decide +kernel) h
theorem enc_K {b : List UInt8} (hb : b ∈ wantB) (h : ∀ t' k, Q (.bytes (b.map lowB).toArray t') { s with toks := k }) : wpAny (model prog w) A (call (.builtin "str.encode") [.str (sOf (b.map lowB)) t, .str asc u]) Q E s := by
  simp only [wantB, List.mem_cons, List.not_mem_nil, or_false] at hb
  rcases hb with rfl | rfl | rfl | rfl | rfl
  all_goals exact call_meets F.slot_str_encode (typeIs_str _ _ _) F.entry_str_encode (F.args_str_encode_2 _ _) (meets_enc (by kernel_rfl) (by decide)) h
theorem meth_dec {M : Model} {b : Array UInt8} {pl : Sem Bool} {Q : Value × List Value → Shared → Prop} (h : Q (.builtin "bytes.decode", [.bytes b t]) s) : wpAny M A (getMethod (.bytes b t) "decode" pl) Q E s := KBd.method h
theorem meth_enc {M : Model} {x : Str} {pl : Sem Bool} {Q : Value × List Value → Shared → Prop} (h : Q (.builtin "str.encode", [.str x t]) s) : wpAny M A (getMethod (.str x t) "encode" pl) Q E s := by
  with_reducible exact GM.of (.str x t) (typeIs_str _ _ _) F.slot_str_encode F.type_str_encode GM.noRef h
end
section
variable {prog : Program} {w : World} {A : Around} {E : Value → Shared → Prop} {s : Shared} {t u : Tok}
theorem eqBool_bytes {b c : List UInt8} {Q : Bool → Shared → Prop} (h : Q (b == c) s) : wpAny (model prog w) A (eqBool (.bytes b.toArray t) (.bytes c.toArray u)) Q E s := by
  unfold eqBool
  show wpAny _ _ (if (Value.bytes b.toArray t == Value.bytes c.toArray u) = true then _ else _) Q E s
  by_cases hab : (Value.bytes b.toArray t == Value.bytes c.toArray u) = true
  · rw [if_pos hab]
    have e : b.toArray = c.toArray := by have := eq_of_beq hab; injection this
    have e2 : b = c := by simpa using e
    subst e2
    exact wpAny_bind (wpAny_rule (wpAny_pure (by simpa using h)))
  · rw [if_neg hab]
    refine wpAny_bind ?_
    show wpAny _ _ (compareOp .Eq (.bytes b.toArray t) (.bytes c.toArray u)) _ _ _
    exact eq_bytes (wpAny_truthy_bool h)
noncomputable def isBytesOf (k : List UInt8) : Value → Bool
  | .bytes b _ => b.toList == k
  | _ => false
theorem any_isBytesOf (k : List UInt8) : ∀ {vs : List Value} {bs : List (List UInt8)}, BytesAre vs bs → vs.any (isBytesOf k) = bs.any (· == k)
  | _, _, .nil => rfl
  | _, _, .cons b t h => by simp only [List.any_cons, isBytesOf, any_isBytesOf k h]
theorem eq_isBytesOf (k : List UInt8) (t : Tok) : ∀ {vs : List Value} {bs : List (List UInt8)}, BytesAre vs bs → ∀ y, y ∈ vs → MeetsSeq.EqGives y (.bytes k.toArray t) (isBytesOf k y)
  | _, _, .nil, _, hy => nomatch hy
  | _, _, .cons b u h, y, hy => by
    rcases List.mem_cons.mp hy with rfl | hy
    · exact fun _ _ _ _ _ _ h => eqBool_bytes h
    · exact eq_isBytesOf k t h y hy
theorem in_bytes {l : Addr} {vs : List Value} {bs : List (List UInt8)} {k : List UInt8} {Q : Value → Shared → Prop} (hl : s.heap.IsList l vs.toArray) (hi : BytesAre vs bs)
    (h : Q (.bool (bs.any (· == k))) s) : wpAny (model prog w) A (compareOp .In (.bytes k.toArray t) (.ref l)) Q E s :=
  SeqInW.in_listW (isBytesOf k) (fun y hy => eq_isBytesOf k t hi y (by simpa using hy)) hl (by rw [← Array.any_toList, show vs.toArray.toList = vs from rfl, any_isBytesOf k hi]; exact h)
theorem notin_bytes {l : Addr} {vs : List Value} {bs : List (List UInt8)} {k : List UInt8} {Q : Value → Shared → Prop} (hl : s.heap.IsList l vs.toArray) (hi : BytesAre vs bs)
    (h : Q (.bool (!(bs.any (· == k)))) s) : wpAny (model prog w) A (compareOp .NotIn (.bytes k.toArray t) (.ref l)) Q E s :=
  SeqInW.notIn_listW (isBytesOf k) (fun y hy => eq_isBytesOf k t hi y (by simpa using hy)) hl (by rw [← Array.any_toList, show vs.toArray.toList = vs from rfl, any_isBytesOf k hi]; exact h)
end

end
noncomputable abbrev tapeO (ce : Addr) (at0 : Int) (ta : Tok) (n : Nat) : Obj := listOf #[.ref ce, .int at0 ta] n
theorem ints_get : ∀ {vs : List Value} {ns : List Int}, IntsAre vs ns → ∀ {i : Nat}, i < ns.length → ∃ t, vs[i]? = some (.int (ns.getD i 0) t)
  | _, _, .nil, _, h => absurd h (Nat.not_lt_zero _)
  | _, _, .cons _ t r, 0, _ => ⟨t, rfl⟩
  | _, _, .cons _ _ r, i + 1, h => by
    obtain ⟨t, h1⟩ := ints_get r (Nat.lt_of_succ_lt_succ h)
    exact ⟨t, by rw [List.getElem?_cons_succ, h1]; simp⟩
theorem upd_of {d : Addr} {o : Obj} : ∀ {l : List (Addr × Obj)} {g : Obj → List (Addr × Obj)}, UpdF d o l g → ∀ o', Upd d o o' l (g o')
  | _, _, .head h, _ => .head h
  | _, _, .tail h r, o' => .tail h (upd_of r o')
theorem fdiv_facts {a b : Int} (h0 : 0 ≤ a) (hb : 0 < b) : 0 ≤ a.fdiv b ∧ a.fdiv b ≤ a := by
  rw [Int.fdiv_eq_ediv_of_nonneg _ (by omega)]
  exact ⟨Int.ediv_nonneg h0 (by omega), Int.ediv_le_self _ h0⟩
section
variable {prog : Program} {w : World} {p : Program} {loose : List Str} {mean : ExcName → Option Value} {mg mb : Str → Option Value}
  {dp un : Nat} {gd : Option (List Code)} {cn : Str} {cs : Scope} {a : Addr} {ccd : Value} {cl : List (Str × Addr)} {outer : List Env} {A₀ : Around} {base h₀ : Heap} {L : Addr} {m : Str → Option Value} {news : List (Addr × Obj)} {s : Shared}
  {Q E : Value → Shared → Prop}
theorem law_draw_ok {tp ce : Addr} {vs : List Value} {ns : List Int} {kc n : Nat} {at0 many : Int} {ta tm : Tok} {g : Obj → List (Addr × Obj)} (B : Below A₀ base outer h₀) (F : Fr h₀ L s.heap m) (X : (Mine.K0 w.params).In h₀) (N : News h₀ L s.heap news) (T : Top p loose mean mg mb h₀) (hk : cs.kind = .function)
   (hd : dp + 1 < recursionLimit) (htp : (tp, tapeO ce at0 ta n) ∈ news) (hc : (ce, listOf vs.toArray kc) ∈ news) (hi : IntsAre vs ns) (hne : 0 < ns.length) (hnl : ns.length ≤ 64) (h0 : 0 ≤ at0) (h1 : at0 ≤ 1000) (hm0 : 0 < many) (hm1 : many ≤ 100)
   (UF : UpdF tp (tapeO ce at0 ta n) news g) (hmem : ∀ o, (ce, listOf vs.toArray kc) ∈ g o)
   (ret : ∀ v tv tk h' tk', Fr h₀ L h' m → News h₀ L h' (g (tapeO ce (at0 + 1) tk n)) → 0 ≤ v → v < many → Q (.int v tv) {s with heap := h', toks := tk'}) :
   wpAny (model prog w) (ktrTop dp un gd cn cs L a ccd cl outer) (call (.ref 689) [.ref tp, .int many tm]) Q E s := by
  have hlen : vs.length = ns.length := IntsAre.length hi
  have hz : (0 : Int) < (ns.length : Int) := by omega
  have hf0 := Int.fmod_nonneg_of_pos at0 hz
  have hf1 := Int.fmod_lt_of_pos at0 hz
  have hq := fdiv_facts h0 hz
  have hr := fdiv_facts (b := 2) h0 (by decide)
  obtain ⟨tc, hcell⟩ := ints_get hi (i := (at0.fmod (ns.length : Int)).toNat) (by omega)
  have hmu : IntMulOk (at0.fdiv (ns.length : Int)) (7 * at0 + 3 + at0.fdiv 2) := IntMulOk.of_left (intBits_le_iff.mpr (by omega))
  have hm7 : IntMulOk 7 at0 := IntMulOk.of_left (by decide)
  have hv0 := Int.fmod_nonneg_of_pos (ns.getD (at0.fmod (ns.length : Int)).toNat 0 + at0.fdiv (ns.length : Int) * (7 * at0 + 3 + at0.fdiv 2)) hm0
  have hv1 := Int.fmod_lt_of_pos (ns.getD (at0.fmod (ns.length : Int)).toNat 0 + at0.fdiv (ns.length : Int) * (7 * at0 + 3 + at0.fdiv 2)) hm0
  refine wpAny_call ?_
  k_with_none
  k_dflt (refine' code_def ?k1 ?k2 ?k3 ?k4 ?k5 ?kA ?kF ?kK ?k6 ?k7 ?k8 ?k9 ?kB ?_ ?c2 ?c3 ?c4 ?c5; (case kA => exact rfl); (case kF => exact rfl); (case kK => first | exact rfl | assumption); (case k1 => k_asm); (case k2 => k_asm); (case k3 => k_asm); (case k4 => k_asm); (case k5 => k_asm); (case k6 => (refine' Eq.trans ?ql9 ?qr9; (case ql9 => k_is); (case qr9 => ((conv in (fnA _) => whnf); (conv in (fnB _) => whnf); (conv in (fnS _) => whnf); exact rfl)))); (case k7 => k_is); (case k8 => first | ktr_room | omega); (case k9 => first | exact BindsTo.of_eq rfl | exact binds_K (by k_in) rfl (by k_is) rfl rfl rfl); (case c5 => decide); (case kB => exact locs rfl); (case c2 => exact rfl); (case c3 => exact rfl); (case c4 => exact rfl); k_whole; intro g' L' h' FG' F' N' B' X' T'; (try dsimp only); (try k_fold))
  k_steps
  k_here
  rename Fr _ _ _ _ => lF'
  rename News _ _ _ _ => lN'
  refine ki_set (its := #[.ref ce, .int at0 ta]) lF' lN' (by decide) (by decide) (by rfl) (upd_of UF _) (fun h' F' N' => ?_)
  clear lF' lN'
  k_with "call builtin:len" => (k_here; refine kun_lenL (k := (ns.length : Int)) (News.isList (by k_asm) (hmem _)) (by rw [List.size_toArray, hlen]) (by omega) ?_)
  k_with "subscriptTail Name BinOp ref int" => (k_here; (with_unfolding_all refine' item_litK ?k1 ?k2 ?k3 ?k4 ?_ ?k6; (case k2 => omega); (case k3 => omega); (case k1 => exact News.isList (by k_asm) (hmem _)); (case k4 => exact hcell); (case k6 => with_unfolding_all rfl)))
  k_with "binaryOp FloorDiv int int" => (k_here; refine floordiv_int (by omega) ?_ (Or.inl (PyProof.noPylong_small (by omega))))
  k_with "binaryOp Mult int int" => (k_here; first | refine mul_int ?_ hmu | refine mul_int ?_ hm7)
  k_with "binaryOp Mod int int" => (k_here; refine mod_int' (by omega) ?_)
  k_steps
  exact ret _ _ _ _ _ (by k_asm) (by k_asm) hv0 hv1
end

noncomputable def nameB : List (List UInt8) := [[84, 111], [116, 79], [70, 114, 111, 109], [88, 45, 97], [83, 117, 98, 106, 101, 99, 116]]
noncomputable def valB : List (List UInt8) := [[], [32, 118], [120, 58, 32, 121], [32, 233]]
noncomputable def endB : List (List UInt8) := [[13, 10], [10]]
noncomputable def contB : List (List UInt8) := [[32, 109, 111, 114, 101], [9], [32, 9, 58, 122]]
/-- the rows that a field goes on by -/
inductive Conts : Nat → List UInt8 → Prop
  | nil : Conts 0 []
  | snoc {n : Nat} {cs c e : List UInt8} : Conts n cs → c ∈ contB → e ∈ endB → Conts (n + 1) (cs ++ c ++ e)
structure LawField (ln oc : List UInt8) : Prop where
  h : ∃ n v e k cs, n ∈ nameB ∧ v ∈ valB ∧ e ∈ endB ∧ k ≤ 2 ∧ Conts k cs ∧ ln = n.map lowB ∧ oc = (n ++ [58] ++ v ++ e) ++ cs
theorem menu_len {bs : List (List UInt8)} {c : List UInt8} (hc : c ∈ bs) (h : bs.all (fun c => decide (c.length ≤ 20)) = true) : c.length ≤ 20 := by
  have := List.all_eq_true.mp h c hc
  simpa using this
theorem conts_len : ∀ {n : Nat} {cs : List UInt8}, Conts n cs → cs.length ≤ 40 * n
  | _, _, .nil => Nat.le_refl _
  | _, _, .snoc r hc he => by
    have h1 := conts_len r
    have h2 := menu_len hc (by decide)
    have h3 := menu_len he (by decide)
    rw [List.length_append, List.length_append]
    omega
theorem toLower_lowB (c : UInt8) : Builtin.Bytes.toLower c = lowB c := by
  unfold Builtin.Bytes.toLower lowB Builtin.Bytes.isUpper
  simp only [Bool.and_eq_true, decide_eq_true_eq, UInt8.le_iff_toNat_le]
  rfl
section
variable {h₀ : Heap} {L tp t : Addr} {o : Obj} {G : Obj → List (Addr × Obj)}
theorem mem_G (HG : ∀ o, UpdF tp o (G o) G) : (tp, o) ∈ G o := by
  obtain ⟨pre, post, h1, h2, _, _⟩ := (HG o).split
  rw [h1]
  exact List.mem_append_right _ (.head _)
theorem G_addr {P : Addr → Prop} {o' : Obj} (HG : ∀ o, UpdF tp o (G o) G) (h : ∀ p ∈ G o, P p.1) : ∀ p ∈ G o', P p.1 := by
  obtain ⟨pre, post, h1, h2, _, _⟩ := (HG o).split
  rw [h2]
  intro p hp
  rcases List.mem_append.mp hp with hp | hp
  · exact h p (by rw [h1]; exact List.mem_append_left _ hp)
  · rcases List.mem_cons.mp hp with rfl | hp
    · exact h (tp, o) (by rw [h1]; exact List.mem_append_right _ (.head _))
    · exact h p (by rw [h1]; exact List.mem_append_right _ (.tail _ hp))
theorem tp_lt (HG : ∀ o, UpdF tp o (G o) G) (h : ∀ p ∈ G o, p.1 < t) : t ≠ tp := fun e => Nat.lt_irrefl _ (e ▸ h _ (mem_G HG) : @LT.lt Nat _ tp tp)
theorem tp_lt2 {P : Prop} (HG : ∀ o, UpdF tp o (G o) G) (h : P ∧ AllLt t (G o)) : t ≠ tp := tp_lt HG (ktn_ltOf h.2)
theorem tp_off (HG : ∀ o, UpdF tp o (G o) G) (h : ∀ p ∈ G o, p.1 ≠ t) : t ≠ tp := fun e => h _ (mem_G HG) e.symm
end
section
variable {prog : Program} {w : World} {A : Around} {E : Value → Shared → Prop} {s : Shared} {h₀ : Heap} {L : Addr} {m : Str → Option Value} {news : List (Addr × Obj)} {Q : Value → Shared → Prop}
theorem menu_tup {value slice : PySem.Expr} {b : Addr} {its : List Value} {bs : List (List UInt8)} {k : Int} {u : Tok} (ht : IsTup s.heap b its.toArray) (hb : BytesAre its bs) (h0 : 0 ≤ k) (h1 : k < (bs.length : Int)) (hz : bs.length ≤ 100)
    (hs : subscripted slice false (.ref b) (.int k u) = operate [.ref b, .int k u] (getItem (.ref b) (.int k u))) (h : ∀ c t, c ∈ bs → Q (.bytes c.toArray t) s) :
    wpAny (model prog w) A (subscriptTail value slice (.ref b) (.int k u)) Q E s := by
  obtain ⟨c, t, h2, h3⟩ := hb.get (i := k.toNat) (by rw [hb.length]; omega)
  refine item_tupleT (j := k.toNat) ht (by omega) (by omega) ?_ h3 (h c t (List.mem_of_getElem? h2)) hs
  unfold seqIndex?
  rw [hb.length]
  simp only [if_neg (show ¬ k < 0 by omega)]
  rw [if_pos (by simp; omega)]
end
section
variable {prog : Program} {w : World} {p : Program} {loose : List Str} {mean : ExcName → Option Value} {mg mb : Str → Option Value}
  {dp un : Nat} {gd : Option (List Code)} {cn : Str} {cs : Scope} {a : Addr} {ccd : Value} {cl : List (Str × Addr)} {outer : List Env} {A₀ : Around} {base h₀ : Heap} {L : Addr} {m : Str → Option Value} {news : List (Addr × Obj)} {s : Shared}
  {Q E : Value → Shared → Prop}
theorem menu_K {A : Around} {value slice : PySem.Expr} {b : Addr} {its : List Value} {bs : List (List UInt8)} {k : Int} {u : Tok} {n : Nat} (F : Fr h₀ L s.heap m) (X : (Mine.K0 w.params).In h₀) (hl : (Mine.K0 w.params).lookup b = some ⟨.type "tuple", none, .seq its.toArray n, #[]⟩) (hb : BytesAre its bs) (h0 : 0 ≤ k) (h1 : k < (bs.length : Int)) (hz : bs.length ≤ 100)
    (hs : subscripted slice false (.ref b) (.int k u) = operate [.ref b, .int k u] (getItem (.ref b) (.int k u))) (h : ∀ c t, c ∈ bs → Q (.bytes c.toArray t) s) :
    wpAny (model prog w) A (subscriptTail value slice (.ref b) (.int k u)) Q E s := menu_tup (tupK (X.keeps F.keep) hl) hb h0 h1 hz hs h
end
set_option hygiene false in
local macro_rules | `(tactic| tb_rel) => `(tactic| first | exact HG _ | exact mem_G HG | exact hce _ | (refine' UpdF.tail ?ha9 ?hb9; (case ha9 => tb_start); (case hb9 => tb_rel)) | (refine List.mem_cons_of_mem _ ?_; tb_rel))
set_option hygiene false in
local macro_rules | `(tactic| tb_start) => `(tactic| first | exact tp_lt HG (by assumption) | exact tp_lt2 HG (by assumption) | exact tp_off HG (by assumption))
section
variable {prog : Program} {w : World} {p : Program} {loose : List Str} {mean : ExcName → Option Value} {mg mb : Str → Option Value}
  {dp un : Nat} {gd : Option (List Code)} {cn : Str} {cs : Scope} {a : Addr} {ccd : Value} {cl : List (Str × Addr)} {outer : List Env} {A₀ : Around} {base h₀ : Heap} {L : Addr} {m : Str → Option Value} {news : List (Addr × Obj)} {s : Shared}
  {Q E : Value → Shared → Prop}
theorem law_field_ok {tp ce : Addr} {vs : List Value} {ns : List Int} {kc n : Nat} {at0 : Int} {ta : Tok} {G : Obj → List (Addr × Obj)} (B : Below A₀ base outer h₀) (F : Fr h₀ L s.heap m) (X : (Mine.K0 w.params).In h₀) (N : News h₀ L s.heap (G (tapeO ce at0 ta n))) (T : Top p loose mean mg mb h₀) (hk : cs.kind = .function)
   (hd : dp + 2 < recursionLimit) (HG : ∀ o, UpdF tp o (G o) G) (hce : ∀ o, (ce, listOf vs.toArray kc) ∈ G o) (hin : IntsAre vs ns) (hne9 : 0 < ns.length) (hnl9 : ns.length ≤ 64) (h0 : 0 ≤ at0) (h1 : at0 ≤ 900)
   (ret : ∀ T ln oc t1 t2 at1 ta1 h' tk', Fr h₀ L h' m → News h₀ L h' ((T, tupOf [.bytes ln.toArray t1, .bytes oc.toArray t2]) :: G (tapeO ce at1 ta1 n)) → (∀ p ∈ G (tapeO ce at0 ta n), p.1 < T) → at0 ≤ at1 → at1 ≤ at0 + 8 → LawField ln oc → Q (.ref T) {s with heap := h', toks := tk'}) :
   wpAny (model prog w) (ktrTop dp un gd cn cs L a ccd cl outer) (call (.ref 696) [.ref tp]) Q E s := by
  refine wpAny_call ?_
  k_with_none
  k_with "binaryOp Add bytes bytes" => (k_here; (with_reducible show wpAny _ _ (binaryOp Operator.Add (Value.bytes (List.toArray _) _) (Value.bytes (List.toArray _) _)) _ _ _); k_dflt (refine' bytes_add_K ?q530z rfl ?_; (case q530z => refine add_room ?_ ?_ <;> first | omega | exact Nat.le_trans (cut_len_le _ _ _) (by omega) | (simp only [List.length_append, List.length_cons, List.length_nil]; omega)); k_whole); intro _ _)
  k_with "call ref" => (k_here; (with_reducible show wpAny _ _ (call (Value.ref 689) _ _) _ _ _); k_dflt (refine' law_draw_ok ?mB ?mF ?mX ?mN ?mT ?mk ?md ?q228htp ?q891hc ?q215hi ?q198hne ?q668hnl ?q485h0 ?q519h1 ?q227hm0 ?q851hm1 ?q398U ?q609hmem ?_; kbo_bools; (case q228htp => tb_rel); (case q891hc => tb_rel); (case q215hi => exact hin); (case q198hne => exact hne9); (case q668hnl => exact hnl9); (case q485h0 => omega); (case q519h1 => omega); (case q227hm0 => omega); (case q851hm1 => omega); (case q398U => tb_rel); (case q609hmem => intro tk9; tb_rel); k_whole); intro vd tvd tkd hd' tkd' F' N' hv0' hv1'; kct_strs)
  k_with "subscriptTail" => (k_here; (with_reducible show wpAny _ _ (subscriptTail _ _ (Value.ref _) (Value.int _ _)) _ _ _); (first | (k_dflt (refine' menu_K ?q555F ?q624X ?q64l ?q975b ?q928h0 ?q868h1 ?q587hz ?q212hs ?_; (case q555F => k_asm); (case q624X => k_asm); (case q64l => k_is); (case q975b => repeat constructor); (case q928h0 => omega); (case q868h1 => simp only [List.length_cons, List.length_nil]; omega); (case q587hz => decide); (case q212hs => with_unfolding_all rfl); k_whole)) | (k_dflt (refine' menu_tup ?q268T ?q975b ?q928h0 ?q868h1 ?q587hz ?q212hs ?_; (case q268T => exact News.isTup (by k_asm) List.mem_cons_self); (case q975b => repeat constructor); (case q928h0 => omega); (case q868h1 => simp only [List.length_cons, List.length_nil]; omega); (case q587hz => decide); (case q212hs => with_unfolding_all rfl); k_whole))); intro cm' tm' hcm'; (have hcl' := menu_len hcm' (by decide)))
  k_with "getMethod bytes" => (k_here; (with_reducible refine meth_lower ?_))
  k_with "call builtin:bytes.lower" => (k_here; (refine lower_K (by omega) ?_); intro _ _)
  k_dflt (refine' code_def ?k1 ?k2 ?k3 ?k4 ?k5 ?kA ?kF ?kK ?k6 ?k7 ?k8 ?k9 ?kB ?_ ?c2 ?c3 ?c4 ?c5; (case kA => exact rfl); (case kF => exact rfl); (case kK => first | exact rfl | assumption); (case k1 => k_asm); (case k2 => k_asm); (case k3 => k_asm); (case k4 => k_asm); (case k5 => k_asm); (case k6 => (refine' Eq.trans ?ql9 ?qr9; (case ql9 => k_is); (case qr9 => ((conv in (fnA _) => whnf); (conv in (fnB _) => whnf); (conv in (fnS _) => whnf); exact rfl)))); (case k7 => k_is); (case k8 => first | ktr_room | omega); (case k9 => first | exact BindsTo.of_eq rfl | exact binds_K (by k_in) rfl (by k_is) rfl rfl rfl); (case c5 => decide); (case kB => exact locs rfl); (case c2 => exact rfl); (case c3 => exact rfl); (case c4 => exact rfl); k_whole; intro g' L' h' FG' F' N' B' X' T'; (try dsimp only); (try k_fold))
  k_with "pyIter ref" => (refine Stop.out ?_)
  k_steps
  refine Stop.go ?_
  rename Fr _ _ _ _ => lF'
  rename News _ _ _ _ => lN'
  rename IsRange _ _ _ _ _ _ _ _ => lR'
  rename _ ∈ [[13, 10], [10]] => hme
  rename _ ∈ [[], [32, 118], [120, 58, 32, 121], [32, 233]] => hmv
  rename _ ∈ [[84, 111], [116, 79], [70, 114, 111, 109], [88, 45, 97], [83, 117, 98, 106, 101, 99, 116]] => hmn
  rename Int => vr
  obtain ⟨nr, rfl⟩ : ∃ nr : Nat, vr = (nr : Int) := ⟨vr.toNat, by omega⟩
  refine range_acc (n := nr) (Str.ofString "octets") (fun i v nx => ∃ at1 ta1 cs to', nx = G (tapeO ce at1 ta1 n) ∧ at0 + 4 ≤ at1 ∧ at1 ≤ at0 + 4 + 2 * (i : Int) ∧ Conts i cs ∧ v = .bytes (_ ++ cs).toArray to') (by rfl) lR' (range_small _ (by omega)) (range_size _) lF' (newsT lN') (by decide) (by rfl) ⟨_, _, [], _, rfl, by omega, by omega, .nil, by rw [List.append_nil]⟩ (fun i v nx I it tI hh tk hi hI hoff hV F' N' => ?_) (fun u v nx hh tk hV F' N' => ?_)
  · clear lF' lN' lR'
    obtain ⟨at1, ta1, cs1, to1, rfl, hb1, hb2, hcs, rfl⟩ := hV
    have hcl1 := conts_len hcs
    (try k_unmd)
    (try k_fold)
    k_steps
    rename Fr _ _ _ _ => lF'
    rename News _ _ _ _ => lN'
    rename _ ∈ [[13, 10], [10]] => hme1
    rename _ ∈ [[32, 109, 111, 114, 101], [9], [32, 9, 58, 122]] => hmc1
    exact ⟨_, _, _, _, _, rfl, lF', newsT lN', G_addr (P := fun a => a ≠ I) HG hoff, rfl, ⟨_, _, cs1 ++ _ ++ _, _, rfl, by omega, by omega, .snoc hcs hmc1 hme1, by rw [← List.append_assoc, ← List.append_assoc]⟩, by intro z h1 h2; simp [h1, h2]⟩
  · clear lF' lN' lR'
    obtain ⟨at1, ta1, cs1, to1, rfl, hb1, hb2, hcs, rfl⟩ := hV
    have hcl1 := conts_len hcs
    (try k_unmd)
    (try k_fold)
    k_steps
    exact ret _ _ _ _ _ at1 ta1 _ _ (by k_asm) (by k_asm) (G_addr (P := fun a => @LT.lt Nat _ a _) HG (by assumption)) (by omega) (by omega) ⟨_, _, _, nr, cs1, hmn, hmv, hme, by omega, hcs, by rw [show Builtin.Bytes.toLower = lowB from funext toLower_lowB], rfl⟩
end

section plainlaw
/-- what is behind the fields: the empty row and the text -/
noncomputable def textA : List UInt8 := [84, 111, 58, 32, 109, 101, 13, 10, 13, 10, 120]
noncomputable def textC : List UInt8 := [110, 111, 32, 102, 105, 101, 108, 100, 13, 10, 13, 10, 84, 111, 58, 32, 120, 13, 10]
noncomputable def Ends (e t : List UInt8) : Prop := (e ∈ endB ∧ (t = textA ∨ t = [])) ∨ (e = [] ∧ (t = textC ∨ t = []))
theorem findAt_app {p c r : List UInt8} {k : UInt8} {j : Nat} (hc : k ∉ c) (hj : p.length + c.length + 1 ≤ j) : findAt (p ++ (c ++ k :: r)) k p.length j = some (p.length + c.length) := by
  unfold findAt
  have e : ((p ++ (c ++ k :: r)).take j).drop p.length = c ++ k :: (r.take (j - p.length - c.length - 1)) := by
    rw [List.take_append, List.drop_append, List.take_of_length_le (by omega), List.drop_of_length_le (by omega)]
    rw [Nat.sub_self, List.drop_zero, List.nil_append, List.take_append, List.take_of_length_le (by omega)]
    congr 1
    obtain ⟨m, hm⟩ : ∃ m, j - p.length - c.length = m + 1 := ⟨j - p.length - c.length - 1, by omega⟩
    rw [hm, List.take_succ_cons, Nat.add_sub_cancel]
  rw [e]
  have hf : (c ++ k :: (r.take (j - p.length - c.length - 1))).findIdx? (· == k) = some c.length := by
    rw [List.findIdx?_append]
    have h1 : c.findIdx? (· == k) = none := by
      rw [List.findIdx?_eq_none_iff]
      intro x hx
      rw [beq_eq_false_iff_ne]
      exact fun h => hc (h ▸ hx)
    rw [h1]
    simp [List.findIdx?_cons]
  rw [hf, Option.map_some, Nat.add_comm]
theorem findAt_no {p c r : List UInt8} {k : UInt8} {j : Nat} (hc : k ∉ c) (hj : j ≤ p.length + c.length) : findAt (p ++ (c ++ r)) k p.length j = none := by
  unfold findAt
  rw [Option.map_eq_none_iff, List.findIdx?_eq_none_iff]
  intro x hx
  rw [List.take_append, List.drop_append] at hx
  rw [beq_eq_false_iff_ne]
  rintro rfl
  rcases List.mem_append.mp hx with h | h
  · have : ((p.take j).drop p.length) = [] := List.drop_eq_nil_of_le (by simp; omega)
    rw [this] at h
    exact nomatch h
  · have h2 := List.mem_of_mem_drop h
    rw [List.take_append] at h2
    rcases List.mem_append.mp h2 with h3 | h3
    · exact hc (List.mem_of_mem_take h3)
    · have : (r.take (j - p.length - c.length)) = [] := by rw [show j - p.length - c.length = 0 by omega]; rfl
      rw [this] at h3
      exact nomatch h3
/-- a row: its octets, its end -/
theorem line_row {p c eol r : List UInt8} {stop : Int} (hc : (10 : UInt8) ∉ c) (hc2 : (13 : UInt8) ∉ c) (he : eol ∈ endB) (hs : ((p.length + c.length + eol.length : Nat) : Int) ≤ stop) :
    lineAt (p ++ (c ++ (eol ++ r))) (p.length : Int) stop = (((p.length + c.length : Nat) : Int), ((p.length + c.length + eol.length : Nat) : Int)) := by
  simp only [endB, List.mem_cons, List.not_mem_nil, or_false] at he
  unfold lineAt findZ
  rcases he with rfl | rfl
  all_goals simp only [List.length_cons, List.length_nil] at hs ⊢
  · have h1 : findAt (p ++ (c ++ ([13, 10] ++ r))) 10 p.length stop.toNat = some (p.length + (c ++ [13]).length) := by
      have := findAt_app (p := p) (c := c ++ [13]) (r := r) (k := 10) (j := stop.toNat) (by simp [hc]) (by simp only [List.length_append, List.length_cons, List.length_nil]; omega)
      simpa using this
    rw [show ((p.length : Int)).toNat = p.length by omega, h1]
    simp only [List.length_append, List.length_cons, List.length_nil]
    have h13 : (((p ++ (c ++ ([13, 10] ++ r))).getD (((p.length + (c.length + (0 + 1)) : Nat) : Int) - 1).toNat 0).toNat : Int) = 13 := by
      rw [show (((p.length + (c.length + (0 + 1)) : Nat) : Int) - 1).toNat = p.length + c.length by omega]
      simp [List.getD, List.getElem?_append_right]
    rw [if_neg (by omega), if_pos ⟨by omega, h13⟩]
    refine Prod.ext ?_ ?_
    · dsimp only; omega
    · dsimp only; omega
  · have h1 : findAt (p ++ (c ++ ([10] ++ r))) 10 p.length stop.toNat = some (p.length + c.length) := by
      have := findAt_app (p := p) (c := c) (r := r) (k := 10) (j := stop.toNat) hc (by omega)
      simpa using this
    rw [show ((p.length : Int)).toNat = p.length by omega, h1]
    dsimp only
    rw [if_neg (show ¬ (((p.length + c.length : Nat) : Int) < 0) by omega), if_neg ?_]
    · refine Prod.ext rfl ?_
      dsimp only
      omega
    · rintro ⟨h2, h3⟩
      have hpos : 0 < c.length := by omega
      have h4 : (p ++ (c ++ ([10] ++ r))).getD (p.length + c.length - 1) 0 = c.getD (c.length - 1) 0 := by
        simp only [List.getD]
        rw [List.getElem?_append_right (by omega), List.getElem?_append_left (by omega)]
        congr 2
        omega
      rw [show (((p.length + c.length : Nat) : Int) - 1).toNat = p.length + c.length - 1 by omega, h4] at h3
      have h5 : c.getD (c.length - 1) 0 = 13 := UInt8.toNat_inj.mp (by simpa using (by omega : (c.getD (c.length - 1) 0).toNat = 13))
      apply hc2
      rw [← h5]
      rw [show c.getD (c.length - 1) 0 = c[c.length - 1] by simp [List.getD, List.getElem?_eq_getElem (show c.length - 1 < c.length by omega)]]
      exact List.getElem_mem _
theorem cut_app (p n r : List UInt8) : cut (p ++ (n ++ r)) p.length (p.length + n.length) = n := by
  unfold cut
  rw [List.drop_append, List.drop_of_length_le (Nat.le_refl _), Nat.sub_self, List.drop_zero, List.nil_append, Nat.add_sub_cancel_left, List.take_append, List.take_of_length_le (Nat.le_refl _), Nat.sub_self, List.take_zero, List.append_nil]
theorem name_facts {n : List UInt8} (h : n ∈ nameB) : (58 : UInt8) ∉ n ∧ (10 : UInt8) ∉ n ∧ (13 : UInt8) ∉ n ∧ isName n = true ∧ n.length ≤ 20 ∧ 0 < n.length ∧ white (n.getD 0 0) = false ∧ n.map lowB ≠ ctB ∧ n.map lowB ≠ cteB := by
  simp only [nameB, List.mem_cons, List.not_mem_nil, or_false] at h
  rcases h with rfl | rfl | rfl | rfl | rfl <;> decide
theorem val_facts {n : List UInt8} (h : n ∈ valB) : (10 : UInt8) ∉ n ∧ (13 : UInt8) ∉ n ∧ n.length ≤ 20 := by
  simp only [valB, List.mem_cons, List.not_mem_nil, or_false] at h
  rcases h with rfl | rfl | rfl | rfl <;> decide
theorem end_facts {n : List UInt8} (h : n ∈ endB) : n.length ≤ 2 ∧ 0 < n.length ∧ white (n.getD 0 0) = false := by
  simp only [endB, List.mem_cons, List.not_mem_nil, or_false] at h
  rcases h with rfl | rfl <;> decide
theorem cont_facts {n : List UInt8} (h : n ∈ contB) : (10 : UInt8) ∉ n ∧ (13 : UInt8) ∉ n ∧ 0 < n.length ∧ white (n.getD 0 0) = true := by
  simp only [contB, List.mem_cons, List.not_mem_nil, or_false] at h
  rcases h with rfl | rfl | rfl <;> decide
theorem colon_row {p n r : List UInt8} {last : Int} (hn : n ∈ nameB) (hl : ((p.length + n.length + 1 : Nat) : Int) ≤ last) : colonIn (p ++ (n ++ 58 :: r)) (p.length : Int) last = ((p.length + n.length : Nat) : Int) := by
  obtain ⟨h1, _, _, h2, _⟩ := name_facts hn
  have hf : findAt (p ++ (n ++ 58 :: r)) 58 p.length last.toNat = some (p.length + n.length) := findAt_app h1 (by omega)
  unfold colonIn findZ
  rw [show ((p.length : Int)).toNat = p.length by omega, hf]
  dsimp only
  have hi : isName (cut (p ++ (n ++ 58 :: r)) p.length (((p.length + n.length : Nat) : Int)).toNat) = true := by
    rw [show (((p.length + n.length : Nat) : Int)).toNat = p.length + n.length by omega, cut_app]
    exact h2
  rw [if_pos ⟨by omega, hi⟩]
theorem colon_none {p c r : List UInt8} (hc : (58 : UInt8) ∉ c) : colonIn (p ++ (c ++ r)) (p.length : Int) ((p.length + c.length : Nat) : Int) = -1 := by
  have hf : findAt (p ++ (c ++ r)) 58 p.length (((p.length + c.length : Nat) : Int)).toNat = none := findAt_no hc (by omega)
  unfold colonIn findZ
  rw [show ((p.length : Int)).toNat = p.length by omega, hf]
  rfl
theorem at_next (p z : List UInt8) : (p ++ z).getD p.length 0 = z.getD 0 0 := by
  simp [List.getD, List.getElem?_append_right]
noncomputable def flatC (ps : List (List UInt8 × List UInt8)) : List UInt8 := (ps.map fun q => q.1 ++ q.2).flatten
theorem conts_list : ∀ {k : Nat} {cs : List UInt8}, Conts k cs → ∃ ps, (∀ q ∈ ps, q.1 ∈ contB ∧ q.2 ∈ endB) ∧ cs = flatC ps
  | _, _, .nil => ⟨[], (fun _ h => nomatch h), rfl⟩
  | _, _, .snoc (c := c) (e := e) r hc he => by
    obtain ⟨ps, h1, rfl⟩ := conts_list r
    refine ⟨ps ++ [(c, e)], ?_, ?_⟩
    · intro q hq
      rcases List.mem_append.mp hq with hq | hq
      · exact h1 q hq
      · rw [List.mem_singleton.mp hq]; exact ⟨hc, he⟩
    · unfold flatC
      simp
theorem fold_conts {stop : Int} : ∀ (ps : List (List UInt8 × List UInt8)) (p z : List UInt8) (last : Int) (k : Nat), (∀ q ∈ ps, q.1 ∈ contB ∧ q.2 ∈ endB) → ((p.length + (flatC ps).length : Nat) : Int) ≤ stop → (stop = ((p.length + (flatC ps).length : Nat) : Int) ∨ white (z.getD 0 0) = false) → stop - (p.length : Int) ≤ (k : Int) →
    (foldEnd (p ++ (flatC ps ++ z)) stop k last (p.length : Int)).2 = ((p.length + (flatC ps).length : Nat) : Int)
  | [], p, z, last, k, _, hs, hz, hk => by
    have e : flatC [] = [] := rfl
    rw [e] at hs hz ⊢
    rw [foldEnd_done]
    · simp
    · rintro ⟨h1, h2⟩
      rcases hz with hz | hz
      · simp at hz; omega
      · rw [List.nil_append, show ((p.length : Int)).toNat = p.length by omega, at_next] at h2
        rw [hz] at h2
        exact Bool.false_ne_true h2
  | q :: ps, p, z, last, k, hq, hs, hz, hk => by
    obtain ⟨hc, he⟩ := hq q (.head _)
    obtain ⟨c1, c2, c3, c4⟩ := cont_facts hc
    obtain ⟨e1, e2, _⟩ := end_facts he
    have ef : flatC (q :: ps) = q.1 ++ (q.2 ++ flatC ps) := by unfold flatC; simp
    rw [ef] at hs hz ⊢
    simp only [List.length_append] at hs hz ⊢
    have hx : p ++ (q.1 ++ (q.2 ++ flatC ps) ++ z) = p ++ (q.1 ++ (q.2 ++ (flatC ps ++ z))) := by simp
    have hl := line_row (p := p) (c := q.1) (eol := q.2) (r := flatC ps ++ z) (stop := stop) c1 c2 he (by omega)
    rw [hx]
    have hw : (p ++ (q.1 ++ (q.2 ++ (flatC ps ++ z)))).getD ((p.length : Int)).toNat 0 = q.1.getD 0 0 := by
      rw [show ((p.length : Int)).toNat = p.length by omega, at_next]
      simp only [List.getD]
      rw [List.getElem?_append_left c3]
    obtain ⟨j, hj, hf⟩ := foldEnd_more (xs := p ++ (q.1 ++ (q.2 ++ (flatC ps ++ z)))) (a := last) hk ⟨by omega, by rw [hw]; exact c4⟩ hl
    rw [hf]
    have ih := fold_conts (stop := stop) ps (p ++ (q.1 ++ q.2)) z ((p.length + q.1.length : Nat) : Int) j (fun r hr => hq r (.tail _ hr)) (by simp only [List.length_append]; omega) (by simp only [List.length_append]; rcases hz with h | h; exact .inl (by omega); exact .inr h) (by simp only [List.length_append]; omega)
    simp only [List.length_append, List.append_assoc] at ih
    rw [show p.length + q.1.length + q.2.length = p.length + (q.1.length + q.2.length) by omega, ih]
    omega
noncomputable abbrev flatF (fs : List (List UInt8 × List UInt8)) : List UInt8 := (fs.map (·.2)).flatten
/-- the rows of the fields, from place off on -/
inductive RowsAt : Nat → List (List UInt8 × List UInt8) → List Row → Prop
  | nil {off : Nat} : RowsAt off [] []
  | cons {off : Nat} {f : List UInt8 × List UInt8} {fs : List (List UInt8 × List UInt8)} {r : Row} {rs : List Row} (hb : r.b = (off : Int)) (he : r.e = ((off + f.2.length : Nat) : Int)) (hn : r.name.map lowB = f.1) (hl : r.name.length ≤ 20) (hp : r.name.map lowB ≠ ctB ∧ r.name.map lowB ≠ cteB)
      (h : RowsAt (off + f.2.length) fs rs) : RowsAt off (f :: fs) (r :: rs)
theorem field_len {f : List UInt8 × List UInt8} (h : LawField f.1 f.2) : 0 < f.2.length ∧ f.2.length ≤ 200 ∧ white (f.2.getD 0 0) = false := by
  obtain ⟨n, v, e, k, cs, hn, hv, he, hk, hcs, h1, h2⟩ := h.h
  obtain ⟨_, _, _, _, n5, n6, n7, _⟩ := name_facts hn
  obtain ⟨_, _, v3⟩ := val_facts hv
  obtain ⟨e1, _⟩ := end_facts he
  have hl := conts_len hcs
  rw [h2]
  refine ⟨?_, ?_, ?_⟩
  · simp only [List.length_append, List.length_cons, List.length_nil]; omega
  · simp only [List.length_append, List.length_cons, List.length_nil]; omega
  · rw [← n7]
    congr 1
    simp only [List.getD, List.append_assoc]
    rw [List.getElem?_append_left n6]
theorem next_ok {e t z : List UInt8} (fs : List (List UInt8 × List UInt8)) (hf : ∀ f ∈ fs, LawField f.1 f.2) (he : Ends e t) : (flatF fs).length + e.length + t.length = 0 ∨ white ((flatF fs ++ (e ++ (t ++ z))).getD 0 0) = false := by
  cases fs with
  | cons f fs =>
    right
    obtain ⟨h1, h2, h3⟩ := field_len (hf f (.head _))
    rw [← h3]
    congr 1
    unfold flatF
    simp only [List.getD, List.map_cons, List.flatten_cons, List.append_assoc]
    rw [List.getElem?_append_left h1]
  | nil =>
    rcases he with ⟨he, ht⟩ | ⟨rfl, rfl | rfl⟩
    · right
      obtain ⟨_, e2, e3⟩ := end_facts he
      rw [← e3]
      congr 1
      unfold flatF
      simp only [List.getD, List.map_nil, List.flatten_nil, List.nil_append]
      rw [List.getElem?_append_left e2]
    · right
      rfl
    · left
      rfl
theorem spans_fs {e t : List UInt8} (hE : Ends e t) : ∀ (fs : List (List UInt8 × List UInt8)) (p z : List UInt8) (n : Nat) (stop : Int), (∀ f ∈ fs, LawField f.1 f.2) → stop = ((p.length + (flatF fs).length + e.length + t.length : Nat) : Int) → stop - (p.length : Int) ≤ (n : Int) →
    ∃ rs, spans (p ++ (flatF fs ++ (e ++ (t ++ z)))) stop n (p.length : Int) = (rs, ((p.length + (flatF fs).length + e.length : Nat) : Int)) ∧ RowsAt p.length fs rs
  | [], p, z, n, stop, _, hs, hn => by
    have ef : flatF [] = [] := rfl
    rw [ef] at hs ⊢
    simp only [List.length_nil, Nat.add_zero, List.nil_append] at hs ⊢
    refine ⟨[], ?_, .nil⟩
    rcases hE with ⟨he, ht⟩ | ⟨rfl, rfl | rfl⟩
    · obtain ⟨e1, e2, _⟩ := end_facts he
      have hl := line_row (p := p) (c := []) (eol := e) (r := t ++ z) (stop := stop) (fun h => nomatch h) (fun h => nomatch h) he (by simp only [List.length_nil]; omega)
      simp only [List.nil_append, List.length_nil, Nat.add_zero] at hl
      rw [spans_empty hn (by omega) hl rfl]
    · have hl := line_row (p := p) (c := [110, 111, 32, 102, 105, 101, 108, 100]) (eol := [13, 10]) (r := [13, 10, 84, 111, 58, 32, 120, 13, 10] ++ z) (stop := stop) (by decide) (by decide) (by decide) (by simp [textC] at hs ⊢; omega)
      have hc := colon_none (p := p) (c := [110, 111, 32, 102, 105, 101, 108, 100]) (r := [13, 10] ++ ([13, 10, 84, 111, 58, 32, 120, 13, 10] ++ z)) (by decide)
      have hx : p ++ ([] ++ (textC ++ z)) = p ++ ([110, 111, 32, 102, 105, 101, 108, 100] ++ ([13, 10] ++ ([13, 10, 84, 111, 58, 32, 120, 13, 10] ++ z))) := by simp [textC]
      rw [hx]
      rw [spans_nofield hn (by simp [textC] at hs; omega) hl (by simp; omega) hc (by omega)]
      simp
    · rw [spans_done (by simp at hs; omega), hs]
      simp
  | f :: fs, p, z, n, stop, hf, hs, hn => by
    have hF := hf f (.head _)
    obtain ⟨nm, v, e1, k, cs, hnm, hv, he1, hk, hcs, h1, h2⟩ := hF.h
    obtain ⟨n1, n2, n3, n4, n5, n6, n7, n8, n9⟩ := name_facts hnm
    obtain ⟨v1, v2, v3⟩ := val_facts hv
    obtain ⟨e11, e12, _⟩ := end_facts he1
    obtain ⟨ps, hps, rfl⟩ := conts_list hcs
    have ef : flatF (f :: fs) = f.2 ++ flatF fs := rfl
    rw [ef] at hs ⊢
    have hlen : f.2.length = nm.length + 1 + v.length + e1.length + (flatC ps).length := by rw [h2]; simp; omega
    simp only [List.length_append] at hs ⊢
    have hx : p ++ (f.2 ++ flatF fs ++ (e ++ (t ++ z))) = p ++ ((nm ++ ([58] ++ v)) ++ (e1 ++ (flatC ps ++ (flatF fs ++ (e ++ (t ++ z)))))) := by rw [h2]; simp
    have hx2 : p ++ (f.2 ++ flatF fs ++ (e ++ (t ++ z))) = p ++ (nm ++ 58 :: (v ++ (e1 ++ (flatC ps ++ (flatF fs ++ (e ++ (t ++ z))))))) := by rw [h2]; simp
    have hx3 : p ++ (f.2 ++ flatF fs ++ (e ++ (t ++ z))) = (p ++ (nm ++ ([58] ++ v) ++ e1)) ++ (flatC ps ++ (flatF fs ++ (e ++ (t ++ z)))) := by rw [h2]; simp
    have hx4 : p ++ (f.2 ++ flatF fs ++ (e ++ (t ++ z))) = (p ++ f.2) ++ (flatF fs ++ (e ++ (t ++ z))) := by simp
    have hl := line_row (p := p) (c := nm ++ ([58] ++ v)) (eol := e1) (r := flatC ps ++ (flatF fs ++ (e ++ (t ++ z)))) (stop := stop) (by simp [n2, v1]) (by simp [n3, v2]) he1 (by simp only [List.length_append, List.length_cons, List.length_nil]; omega)
    rw [← hx] at hl
    simp only [List.length_append, List.length_cons, List.length_nil] at hl
    have hc := colon_row (p := p) (r := v ++ (e1 ++ (flatC ps ++ (flatF fs ++ (e ++ (t ++ z)))))) (last := ((p.length + (nm.length + (0 + 1 + v.length)) : Nat) : Int)) hnm (by omega)
    rw [← hx2] at hc
    have hnext := next_ok (z := z) fs (fun g hg => hf g (.tail _ hg)) hE
    have hfo := fold_conts (stop := stop) ps (p ++ (nm ++ ([58] ++ v) ++ e1)) (flatF fs ++ (e ++ (t ++ z))) ((p.length + (nm.length + (0 + 1 + v.length)) : Nat) : Int) (stop - ((p.length + (nm.length + (0 + 1 + v.length)) + e1.length : Nat) : Int)).toNat hps (by simp only [List.length_append, List.length_cons, List.length_nil]; omega) (by simp only [List.length_append, List.length_cons, List.length_nil]; rcases hnext with h | h; exact .inl (by omega); exact .inr h) (by simp only [List.length_append, List.length_cons, List.length_nil]; omega)
    rw [← hx3] at hfo
    simp only [List.length_append, List.length_cons, List.length_nil] at hfo
    rw [show p.length + (nm.length + (0 + 1 + v.length) + e1.length) = p.length + (nm.length + (0 + 1 + v.length)) + e1.length by omega] at hfo
    generalize hq : foldEnd (p ++ (f.2 ++ flatF fs ++ (e ++ (t ++ z)))) stop (stop - ((p.length + (nm.length + (0 + 1 + v.length)) + e1.length : Nat) : Int)).toNat ((p.length + (nm.length + (0 + 1 + v.length)) : Nat) : Int) ((p.length + (nm.length + (0 + 1 + v.length)) + e1.length : Nat) : Int) = q at *
    obtain ⟨q1, q2⟩ := q
    dsimp only at hfo
    obtain ⟨j, hj, hsp⟩ := spans_field (n := n) (here := (p.length : Int)) hn (by omega) hl (by omega) hc (by omega) (by rw [← hq])
    have hname : cut (p ++ (f.2 ++ flatF fs ++ (e ++ (t ++ z)))) ((p.length : Int)).toNat (((p.length + nm.length : Nat) : Int)).toNat = nm := by
      rw [hx2, show ((p.length : Int)).toNat = p.length by omega, show (((p.length + nm.length : Nat) : Int)).toNat = p.length + nm.length by omega]
      exact cut_app _ _ _
    rw [hname] at hsp
    rw [hsp]
    have hq2 : q2 = (((p ++ f.2).length : Nat) : Int) := by rw [hfo, List.length_append, hlen]; omega
    obtain ⟨rs, hr1, hr2⟩ := spans_fs hE fs (p ++ f.2) z j stop (fun g hg => hf g (.tail _ hg)) (by simp only [List.length_append]; omega) (by simp only [List.length_append]; omega)
    rw [hx4, hq2, hr1]
    refine ⟨_, Prod.ext rfl ?_, .cons rfl ?_ h1.symm n5 ⟨n8, n9⟩ ?_⟩
    · simp only [List.length_append]
      omega
    · simp only [List.length_append]
    · rw [List.length_append] at hr2
      exact hr2
theorem Ends.none {e t : List UInt8} : Ends e t → Ends e []
  | .inl ⟨h, _⟩ => .inl ⟨h, .inr rfl⟩
  | .inr ⟨h, _⟩ => .inr ⟨h, .inr rfl⟩
theorem RowsAt.plain : ∀ {off : Nat} {fs : List (List UInt8 × List UInt8)} {rs : List Row}, RowsAt off fs rs → plainRows rs
  | _, _, _, .nil => ⟨fun _ h => nomatch h⟩
  | _, _, _, .cons (r := r) hb he hn hl hp h => ⟨fun q hq => by
      rcases List.mem_cons.mp hq with rfl | hq
      · exact ⟨by omega, hp.1, hp.2⟩
      · exact h.plain.h q hq⟩
theorem law_spans {fs : List (List UInt8 × List UInt8)} {e t xs : List UInt8} (hf : ∀ f ∈ fs, LawField f.1 f.2) (hE : Ends e t) (hx : xs = flatF fs ++ e ++ t) :
    ∃ rs, spans xs (xs.length : Int) ((xs.length : Int) - 0).toNat 0 = (rs, (((flatF fs).length + e.length : Nat) : Int)) ∧ plainRows rs := by
  obtain ⟨rs, h1, h2⟩ := spans_fs hE fs [] [] ((xs.length : Int) - 0).toNat (xs.length : Int) hf (by rw [hx]; simp; omega) (by simp)
  refine ⟨rs, ?_, h2.plain⟩
  have e1 : [] ++ (flatF fs ++ (e ++ (t ++ []))) = xs := by rw [hx]; simp
  rw [e1] at h1
  simpa using h1
theorem law_spans2 {fs : List (List UInt8 × List UInt8)} {e t xs : List UInt8} (hf : ∀ f ∈ fs, LawField f.1 f.2) (hE : Ends e t) (hx : xs = flatF fs ++ e ++ t) :
    ∃ rs, spans xs (((flatF fs).length + e.length : Nat) : Int) ((((flatF fs).length + e.length : Nat) : Int) - 0).toNat 0 = (rs, (((flatF fs).length + e.length : Nat) : Int)) ∧ RowsAt 0 fs rs := by
  obtain ⟨rs, h1, h2⟩ := spans_fs hE.none fs [] t ((((flatF fs).length + e.length : Nat) : Int) - 0).toNat (((flatF fs).length + e.length : Nat) : Int) hf (by simp) (by simp; omega)
  refine ⟨rs, ?_, h2⟩
  have e1 : [] ++ (flatF fs ++ (e ++ ([] ++ t))) = xs := by rw [hx]; simp
  rw [e1] at h1
  simpa using h1
theorem rows_found {wl : List (List UInt8)} {neg : Bool} : ∀ {off : Nat} {fs : List (List UInt8 × List UInt8)} {rs : List Row}, RowsAt off fs rs → ∀ (p z : List UInt8), p.length = off → found (p ++ (flatF fs ++ z)) rs wl neg = (fs.filter fun f => (wl.any (· == f.1)) != neg).map (·.2)
  | _, _, _, .nil, _, _, _ => rfl
  | off, _, _, .cons (f := f) (fs := fs) (r := r) (rs := rs) hb he hn hl hp h, p, z, hpl => by
    have ef : flatF (f :: fs) = f.2 ++ flatF fs := rfl
    have ih := rows_found (wl := wl) (neg := neg) h (p ++ f.2) z (by rw [List.length_append, hpl])
    have hx : p ++ (flatF (f :: fs) ++ z) = (p ++ f.2) ++ (flatF fs ++ z) := by rw [ef]; simp
    have hc : cut (p ++ (flatF (f :: fs) ++ z)) r.b.toNat r.e.toNat = f.2 := by
      rw [hb, he, ef, List.append_assoc, ← hpl, show ((p.length : Int)).toNat = p.length by omega, show (((p.length + f.2.length : Nat) : Int)).toNat = p.length + f.2.length by omega, cut_app]
    unfold found at ih ⊢
    rw [List.filter_cons, List.filter_cons]
    have hpk : picks wl neg r = ((wl.any (· == f.1)) != neg) := by unfold picks; rw [hn]
    rw [hpk]
    split
    · rw [List.map_cons, List.map_cons, hc, hx, ih]
    · rw [hx, ih]
theorem rows_last : ∀ {off : Nat} {fs : List (List UInt8 × List UInt8)} {rs : List Row}, RowsAt off fs rs → emptyAt rs (off : Int) = ((off + (flatF fs).length : Nat) : Int)
  | _, _, _, .nil => rfl
  | off, _, _, .cons (f := f) (fs := fs) (r := r) (rs := rs) hb he hn hl hp h => by
    have ih := rows_last h
    have ef : flatF (f :: fs) = f.2 ++ flatF fs := rfl
    unfold emptyAt at ih ⊢
    rw [ef, List.length_append]
    cases rs with
    | nil =>
      cases h
      show r.e = _
      rw [he]
      simp [flatF]
    | cons r2 rs2 =>
      rw [List.getLast?_cons_cons]
      cases hg : (r2 :: rs2).getLast? with
      | none => simp at hg
      | some q =>
        rw [hg] at ih
        dsimp only at ih ⊢
        rw [ih]
        omega
theorem cut_all (a b c : List UInt8) : cut (a ++ (b ++ c)) a.length (a.length + b.length) = b := cut_app a b c
/-- what the law's data are cut into -/
structure Cuts (xs h e t : List UInt8) : Prop where
  head : cut xs 0 (h.length + e.length) = h ++ e
  text : cut xs (h.length + e.length) xs.length = t
  all : cut xs 0 xs.length = xs
  empty : cut xs h.length (h.length + e.length) = e
theorem cuts_of {xs h e t : List UInt8} (hx : xs = h ++ e ++ t) : Cuts xs h e t := by
  subst hx
  refine ⟨?_, ?_, ?_, ?_⟩
  · have := cut_app [] (h ++ e) t
    simpa using this
  · have := cut_app (h ++ e) t []
    simpa [Nat.add_assoc] using this
  · have := cut_app [] (h ++ e ++ t) []
    simpa using this
  · have := cut_app h e t
    simpa using this
theorem law_found {fs : List (List UInt8 × List UInt8)} {e t xs : List UInt8} {wl : List (List UInt8)} {neg : Bool} (hf : ∀ f ∈ fs, LawField f.1 f.2) (hE : Ends e t) (hx : xs = flatF fs ++ e ++ t) :
    (found xs (spans xs (((flatF fs).length + e.length : Nat) : Int) ((((flatF fs).length + e.length : Nat) : Int) - 0).toNat 0).1 wl neg).flatten ++ cut xs (emptyAt (spans xs (((flatF fs).length + e.length : Nat) : Int) ((((flatF fs).length + e.length : Nat) : Int) - 0).toNat 0).1 0).toNat (((flatF fs).length + e.length : Nat) : Int).toNat
      = flatF (fs.filter fun f => (wl.any (· == f.1)) != neg) ++ e := by
  obtain ⟨rs, h1, h2⟩ := law_spans2 hf hE hx
  rw [h1]
  have hl : emptyAt rs 0 = (((flatF fs).length : Nat) : Int) := by
    have := rows_last h2
    simpa using this
  have hr := rows_found (wl := wl) (neg := neg) h2 [] (e ++ t) rfl
  have e1 : [] ++ (flatF fs ++ (e ++ t)) = xs := by rw [hx]; simp
  rw [e1] at hr
  dsimp only
  rw [hl, hr, show ((((flatF fs).length : Nat) : Int)).toNat = (flatF fs).length by omega, show ((((flatF fs).length + e.length : Nat) : Int)).toNat = (flatF fs).length + e.length by omega, (cuts_of hx).empty]
end plainlaw

section
variable {prog : Program} {w : World} {A : Around} {E : Value → Shared → Prop} {s : Shared} {env : Env} {h₀ : Heap} {target : PySem.Expr} {body : List Stmt} {Q : Flow → Shared → Prop} {news : List (Addr × Obj)}
noncomputable def TurnEnd (h₀ : Heap) (L : Addr) (s : Shared) (I : Addr) (it : Obj) (zs : List Str) (m₀ : Str → Option Value) (news : List (Addr × Obj)) (s₂ : Shared) : Prop :=
  ∃ h' tk m', s₂ = { s with heap := h', toks := tk } ∧ Fr h₀ L h' m' ∧ News h₀ L h' ((I, it) :: news) ∧ ∀ z, z ∉ zs → m' z = m₀ z
noncomputable def TurnPost (h₀ : Heap) (L : Addr) (s : Shared) (I : Addr) (it : Obj) (zs : List Str) (m₀ : Str → Option Value) (news : List (Addr × Obj)) (Q : Flow → Shared → Prop) (f : Flow) (s₂ : Shared) : Prop :=
  match f with
  | .ret v => Q (.ret v) s₂
  | .brk => Q .next s₂
  | _ => TurnEnd h₀ L s I it zs m₀ news s₂
/-- a loop over the items of a tuple, each of which P tells of, whose turns bind no more than zs -/
theorem items_all {I ax : Addr} {lo : Obj} {cl : String} (zs : List Str) (m₀ : Str → Option Value) (P : Value → Prop) (hI : ∀ p ∈ news, p.1 ≠ I) (hk : (ax, lo) ∈ news)
    (turn : ∀ v m h tk it, P v → (∀ z, z ∉ zs → m z = m₀ z) → Fr h₀ env.locals h m → News h₀ env.locals h ((I, it) :: news) →
      wpAny (model prog w) A (assign target env v) (fun _ s₂ => wpAny (model prog w) A (execs body env) (TurnPost h₀ env.locals { s with heap := h, toks := tk } I it zs m₀ news Q) E s₂) E { s with heap := h, toks := tk })
    (done : ∀ m h tk, (∀ z, z ∉ zs → m z = m₀ z) → Fr h₀ env.locals h m → News h₀ env.locals h news → Q .next { s with heap := h, toks := tk }) :
    ∀ (vs : List Value) (m : Str → Option Value), (∀ v ∈ vs, P v) → (∀ z, z ∉ zs → m z = m₀ z) → ItemsRest prog w A E h₀ env target body Q s [(I, cl)] [(ax, lo)] (vs.map .val) m news
  | [], m, _, hm => ItemsRest.zero fun h tk F N => done m h tk hm F N
  | v :: r, m, hv, hm => ItemsRest.val fun h tk F => fun it _ N => by
    have fin : ∀ s₃, TurnEnd h₀ env.locals { s with heap := h, toks := tk } I it zs m₀ news s₃ → UnrEndW h₀ env.locals { s with heap := h, toks := tk } [(I, it)] (fun m' n' => SubL [(ax, lo)] n' ∧ ItemsRest prog w A E h₀ env target body Q s [(I, cl)] [(ax, lo)] (r.map .val) m' n') s₃ := by
      rintro s₃ ⟨h', tk', m', e, F2, N2, hz⟩
      exact ⟨h', tk', m', news, e, F2, N2, (fun p hp q hq => by rw [List.mem_singleton.mp hq]; exact hI p hp), ⟨hk, trivial⟩, items_all zs m₀ P hI hk turn done r m' (fun v h => hv v (.tail _ h)) hz⟩
    refine wpAny_mono (turn v m h tk it (hv v (.head _)) hm F N) (fun _ s₂ h2 => wpAny_mono h2 (fun f s₃ h3 => ?_) fun _ _ e => e) fun _ _ e => e
    cases f with
    | ret v => exact h3
    | brk => exact h3
    | next => exact fin _ h3
    | cont => exact fin _ h3
theorem m_split4 {m m₀ : Str → Option Value} (a b c d : Str) (h : ∀ z, z ∉ [a, b, c, d] → m z = m₀ z) : ∃ va vb vc vd, m = fun z => if z = a then va else if z = b then vb else if z = c then vc else if z = d then vd else m₀ z := by
  refine ⟨m a, m b, m c, m d, funext fun z => ?_⟩
  by_cases h1 : z = a
  · rw [if_pos h1, h1]
  · rw [if_neg h1]
    by_cases h2 : z = b
    · rw [if_pos h2, h2]
    · rw [if_neg h2]
      by_cases h3 : z = c
      · rw [if_pos h3, h3]
      · rw [if_neg h3]
        by_cases h4 : z = d
        · rw [if_pos h4, h4]
        · rw [if_neg h4]
          exact h z (by simp [h1, h2, h3, h4])
end
/-- a word, its names and what is due, whatever object holds the names -/
structure Due (xs : List UInt8) (b body e : Int) (news : List (Addr × Obj)) (wd : Str) (na : Addr) (due : List UInt8) : Prop where
  h : ∃ vn, NamesAt news na vn ∧ vn.length < 16 ∧ ∀ news' na', NamesAt news' na' vn → WordDue xs b body e news' wd na' due
theorem Due.mono {xs : List UInt8} {b body e : Int} {news news' : List (Addr × Obj)} {wd : Str} {na : Addr} {due : List UInt8} (h : ∀ p ∈ news, p ∈ news') (D : Due xs b body e news wd na due) : Due xs b body e news' wd na due := by
  obtain ⟨vn, h1, h2, h3⟩ := D.h
  exact ⟨vn, h1.mono h, h2, h3⟩
section
variable {prog : Program} {w : World} {p : Program} {loose : List Str} {mean : ExcName → Option Value} {mg mb : Str → Option Value}
  {dp un : Nat} {gd : Option (List Code)} {cn : Str} {cs : Scope} {a : Addr} {ccd : Value} {cl : List (Str × Addr)} {outer : List Env} {A₀ : Around} {base h₀ : Heap} {L : Addr} {m : Str → Option Value} {news : List (Addr × Obj)} {s : Shared}
  {Q E : Value → Shared → Prop}
theorem section4_g {xs : List UInt8} {b body e : Int} {pa na : Addr} {due : List UInt8} {wd : Str} {tw : Tok} {pp : Addr} (B : Below A₀ base outer h₀) (F : Fr h₀ L s.heap m) (X : (Mine.K0 w.params).In h₀) (N : News h₀ L s.heap news) (T : Top p loose mean mg mb h₀) (hk : cs.kind = .function)
   (hd : dp + 2 < recursionLimit) (hpa : (pa, tupOf []) ∈ news) (hD : Due xs b body e news wd na due)
   (ret : ∀ x d nt vn t1 t2 t3 t4 h' tk', Fr h₀ L h' m → News h₀ L h' ((nt, tupOf vn) :: (x, instObj 643 d) :: (d, secD w pa wd nt (.ref pp) tw t1 t2 t3 t4) :: news) → SecAt w ((nt, tupOf vn) :: (x, instObj 643 d) :: (d, secD w pa wd nt (.ref pp) tw t1 t2 t3 t4) :: news) x pa wd nt (.ref pp) →
      WordDue xs b body e ((nt, tupOf vn) :: (x, instObj 643 d) :: (d, secD w pa wd nt (.ref pp) tw t1 t2 t3 t4) :: news) wd nt due → Q (.ref x) {s with heap := h', toks := tk'}) :
   wpAny (model prog w) (ktrTop dp un gd cn cs L a ccd cl outer) (call (.ref 643) [.ref pa, .str wd tw, .ref na, .ref pp]) Q E s := by
  obtain ⟨vn, h1, h2, h3⟩ := hD.h
  rcases h1 with ⟨k, h1⟩ | h1
  · refine section4_l B F X N T hk hd h2 hpa h1 (fun x d nt t1 t2 t3 t4 h' tk' F' N' _ _ _ => ?_)
    exact ret x d nt vn t1 t2 t3 t4 h' tk' F' N' ⟨_, _, _, _, _, _, .tail _ (.head _), .tail _ (.tail _ (.head _))⟩ (h3 _ _ (.inr (.head _)))
  · refine section4_t B F X N T hk hd hpa h1 (fun x d t1 t2 t3 t4 h' tk' F' N' _ _ => ?_)
    refine ret x d na vn t1 t2 t3 t4 h' tk' F' ?_ ⟨_, _, _, _, _, _, .tail _ (.head _), .tail _ (.tail _ (.head _))⟩ (h3 _ _ (.inr (.head _)))
    intro p hp
    rcases List.mem_cons.mp hp with rfl | hp
    · exact N' _ (.tail _ (.tail _ h1))
    · exact N' _ hp
theorem section3_g {xs : List UInt8} {b body e : Int} {pa na : Addr} {due : List UInt8} {wd : Str} {tw : Tok} (B : Below A₀ base outer h₀) (F : Fr h₀ L s.heap m) (X : (Mine.K0 w.params).In h₀) (N : News h₀ L s.heap news) (T : Top p loose mean mg mb h₀) (hk : cs.kind = .function)
   (hd : dp + 2 < recursionLimit) (hpa : (pa, tupOf []) ∈ news) (hD : Due xs b body e news wd na due)
   (ret : ∀ x d nt vn t1 t2 t3 t4 h' tk', Fr h₀ L h' m → News h₀ L h' ((nt, tupOf vn) :: (x, instObj 643 d) :: (d, secD w pa wd nt .none tw t1 t2 t3 t4) :: news) → SecAt w ((nt, tupOf vn) :: (x, instObj 643 d) :: (d, secD w pa wd nt .none tw t1 t2 t3 t4) :: news) x pa wd nt .none →
      WordDue xs b body e ((nt, tupOf vn) :: (x, instObj 643 d) :: (d, secD w pa wd nt .none tw t1 t2 t3 t4) :: news) wd nt due → Q (.ref x) {s with heap := h', toks := tk'}) :
   wpAny (model prog w) (ktrTop dp un gd cn cs L a ccd cl outer) (call (.ref 643) [.ref pa, .str wd tw, .ref na]) Q E s := by
  obtain ⟨vn, h1, h2, h3⟩ := hD.h
  rcases h1 with ⟨k, h1⟩ | h1
  · refine section3_l B F X N T hk hd h2 hpa h1 (fun x d nt t1 t2 t3 t4 h' tk' F' N' _ _ _ => ?_)
    exact ret x d nt vn t1 t2 t3 t4 h' tk' F' N' ⟨_, _, _, _, _, _, .tail _ (.head _), .tail _ (.tail _ (.head _))⟩ (h3 _ _ (.inr (.head _)))
  · refine section3_t B F X N T hk hd hpa h1 (fun x d t1 t2 t3 t4 h' tk' F' N' _ _ => ?_)
    refine ret x d na vn t1 t2 t3 t4 h' tk' F' ?_ ⟨_, _, _, _, _, _, .tail _ (.head _), .tail _ (.tail _ (.head _))⟩ (h3 _ _ (.inr (.head _)))
    intro p hp
    rcases List.mem_cons.mp hp with rfl | hp
    · exact N' _ (.tail _ (.tail _ h1))
    · exact N' _ hp
theorem section1_g {pa : Addr} {vp : List Value} (B : Below A₀ base outer h₀) (F : Fr h₀ L s.heap m) (X : (Mine.K0 w.params).In h₀) (N : News h₀ L s.heap news) (T : Top p loose mean mg mb h₀) (hk : cs.kind = .function)
   (hd : dp + 2 < recursionLimit) (hpa : (pa, tupOf vp) ∈ news)
   (ret : ∀ x d na tw t1 t2 t3 t4 h' tk', Fr h₀ L h' m → News h₀ L h' ((x, instObj 643 d) :: (d, secD w pa (Str.ofString "") na .none tw t1 t2 t3 t4) :: news) → SecAt w ((x, instObj 643 d) :: (d, secD w pa (Str.ofString "") na .none tw t1 t2 t3 t4) :: news) x pa (Str.ofString "") na .none → Q (.ref x) {s with heap := h', toks := tk'}) :
   wpAny (model prog w) (ktrTop dp un gd cn cs L a ccd cl outer) (call (.ref 643) [.ref pa]) Q E s :=
  section1_d B F X N T hk hd hpa (fun x d na tw t1 t2 t3 t4 h' tk' F' N' _ _ => ret x d na tw t1 t2 t3 t4 h' tk' F' N' ⟨_, _, _, _, _, _, .head _, .tail _ (.head _)⟩)
theorem section2_g {pa : Addr} {vp : List Value} {wd : Str} {tw : Tok} (B : Below A₀ base outer h₀) (F : Fr h₀ L s.heap m) (X : (Mine.K0 w.params).In h₀) (N : News h₀ L s.heap news) (T : Top p loose mean mg mb h₀) (hk : cs.kind = .function)
   (hd : dp + 2 < recursionLimit) (hpa : (pa, tupOf vp) ∈ news)
   (ret : ∀ x d na t1 t2 t3 t4 h' tk', Fr h₀ L h' m → News h₀ L h' ((x, instObj 643 d) :: (d, secD w pa wd na .none tw t1 t2 t3 t4) :: news) → SecAt w ((x, instObj 643 d) :: (d, secD w pa wd na .none tw t1 t2 t3 t4) :: news) x pa wd na .none → Q (.ref x) {s with heap := h', toks := tk'}) :
   wpAny (model prog w) (ktrTop dp un gd cn cs L a ccd cl outer) (call (.ref 643) [.ref pa, .str wd tw]) Q E s :=
  section2_d B F X N T hk hd hpa (fun x d na t1 t2 t3 t4 h' tk' F' N' _ _ => ret x d na t1 t2 t3 t4 h' tk' F' N' ⟨_, _, _, _, _, _, .head _, .tail _ (.head _)⟩)
theorem section4_h {pa na : Addr} {vp vn : List Value} {wd : Str} {tw : Tok} {pp : Addr} (B : Below A₀ base outer h₀) (F : Fr h₀ L s.heap m) (X : (Mine.K0 w.params).In h₀) (N : News h₀ L s.heap news) (T : Top p loose mean mg mb h₀) (hk : cs.kind = .function)
   (hd : dp + 2 < recursionLimit) (hpa : (pa, tupOf vp) ∈ news) (hna : (na, tupOf vn) ∈ news)
   (ret : ∀ x d t1 t2 t3 t4 h' tk', Fr h₀ L h' m → News h₀ L h' ((x, instObj 643 d) :: (d, secD w pa wd na (.ref pp) tw t1 t2 t3 t4) :: news) → SecAt w ((x, instObj 643 d) :: (d, secD w pa wd na (.ref pp) tw t1 t2 t3 t4) :: news) x pa wd na (.ref pp) → Q (.ref x) {s with heap := h', toks := tk'}) :
   wpAny (model prog w) (ktrTop dp un gd cn cs L a ccd cl outer) (call (.ref 643) [.ref pa, .str wd tw, .ref na, .ref pp]) Q E s :=
  section4_t B F X N T hk hd hpa hna (fun x d t1 t2 t3 t4 h' tk' F' N' _ _ => ret x d t1 t2 t3 t4 h' tk' F' N' ⟨_, _, _, _, _, _, .head _, .tail _ (.head _)⟩)
end
theorem due_all {xs : List UInt8} {b body e : Int} {news : List (Addr × Obj)} {na : Addr} (h : (na, tupOf []) ∈ news) : Due xs b body e news (Str.ofString "") na (cut xs b.toNat e.toNat) := ⟨[], .inr h, by decide, fun _ _ _ => .all⟩
theorem due_header {xs : List UInt8} {b body e : Int} {news : List (Addr × Obj)} {na : Addr} (h : (na, tupOf []) ∈ news) : Due xs b body e news (Str.ofString "HEADER") na (cut xs b.toNat body.toNat) := ⟨[], .inr h, by decide, fun _ _ _ => .header⟩
theorem due_text {xs : List UInt8} {b body e : Int} {news : List (Addr × Obj)} {na : Addr} (h : (na, tupOf []) ∈ news) : Due xs b body e news (Str.ofString "TEXT") na (cut xs body.toNat e.toNat) := ⟨[], .inr h, by decide, fun _ _ _ => .text⟩

section
variable {prog : Program} {w : World} {A : Around} {E : Value → Shared → Prop} {s : Shared} {h₀ : Heap} {L : Addr} {m : Str → Option Value} {news : List (Addr × Obj)} {Q : Value → Shared → Prop}
/-- the cells that the law draws from -/
noncomputable def Draws (h₀ : Heap) (L : Addr) (m : Str → Option Value) (news : List (Addr × Obj)) (s : Shared) (v : Value) (s' : Shared) : Prop :=
  ∃ ce vs ns kc h' tk', v = .ref ce ∧ s' = { s with heap := h', toks := tk' } ∧ Fr h₀ L h' m ∧ News h₀ L h' ((ce, listOf vs.toArray kc) :: news) ∧ IntsAre vs ns ∧ 0 < ns.length ∧ ns.length ≤ 64 ∧ (∀ p ∈ news, @LT.lt Nat _ p.1 ce)
theorem draws_join {t : Sem Value} (_F : Fr h₀ L s.heap m) (_N : News h₀ L s.heap news) (h1 : wpAny (model prog w) A t (Draws h₀ L m news s) E s) (h2 : ∀ v s', Draws h₀ L m news s v s' → Q v s') : wpAny (model prog w) A t Q E s :=
  wpAny_mono h1 h2 fun _ _ e => e
end
theorem law_pack {h₀ h : Heap} {L tp ce c2 c1 : Addr} {o2 o1 lo : Obj} {ta : Tok} (N : News h₀ L h [(tp, tapeO ce 0 ta 0), (ce, lo), (c2, o2), (c1, o1)]) (d2 : o2.data = .cell none) (d1 : o1.data = .cell (some (.ref tp))) (hl : @LT.lt Nat _ ce tp ∧ @LT.lt Nat _ c2 tp ∧ @LT.lt Nat _ c1 tp) :
    ∃ tp o2 o1 ta, News h₀ L h ((tp, tapeO ce 0 ta 0) :: (ce, lo) :: (c2, o2) :: (c1, o1) :: []) ∧ o2.data = .cell none ∧ o1.data = .cell (some (.ref tp)) ∧ @LT.lt Nat _ ce tp ∧ @LT.lt Nat _ c2 tp ∧ @LT.lt Nat _ c1 tp ∧ (∀ p ∈ [(ce, lo), (c2, o2), (c1, o1)], p.1 ≠ tp) := by
  refine ⟨tp, o2, o1, ta, N, d2, d1, hl.1, hl.2.1, hl.2.2, ?_⟩
  intro p hp
  simp only [List.mem_cons, List.not_mem_nil, or_false] at hp
  rcases hp with rfl | rfl | rfl
  · exact Nat.ne_of_lt hl.1
  · exact Nat.ne_of_lt hl.2.1
  · exact Nat.ne_of_lt hl.2.2
theorem upd_app {d : Addr} {o : Obj} {g : Obj → List (Addr × Obj)} {l : List (Addr × Obj)} (h : UpdF d o l g) : ∀ {led : List (Addr × Obj)}, (∀ p ∈ led, p.1 ≠ d) → UpdF d o (led ++ l) (fun o' => led ++ g o')
  | [], _ => h
  | _ :: _, hl => .tail (hl _ (.head _)) (upd_app h fun p hp => hl p (.tail _ hp))
noncomputable def FieldsAre (led : List (Addr × Obj)) (ys : List Value) (fs : List (List UInt8 × List UInt8)) : Prop :=
  Two (fun v f => ∃ T t1 t2, v = .ref T ∧ (T, tupOf [.bytes f.1.toArray t1, .bytes f.2.toArray t2]) ∈ led) ys fs
theorem FieldsAre.mono {led led' : List (Addr × Obj)} (h : ∀ p ∈ led, p ∈ led') {ys : List Value} {fs : List (List UInt8 × List UInt8)} (x : FieldsAre led ys fs) : FieldsAre led' ys fs :=
  Two.imp (fun _ _ ⟨T, t1, t2, a, b⟩ => ⟨T, t1, t2, a, h _ b⟩) x
theorem off_turn {I C D tp : Addr} {o o' : Obj} {led rest : List (Addr × Obj)} (h : LCg.Off3 I C D (led ++ (tp, o) :: rest)) : LCg.Off3 I C D (led ++ (tp, o') :: rest) := LCg.Off3.of fun p hp => by
  have hm := h.mem
  rcases List.mem_append.mp hp with hp | hp
  · exact hm p (List.mem_append_left _ hp)
  · rcases List.mem_cons.mp hp with rfl | hp
    · exact hm (tp, o) (List.mem_append_right _ (.head _))
    · exact hm p (List.mem_append_right _ (.tail _ hp))
theorem fields_end {h₀ h : Heap} {L : Addr} {m : Str → Option Value} {s : Shared} {T I C D tp : Addr} {tup oI oC oD o o' : Obj} {led rest : List (Addr × Obj)} {tk : Nat} {y : Value} {J : Value → List (Addr × Obj) → Prop}
    (F : Fr h₀ L h m) (N : News h₀ L h ((T, tup) :: (I, oI) :: (C, oC) :: (D, oD) :: (led ++ (tp, o') :: rest))) (off : LCg.Off3 I C D (led ++ (tp, o) :: rest)) (lT : ∀ p ∈ (I, oI) :: (C, oC) :: (D, oD) :: (led ++ (tp, o) :: rest), p.1 < T)
    (r : J y ((T, tup) :: (led ++ (tp, o') :: rest))) : LCg.CompEnd h₀ L m s I oI C oC D oD (fun _ => True) J y { s with heap := h, toks := tk } := by
  have lT : ∀ p ∈ (I, oI) :: (C, oC) :: (D, oD) :: (led ++ (tp, o) :: rest), @LT.lt Nat _ p.1 T := lT
  refine LCg.CompEnd.intro F N ((T, tup) :: (led ++ (tp, o') :: rest)) ?_ ?_ trivial r
  · intro p hp
    simp only [List.mem_cons, List.mem_append] at hp ⊢
    rcases hp with h | h | h | h | h
    · simp [h]
    · simp [h]
    · simp [h]
    · simp [h]
    · right; right; right; right; exact h
  · have h2 := (off_turn (o' := o') off).mem
    refine LCg.Off3.of fun p hp => ?_
    rcases List.mem_cons.mp hp with rfl | hp
    · exact ⟨Nat.ne_of_gt (lT _ (.head _)), Nat.ne_of_gt (lT _ (.tail _ (.head _))), Nat.ne_of_gt (lT _ (.tail _ (.tail _ (.head _))))⟩
    · exact h2 p hp
theorem want_end {h₀ h : Heap} {L : Addr} {m : Str → Option Value} {s : Shared} {I C D tp : Addr} {oI oC oD o o' : Obj} {x : Addr × Obj} {rest : List (Addr × Obj)} {tk : Nat} {y : Value} {J : Value → List (Addr × Obj) → Prop}
    (F : Fr h₀ L h m) (N : News h₀ L h (x :: (I, oI) :: (C, oC) :: (D, oD) :: (tp, o') :: rest)) (off : LCg.Off3 I C D ((tp, o) :: rest)) (r : J y ((tp, o') :: rest)) : LCg.CompEnd h₀ L m s I oI C oC D oD (fun _ => True) J y { s with heap := h, toks := tk } :=
  LCg.CompEnd.intro F N ((tp, o') :: rest) (fun p hp => .tail _ hp) (off_turn (led := []) off) trivial r
theorem base_pack {h₀ h : Heap} {L tp : Addr} {tO oo : Obj} {x y c : Addr × Obj} {base : List (Addr × Obj)} (N : News h₀ L h (x :: y :: (tp, tO) :: c :: base)) (hb : ∀ p ∈ (c.1, oo) :: base, p.1 ≠ tp) (h1 : x.1 ≠ tp) (h2 : y.1 ≠ tp) :
    ∃ b2, News h₀ L h ((tp, tO) :: b2) ∧ x ∈ b2 ∧ y ∈ b2 ∧ c ∈ b2 ∧ (∀ p ∈ base, p ∈ b2) ∧ (∀ p ∈ b2, p.1 ≠ tp) := by
  refine ⟨x :: y :: c :: base, ?_, .head _, .tail _ (.head _), .tail _ (.tail _ (.head _)), fun p hp => .tail _ (.tail _ (.tail _ hp)), ?_⟩
  · intro p hp
    apply N
    simp only [List.mem_cons] at hp ⊢
    rcases hp with h | h | h | h | h <;> simp [h]
  · intro p hp
    rcases List.mem_cons.mp hp with rfl | hp
    · exact h1
    · rcases List.mem_cons.mp hp with rfl | hp
      · exact h2
      · rcases List.mem_cons.mp hp with rfl | hp
        · exact hb (p.1, oo) (.head _)
        · exact hb p (.tail _ hp)
theorem filt_take {fs : List (List UInt8 × List UInt8)} {i : Nat} {f : List UInt8 × List UInt8} {p : List UInt8 × List UInt8 → Bool} (hf : fs[i]? = some f) : ((fs.take (i + 1)).filter p).map (·.2) = ((fs.take i).filter p).map (·.2) ++ (if p f = true then [f.2] else []) := by
  rw [List.take_add_one, hf, List.filter_append, List.map_append]
  congr 1
  by_cases h : p f = true <;> simp [h]
theorem filt_len (p : List UInt8 × List UInt8 → Bool) : ∀ fs : List (List UInt8 × List UInt8), ((fs.filter p).map (·.2)).flatten.length ≤ (fs.map (·.2)).flatten.length
  | [] => Nat.le_refl _
  | f :: fs => by
    have h := filt_len p fs
    rw [List.map_cons, List.flatten_cons, List.length_append]
    by_cases hp : p f = true
    · rw [List.filter_cons_of_pos hp, List.map_cons, List.flatten_cons, List.length_append]
      omega
    · rw [List.filter_cons_of_neg hp]
      omega
theorem wantB_len {n : List UInt8} (h : n ∈ wantB) : n.length < 1048576 := by
  simp only [wantB, List.mem_cons, List.not_mem_nil, or_false] at h
  rcases h with rfl | rfl | rfl | rfl | rfl <;> decide
theorem loop_pack {h₀ h : Heap} {L : Addr} {o t5 t4 t3 z3 t2 z2 t1 z1 oc tp : Addr × Obj} {b2 : List (Addr × Obj)} (N : News h₀ L h (o :: t5 :: t4 :: t3 :: z3 :: t2 :: z2 :: t1 :: z1 :: oc :: tp :: b2)) :
    ∃ b3, News h₀ L h b3 ∧ o ∈ b3 ∧ t5 ∈ b3 ∧ t4 ∈ b3 ∧ t3 ∈ b3 ∧ z3 ∈ b3 ∧ t2 ∈ b3 ∧ z2 ∈ b3 ∧ t1 ∈ b3 ∧ z1 ∈ b3 ∧ ∀ p ∈ b2, p ∈ b3 :=
  ⟨_, N, by simp, by simp, by simp, by simp, by simp, by simp, by simp, by simp, by simp, fun p hp => by simp [hp]⟩
/-- what a turn of the last loop gets -/
noncomputable def TurnOf (xs : List UInt8) (b body e : Int) (b3 : List (Addr × Obj)) (v : Value) : Prop :=
  ∃ T wd tw na due td, v = .ref T ∧ (T, tupOf [.str wd tw, .ref na, .bytes (List.toArray due) td]) ∈ b3 ∧ Due xs b body e b3 wd na due
theorem due_len {xs : List UInt8} {b body e : Int} {news : List (Addr × Obj)} {wd : Str} {na : Addr} {due : List UInt8} (h0 : 0 ≤ b) (h1 : b ≤ body) (h2 : body ≤ e) (h4 : e ≤ (xs.length : Int)) (h : Due xs b body e news wd na due) : due.length ≤ 2 * xs.length := by
  obtain ⟨vn, h5, _, h6⟩ := h.h
  exact (h6 _ _ h5).len h0 h1 h2 h4
theorem k0_in {K : Params → Frag} {w : World} {h : Heap} (X : (K w.params).In h) (e : K = Mine.K0) : (Mine.K0 w.params).In h := e ▸ X
theorem fr_gen {h₀ h : Heap} {L : Addr} {m : Str → Option Value} (F : Fr h₀ L h m) : ∃ m9, Fr h₀ L h m9 ∧ m9 = m := ⟨m, F, rfl⟩
theorem m_short1 {m r : Str → Option Value} {a : Str} {va : Value} (ha : m a = some va) (hr : m = r) : m = fun z => if z = a then some va else r z := by
  funext z
  by_cases h1 : z = a
  · rw [if_pos h1, h1, ha]
  · rw [if_neg h1, hr]
theorem m_short4 {m : Str → Option Value} {a b c d : Str} {va vb vc vd : Value} (ha : m a = some va) (hb : m b = some vb) (hc : m c = some vc) (hd : m d = some vd) :
    m = fun z => if z = a then some va else if z = b then some vb else if z = c then some vc else if z = d then some vd else m z :=
  m_short1 ha (m_short1 hb (m_short1 hc (m_short1 hd rfl)))
theorem m_short5 {m : Str → Option Value} {a b c d e : Str} {va vb vc vd ve : Value} (ha : m a = some va) (hb : m b = some vb) (hc : m c = some vc) (hd : m d = some vd) (he : m e = some ve) :
    m = fun z => if z = a then some va else if z = b then some vb else if z = c then some vc else if z = d then some vd else if z = e then some ve else m z :=
  m_short1 ha (m_short1 hb (m_short1 hc (m_short1 hd (m_short1 he rfl))))
theorem fields_flat {fs : List (List UInt8 × List UInt8)} (h : ∀ f ∈ fs, LawField f.1 f.2) : (fs.map (·.2)).flatten.length ≤ 200 * fs.length := by
  induction fs with
  | nil => exact Nat.le_refl _
  | cons f fs ih =>
    have h1 := (field_len (h f (.head _))).2.1
    have h2 := ih fun g hg => h g (.tail _ hg)
    rw [List.map_cons, List.flatten_cons, List.length_append, List.length_cons]
    omega
structure WayE (way : Int) (e : List UInt8) : Prop where
  h : (way < 2 ∧ e ∈ endB) ∨ (¬ way < 2 ∧ e = [])
noncomputable def EmptyPost (h₀ : Heap) (L : Addr) (m : Str → Option Value) (W : Int → Tok → List (Addr × Obj)) (at1 way : Int) (s : Shared) (v : Value) (s' : Shared) : Prop :=
  ∃ e te at2 ta2 h' tk', v = .bytes (List.toArray e) te ∧ s' = { s with heap := h', toks := tk' } ∧ Fr h₀ L h' m ∧ News h₀ L h' (W at2 ta2) ∧ at1 ≤ at2 ∧ at2 ≤ at1 + 1 ∧ WayE way e
theorem empty_a {h₀ : Heap} {L : Addr} {m : Str → Option Value} {W : Int → Tok → List (Addr × Obj)} {at1 way at2 : Int} {s : Shared} {e : List UInt8} {te ta2 : Tok} {h' : Heap} {tk' : Nat} {x : Addr × Obj} (F : Fr h₀ L h' m) (N : News h₀ L h' (x :: W at2 ta2)) (h1 : at1 ≤ at2) (h2 : at2 ≤ at1 + 1) (h3 : (way < 2 ∧ e ∈ endB) ∨ (¬ way < 2 ∧ e = [])) :
    EmptyPost h₀ L m W at1 way s (.bytes (List.toArray e) te) { s with heap := h', toks := tk' } := ⟨e, te, at2, ta2, h', tk', rfl, rfl, F, newsT N, h1, h2, ⟨h3⟩⟩
theorem empty_join {prog : Program} {w : World} {A : Around} {E : Value → Shared → Prop} {s : Shared} {h₀ : Heap} {L : Addr} {m : Str → Option Value} {Q : Value → Shared → Prop} {t : Sem Value} {W : Int → Tok → List (Addr × Obj)} {at1 : Int} {ta : Tok} (way : Int) {x : Addr × Obj} (_F : Fr h₀ L s.heap m) (_N : News h₀ L s.heap (x :: W at1 ta))
    (h1 : wpAny (model prog w) A t (EmptyPost h₀ L m W at1 way s) E s) (h2 : ∀ v s', EmptyPost h₀ L m W at1 way s v s' → Q v s') : wpAny (model prog w) A t Q E s := wpAny_mono h1 h2 fun _ _ e => e
theorem empty_len {way : Int} {e : List UInt8} (h : WayE way e) : e.length ≤ 2 := by
  rcases h.h with ⟨_, h⟩ | ⟨_, rfl⟩
  · exact (end_facts h).1
  · exact Nat.zero_le _
theorem text_way {prog : Program} {w : World} {A : Around} {E : Value → Shared → Prop} {s : Shared} {Q : Value → Shared → Prop} {value slice : PySem.Expr} {b : Addr} {its : List Value} {way : Int} {u : Tok} {e : List UInt8} (hw0 : 0 ≤ way) (hw4 : way < 4) (hW : WayE way e) (ht : IsTup s.heap b its.toArray) (hb : BytesAre its [textA, [], textC, []])
    (hs : subscripted slice false (.ref b) (.int way u) = operate [.ref b, .int way u] (getItem (.ref b) (.int way u))) (h : ∀ c t, Ends e c → c.length ≤ 20 → Q (.bytes c.toArray t) s) :
    wpAny (model prog w) A (subscriptTail value slice (.ref b) (.int way u)) Q E s := by
  have hE := hW.h
  obtain ⟨c, t, h2, h3⟩ := hb.get (i := way.toNat) (by rw [hb.length]; simp only [List.length_cons, List.length_nil]; omega)
  have hc : Ends e c ∧ c.length ≤ 20 := by
    obtain ⟨n, rfl⟩ : ∃ n : Nat, way = (n : Int) := ⟨way.toNat, by omega⟩
    have hn : n = 0 ∨ n = 1 ∨ n = 2 ∨ n = 3 := by omega
    rcases hn with rfl | rfl | rfl | rfl
    · cases h2
      rcases hE with ⟨_, he⟩ | ⟨hh, _⟩
      · exact ⟨.inl ⟨he, .inl rfl⟩, by decide⟩
      · exact absurd (by decide) hh
    · cases h2
      rcases hE with ⟨_, he⟩ | ⟨hh, _⟩
      · exact ⟨.inl ⟨he, .inr rfl⟩, by decide⟩
      · exact absurd (by decide) hh
    · cases h2
      rcases hE with ⟨hh, _⟩ | ⟨_, he⟩
      · exact absurd hh (by decide)
      · exact ⟨.inr ⟨he, .inl rfl⟩, by decide⟩
    · cases h2
      rcases hE with ⟨hh, _⟩ | ⟨_, he⟩
      · exact absurd hh (by decide)
      · exact ⟨.inr ⟨he, .inr rfl⟩, by decide⟩
  refine item_tupleT (j := way.toNat) ht (by omega) (by omega) ?_ h3 (h c t hc.1 hc.2) hs
  unfold seqIndex?
  rw [hb.length]
  simp only [if_neg (show ¬ way < 0 by omega)]
  rw [if_pos (by simp; omega)]
theorem law_base {h₀ h : Heap} {L tp ce c2 c1 a' : Addr} {la tO lo o2 o1 : Obj} {led ledq : List (Addr × Obj)} {v1 : Value} (N : News h₀ L h (ledq ++ (a', la) :: (led ++ (tp, tO) :: (ce, lo) :: (c2, o2) :: (c1, o1) :: []))) (hq : ∀ q ∈ ledq, @LT.lt Nat _ tp q.1) (hl : ∀ p ∈ led, @LT.lt Nat _ tp p.1)
    (ha : @LT.lt Nat _ tp a') (hce : @LT.lt Nat _ ce tp) (hc2 : @LT.lt Nat _ c2 tp) (hc1 : @LT.lt Nat _ c1 tp) (d1 : o1.data = .cell (some v1)) (d2 : o2.data = .cell none) (dl : lo.data ≠ .cell none) :
    ∃ base, News h₀ L h ((tp, tO) :: (c2, o2) :: base) ∧ (∀ p ∈ ledq, p ∈ base) ∧ (∀ p ∈ led, p ∈ base) ∧ (ce, lo) ∈ base ∧ (c1, o1) ∈ base ∧ (a', la) ∈ base ∧ (∀ p ∈ (c2, o2) :: base, p.1 ≠ tp) ∧ (∀ p ∈ base, p.1 ≠ c2) ∧ tp ≠ c2 := by
  have same : ∀ p, News h₀ L h [p] → News h₀ L h [(c2, o2)] → p.1 = c2 → p.2 = o2 := fun p n1 n2 e => by
    have e1 := (n1 _ (.head _)).1
    have e2 := (n2 _ (.head _)).1
    rw [e, e2] at e1
    exact (Option.some.inj e1).symm
  have sub : ∀ q ∈ ledq ++ (a', la) :: (led ++ (tp, tO) :: (ce, lo) :: (c2, o2) :: (c1, o1) :: []), News h₀ L h [q] := fun q hq p hp => by rw [List.mem_singleton.mp hp]; exact N q hq
  have m2 := sub (c2, o2) (by simp)
  refine ⟨ledq ++ (a', la) :: (led ++ (ce, lo) :: (c1, o1) :: []), ?_, ?_, ?_, by simp, by simp, by simp, ?_, ?_, ?_⟩
  · intro p hp
    apply N
    simp only [List.mem_cons, List.mem_append, List.not_mem_nil, or_false] at hp ⊢
    rcases hp with hp | hp | hp | hp | hp | hp | hp <;> simp [hp]
  · intro p hp
    exact List.mem_append_left _ hp
  · intro p hp
    exact List.mem_append_right _ (.tail _ (List.mem_append_left _ hp))
  · intro p hp
    simp only [List.mem_cons, List.mem_append, List.not_mem_nil, or_false] at hp
    rcases hp with rfl | hp | rfl | hp | rfl | rfl
    · exact Nat.ne_of_lt hc2
    · exact Nat.ne_of_gt (hq p hp)
    · exact Nat.ne_of_gt ha
    · exact Nat.ne_of_gt (hl p hp)
    · exact Nat.ne_of_lt hce
    · exact Nat.ne_of_lt hc1
  · intro p hp
    simp only [List.mem_cons, List.mem_append, List.not_mem_nil, or_false] at hp
    rcases hp with hp | rfl | hp | rfl | rfl
    · exact Nat.ne_of_gt (Nat.lt_trans hc2 (hq p hp))
    · exact Nat.ne_of_gt (Nat.lt_trans hc2 ha)
    · exact Nat.ne_of_gt (Nat.lt_trans hc2 (hl p hp))
    · intro e
      have e2 : lo = o2 := same (ce, lo) (sub _ (by simp)) m2 e
      exact dl (e2 ▸ d2)
    · intro e
      have e2 : o1 = o2 := same (c1, o1) (sub _ (by simp)) m2 e
      rw [e2, d2] at d1
      cases d1
  · exact Nat.ne_of_gt hc2
theorem plain_of {xs : List UInt8} {rs1 : List Row} {b : Int} (h : spans xs (xs.length : Int) ((xs.length : Int) - 0).toNat 0 = (rs1, b)) (hp : plainRows rs1) : ∀ rs body, spans xs (xs.length : Int) ((xs.length : Int) - 0).toNat 0 = (rs, body) → plainRows rs := by
  intro rs body h2
  rw [h] at h2
  cases h2
  exact hp
theorem ne_same {prog : Program} {w : World} {A : Around} {E : Value → Shared → Prop} {s : Shared} {a b : List UInt8} {t u : Tok} {Q : Value → Shared → Prop} (h : a = b) (hq : Q (.bool false) s) : wpAny (model prog w) A (compareOp .NotEq (.bytes a.toArray t) (.bytes b.toArray u)) Q E s := by
  subst h
  exact ne_bytes (by simpa using hq)
theorem cut_head {xs h e t : List UInt8} (c : Cuts xs h e t) : cut xs 0 (((h.length + e.length : Nat) : Int)).toNat = h ++ e := by rw [Int.toNat_natCast]; exact c.head
theorem cut_text {xs h e t : List UInt8} (c : Cuts xs h e t) : cut xs (((h.length + e.length : Nat) : Int)).toNat ((xs.length : Int)).toNat = t := by rw [Int.toNat_natCast, Int.toNat_natCast]; exact c.text
set_option hygiene false in
local macro_rules | `(tactic| tb_rel) => `(tactic| first | exact UpdF.head hoffT | exact UpdF.head (by assumption) | (refine' UpdF.tail ?ha9 ?hb9; (case ha9 => first | assumption | exact Ne.symm (by assumption) | exact Nat.ne_of_gt (by omega) | tb_start); (case hb9 => tb_rel)) | (refine' upd_app ?ha9 ?hb9; (case hb9 => assumption); (case ha9 => tb_rel)) | ((try dsimp only); k_mem))

theorem law_holds.tw15334298953996031811 : True := trivial
theorem law_holds.tw1099259369241382048 : True := trivial
theorem law_holds.tw11463670642173560981 : True := trivial
theorem law_holds.tw9423440377400516374 : True := trivial
theorem law_holds.tw1341266762083198811 : True := trivial
theorem law_holds.tw11803358882649189518 : True := trivial
theorem law_holds.tw2903333896348957400 : True := trivial
theorem law_holds.tw18116031599527039140 : True := trivial
theorem law_holds.tw15191720212996534143 : True := trivial
theorem law_holds.tw18326849912455186884 : True := trivial
theorem law_holds.tw881140697980615281 : True := trivial
theorem law_holds.tw1258919526383655059 : True := trivial
theorem law_holds.tw4433959717282450730 : True := trivial
theorem law_holds.tw2127001594154878533 : True := trivial
theorem law_holds.tw17899081815984039989 : True := trivial
theorem law_holds.tw367903286550418209 : True := trivial
theorem law_holds.tw8634839017697508684 : True := trivial
theorem law_holds.tw7075805920889398618 : True := trivial
theorem law_holds.tw14497384708736915567 : True := trivial
theorem law_holds.tw14051398506283589457 : True := trivial
theorem law_holds.tw16947615914383616782 : True := trivial
theorem law_holds.tw3927331946688356228 : True := trivial
theorem law_holds.tw10897144627088453450 : True := trivial
theorem law_holds.tw3912811242725288453 : True := trivial
theorem law_holds.tw3850375180904979519 : True := trivial
theorem law_holds.tw7604666192120794032 : True := trivial
theorem law_holds.tw15123554796541802991 : True := trivial
theorem law_holds.tw3816018429785431304 : True := trivial
theorem law_holds.tw15472126771306010800 : True := trivial
theorem law_holds.tw11625900857008200698 : True := trivial
theorem law_holds.tw2782584491509435139 : True := trivial
theorem law_holds.tw4568741812840581045 : True := trivial
theorem law_holds.tw2139172203440323022 : True := trivial
theorem law_holds.tw7120836010843673076 : True := trivial
theorem law_holds.tw2395105632611409283 : True := trivial
theorem law_holds.tw14498155544194170393 : True := trivial
theorem law_holds.tw15333956030411951890 : True := trivial
theorem law_holds.tw13154458805202713791 : True := trivial
theorem law_holds.tw8210953160692291510 : True := trivial
theorem law_holds.tw14774650325386425613 : True := trivial
theorem law_holds.tw1172607208729018732 : True := trivial
theorem law_holds.tw14521376392698553312 : True := trivial
theorem law_holds.tw17974257514489008736 : True := trivial
theorem law_holds.tw2602977815382960713 : True := trivial
theorem law_holds.tw4635674611617693574 : True := trivial
theorem law_holds.tw1819975233463548508 : True := trivial
theorem law_holds.tw4515466672771955728 : True := trivial
theorem law_holds.tw6869992995446874880 : True := trivial
theorem law_holds.tw687851300278632918 : True := trivial
theorem law_holds.tw15274831704391544125 : True := trivial
theorem law_holds.tw11169275537108399364 : True := trivial
theorem law_holds.tw17183477848116922584 : True := trivial
theorem law_holds.tw3329330481660614911 : True := trivial
theorem law_holds.tw1588742098881680585 : True := trivial
theorem law_holds.tw1722738952054099684 : True := trivial
theorem law_holds.tw17249539165995611551 : True := trivial
theorem law_holds.tw17156363617357476176 : True := trivial
theorem law_holds.tw17345407343664743607 : True := trivial
theorem law_holds.tw3743813722443307448 : True := trivial
theorem law_holds.tw17046799393618780204 : True := trivial
theorem law_holds.tw5229605994807718640 : True := trivial
theorem law_holds.tw1622690429015379626 : True := trivial
theorem law_holds.tw15150646450996357022 : True := trivial
theorem law_holds.tw3012480247710183994 : True := trivial
theorem law_holds.tw16092355726972411579 : True := trivial
theorem law_holds.tw2376695672464595844 : True := trivial
theorem law_holds.tw10983241140555628109 : True := trivial
theorem law_holds.tw12320438053989627958 : True := trivial
theorem law_holds.tw5950301352895977177 : True := trivial
theorem law_holds.tw2644310842459337959 : True := trivial
theorem law_holds.tw3808703085821546077 : True := trivial
theorem law_holds.tw4030767218360268280 : True := trivial
theorem law_holds.tw11633083819707477107 : True := trivial
theorem law_holds.tw10264638600885302300 : True := trivial
theorem law_holds.tw17942499455142895165 : True := trivial
theorem law_holds.tw15448297888555860652 : True := trivial
theorem law_holds.tw16194741210049916205 : True := trivial
theorem law_holds.tw18269650602155537469 : True := trivial
theorem law_holds.tw8285764192309689115 : True := trivial
theorem law_holds.tw13983371404066579822 : True := trivial
theorem law_holds.tw13278591279280680027 : True := trivial
theorem law_holds.tw1053317679998426468 : True := trivial
theorem law_holds.tw5914491427308094424 : True := trivial
theorem law_holds.tw15162217921772873613 : True := trivial
theorem law_holds.tw17028624522117568015 : True := trivial
theorem law_holds.tw12835091436910803158 : True := trivial
theorem law_holds.tw13250372474279835810 : True := trivial
theorem law_holds.tw16805829885119392726 : True := trivial
theorem law_holds.tw8785698371604719795 : True := trivial
theorem law_holds.tw5994716906283268228 : True := trivial
theorem law_holds.tw908389787484368193 : True := trivial
theorem law_holds.tw5731563423909890137 : True := trivial
theorem law_holds.tw8312341600987523519 : True := trivial
theorem law_holds.tw13028658284911697911 : True := trivial
theorem law_holds.tw14116105156363184049 : True := trivial
theorem law_holds.tw14281342344845405768 : True := trivial
theorem law_holds.tw15848713872586308078 : True := trivial
theorem law_holds.tw14789792462180790578 : True := trivial
theorem law_holds.tw5640673133297012132 : True := trivial
theorem law_holds.tw12684681026606017882 : True := trivial
theorem law_holds.tw11184271322655226568 : True := trivial
theorem law_holds.tw5037970770195530229 : True := trivial
theorem law_holds.tw3974387499553966400 : True := trivial
theorem law_holds.tw14385925486924208373 : True := trivial
theorem law_holds.tw12419048959643632839 : True := trivial
theorem law_holds.tw18340598423539479173 : True := trivial
theorem law_holds.tw10812634152524527747 : True := trivial
theorem law_holds.tw5277994541964179845 : True := trivial
theorem law_holds.tw3186734533307500241 : True := trivial
theorem law_holds.tw11583271856484122956 : True := trivial
theorem law_holds.tw2322801206320994539 : True := trivial
theorem law_holds.tw16184459414616452189 : True := trivial
theorem law_holds.tw16009327648451700120 : True := trivial
theorem law_holds.tw17499823404086765753 : True := trivial
theorem law_holds.tw10486713781251687710 : True := trivial
theorem law_holds.tw5842969613912506279 : True := trivial
theorem law_holds.tw2788888992717563140 : True := trivial
theorem law_holds.tw6265907326580845545 : True := trivial
theorem law_holds.tw12977093529070104392 : True := trivial
theorem law_holds.tw8804120190785687885 : True := trivial
theorem law_holds.tw9403268196540146800 : True := trivial
theorem law_holds.tw1767730674963353768 : True := trivial
theorem law_holds.tw3572487005457819259 : True := trivial
theorem law_holds.tw6345391036791879355 : True := trivial
theorem law_holds.tw15741379261994504178 : True := trivial
theorem law_holds.tw4889031023730116350 : True := trivial
theorem law_holds.tw11484002064277903863 : True := trivial
theorem law_holds.tw2017991025062827469 : True := trivial
theorem law_holds.tw5455921660152230842 : True := trivial
theorem law_holds.tw15522444059895599089 : True := trivial
theorem law_holds.tw2782419253953178936 : True := trivial
theorem law_holds.tw1989176631692091739 : True := trivial
theorem law_holds.tw12831907817818079685 : True := trivial
theorem law_holds.tw15802469936163623734 : True := trivial
theorem law_holds.tw4464252984393422682 : True := trivial
theorem law_holds.tw14252543395802736299 : True := trivial
theorem law_holds.tw850272041215511910 : True := trivial
theorem law_holds.tw2695550118857162214 : True := trivial
theorem law_holds.tw5572760687482769232 : True := trivial
theorem law_holds.tw6896717019858035522 : True := trivial
theorem law_holds.tw11586273756423631628 : True := trivial
theorem law_holds.tw6881874429007886204 : True := trivial
theorem law_holds.tw13780023080261437657 : True := trivial
theorem law_holds.tw2124134355350193313 : True := trivial
theorem law_holds.tw12713459836128231821 : True := trivial
theorem law_holds.tw17758146289354676595 : True := trivial
theorem law_holds.tw1928719863018725356 : True := trivial
theorem law_holds.tw11946022803392826334 : True := trivial
theorem law_holds.tw7767266014307106701 : True := trivial
theorem law_holds.tw3682559726232862161 : True := trivial
theorem law_holds.tw10027879121665395642 : True := trivial
theorem law_holds.tw16071090679720167499 : True := trivial
theorem law_holds.tw503957847093417577 : True := trivial
theorem law_holds.tw13766487248619392586 : True := trivial
theorem law_holds.tw12889056044993165476 : True := trivial
theorem law_holds.tw8715444014776630742 : True := trivial
theorem law_holds.tw9069877914133315304 : True := trivial
theorem law_holds.tw9843604407834444796 : True := trivial
theorem law_holds.tw9432226000188453795 : True := trivial
theorem law_holds.tw17923851452625207687 : True := trivial
theorem law_holds.tw9889521400790421688 : True := trivial
theorem law_holds.tw2096525686368166746 : True := trivial
theorem law_holds.tw8572072892066365893 : True := trivial
theorem law_holds.tw13190703287169160282 : True := trivial
theorem law_holds.tw5045712524691215523 : True := trivial
theorem law_holds.tw1377309892636839040 : True := trivial
theorem law_holds.tw18261290160731607033 : True := trivial
theorem law_holds.tw2006301483956418059 : True := trivial
theorem law_holds.tw14983226153234331074 : True := trivial
theorem law_holds.tw9483915327669328748 : True := trivial
theorem law_holds.tw1242418559920758562 : True := trivial
theorem law_holds.tw1997475870405608531 : True := trivial
theorem law_holds.tw8312275703017117140 : True := trivial
theorem law_holds.tw10566571302883470556 : True := trivial
theorem law_holds.tw17364227736987735495 : True := trivial
theorem law_holds.tw9184033795430018204 : True := trivial
theorem law_holds.tw9529696498207198238 : True := trivial
theorem law_holds.tw4370086069003782432 : True := trivial
theorem law_holds.tw13336368349410954346 : True := trivial
theorem law_holds.tw1778412455037948541 : True := trivial
theorem law_holds.tw2643271747718453845 : True := trivial
theorem law_holds.tw18430954121086234272 : True := trivial
theorem law_holds.tw3910120701321347557 : True := trivial
theorem law_holds.tw7695934317539461687 : True := trivial
theorem law_holds.tw9212889513913684515 : True := trivial
theorem law_holds.tw17419225075052043924 : True := trivial
theorem law_holds.tw1031057903888850656 : True := trivial
theorem law_holds.tw3494445600050047599 : True := trivial
theorem law_holds.tw18254337876149969668 : True := trivial
theorem law_holds.tw5451054884063135654 : True := trivial
theorem law_holds.tw6041440012092600215 : True := trivial
theorem law_holds.tw11133525997344109421 : True := trivial
theorem law_holds.tw10319883811594843652 : True := trivial
theorem law_holds.tw6723812968561706957 : True := trivial
theorem law_holds.tw16461882675039125421 : True := trivial
theorem law_holds.tw6727219029552735585 : True := trivial
theorem law_holds.tw4441770287765753910 : True := trivial
theorem law_holds.tw10024239376800412576 : True := trivial
theorem law_holds.tw13429453918920967058 : True := trivial
theorem law_holds.tw6177970194926469781 : True := trivial
theorem law_holds.tw15293083901398250104 : True := trivial
theorem law_holds.tw5062152199769849712 : True := trivial
theorem law_holds.tw7304591109411159013 : True := trivial
theorem law_holds.tw4607488874634516573 : True := trivial
theorem law_holds.tw12687621791434340054 : True := trivial
theorem law_holds.tw12115171985352901274 : True := trivial
theorem law_holds.tw11330957891505755796 : True := trivial
theorem law_holds.tw10188763426450519768 : True := trivial
theorem law_holds.tw13097044212144736960 : True := trivial
theorem law_holds.tw808278469055374699 : True := trivial
theorem law_holds.tw15883345262158282383 : True := trivial
theorem law_holds.tw2078624436916829710 : True := trivial
theorem law_holds.tw11846676642670509255 : True := trivial
theorem law_holds.tw8255755865160638884 : True := trivial
theorem law_holds.tw13280740594461564331 : True := trivial
theorem law_holds.tw2303879751551577860 : True := trivial
theorem law_holds.tw8137031500313473552 : True := trivial
theorem law_holds.tw12780804625047726367 : True := trivial
theorem law_holds.tw2557128651999224082 : True := trivial
theorem law_holds.tw11303081109005220762 : True := trivial
theorem law_holds.tw3438298445031660282 : True := trivial
theorem law_holds.tw498061464947678834 : True := trivial
theorem law_holds.tw17309000430359075326 : True := trivial
theorem law_holds.tw576407869801174206 : True := trivial
theorem law_holds.tw12731736397290755891 : True := trivial
theorem law_holds.tw14390095281932903014 : True := trivial
theorem law_holds.tw13092103797297032270 : True := trivial
theorem law_holds.tw1247253217256132012 : True := trivial
theorem law_holds.tw10368410895845634921 : True := trivial
theorem law_holds.tw18388893480867403737 : True := trivial
theorem law_holds.tw11532970265236058100 : True := trivial
theorem law_holds.tw12296726922439171297 : True := trivial
theorem law_holds.tw2558664710541493025 : True := trivial
theorem law_holds.tw3674665740742831893 : True := trivial
theorem law_holds.tw6782543999389746731 : True := trivial
theorem law_holds.tw17274716441693411508 : True := trivial
theorem law_holds.tw16462895619179043833 : True := trivial
theorem law_holds.tw6389952581707197768 : True := trivial
theorem law_holds.tw10726639523019406850 : True := trivial
theorem law_holds.tw7085375772137924610 : True := trivial
theorem law_holds.tw2865737869514987218 : True := trivial
theorem law_holds.tw8720880381367431298 : True := trivial
theorem law_holds.tw3850404396616230974 : True := trivial
theorem law_holds.tw8045378594462670225 : True := trivial
theorem law_holds.tw10189704592693192966 : True := trivial
theorem law_holds.tw11297062200503488469 : True := trivial
theorem law_holds.tw4581845663705801772 : True := trivial
theorem law_holds.tw9992725586745946429 : True := trivial
theorem law_holds.tw1762888911704233025 : True := trivial
theorem law_holds.tw2503670479209048990 : True := trivial
theorem law_holds.tw2269544990204364226 : True := trivial
theorem law_holds.tw15202863084288179589 : True := trivial
theorem law_holds.tw607667584577438428 : True := trivial
theorem law_holds.tw15341342317828512493 : True := trivial
theorem law_holds.tw17470365217354309832 : True := trivial
theorem law_holds.tw18135211599370774712 : True := trivial
theorem law_holds.tw519298541982818421 : True := trivial
theorem law_holds.tw15014403891855920072 : True := trivial
theorem law_holds.tw784011647948385275 : True := trivial
theorem law_holds.tw302768837105346163 : True := trivial
theorem law_holds.tw7769649832755249146 : True := trivial
theorem law_holds.tw9255152265573255198 : True := trivial
theorem law_holds.tw18234560199702728603 : True := trivial
theorem law_holds.tw12134408205421670959 : True := trivial
theorem law_holds.tw123295346585929383 : True := trivial
theorem law_holds.tw8984712037535005518 : True := trivial
theorem law_holds.tw12668044768207566790 : True := trivial
theorem law_holds.tw2414130084998747865 : True := trivial
theorem law_holds.tw13709617746848070560 : True := trivial
theorem law_holds.tw1670043908289496885 : True := trivial
theorem law_holds.tw2387193687640843687 : True := trivial
theorem law_holds.tw4741859662064258567 : True := trivial
theorem law_holds.tw8909828626151137519 : True := trivial
theorem law_holds.tw7696488724909661519 : True := trivial
theorem law_holds.tw12108977868540685583 : True := trivial
theorem law_holds.tw41732636909640268 : True := trivial
theorem law_holds.tw13342518741750886279 : True := trivial
theorem law_holds.tw2175471002772951711 : True := trivial
theorem law_holds.tw13848119269249539950 : True := trivial
theorem law_holds.tw10362271348294423435 : True := trivial
theorem law_holds.tw5907203647135998699 : True := trivial
theorem law_holds.tw3416923247095428876 : True := trivial
theorem law_holds.tw10028117763298573888 : True := trivial
theorem law_holds.tw10371022188087798493 : True := trivial
theorem law_holds.tw16612359704951912572 : True := trivial
theorem law_holds.tw1905533677188600702 : True := trivial
theorem law_holds.tw4995542688137877417 : True := trivial
theorem law_holds.tw4517222822008671029 : True := trivial
theorem law_holds.tw6861490101519172755 : True := trivial
theorem law_holds.tw7345768897557615242 : True := trivial
theorem law_holds.tw2211468639325271704 : True := trivial
theorem law_holds.tw8553002610548859549 : True := trivial
theorem law_holds.tw6882020374766023752 : True := trivial
theorem law_holds.tw15644819842384902770 : True := trivial
theorem law_holds.tw12116493165278983582 : True := trivial
theorem law_holds.tw11881114122080957857 : True := trivial
theorem law_holds.tw16873799427995575018 : True := trivial
theorem law_holds.tw3756308257209627903 : True := trivial
theorem law_holds.tw16765433158599729185 : True := trivial
theorem law_holds.tw2016121425191149895 : True := trivial
theorem law_holds.tw8970147916757833333 : True := trivial
theorem law_holds.tw6776455111828631412 : True := trivial
theorem law_holds.tw11714151634956498000 : True := trivial
theorem law_holds.tw15527639110640922598 : True := trivial
theorem law_holds.tw12634321019024901981 : True := trivial
theorem law_holds.tw11182679623053108816 : True := trivial
theorem law_holds.tw12626328134170644701 : True := trivial
theorem law_holds.tw9525127294725463027 : True := trivial
theorem law_holds.tw981846192996546977 : True := trivial
theorem law_holds.tw16074064945343616743 : True := trivial
theorem law_holds.tw11544315989524547432 : True := trivial
theorem law_holds.tw6751701741844952029 : True := trivial
theorem law_holds.tw1556451293825771818 : True := trivial
theorem law_holds.tw7479968899032947501 : True := trivial
theorem law_holds.tw1035469204868569938 : True := trivial
theorem law_holds.tw15567558954438479688 : True := trivial
theorem law_holds.tw14883556706271630602 : True := trivial
theorem law_holds.tw14591188831736013205 : True := trivial
theorem law_holds.tw16098570224071239113 : True := trivial
theorem law_holds.tw1784627337472249616 : True := trivial
theorem law_holds.tw5858263632927829637 : True := trivial
theorem law_holds.tw11781800970755023335 : True := trivial
theorem law_holds.tw5117662029339320154 : True := trivial
theorem law_holds.tw17180001009569633970 : True := trivial
theorem law_holds.tw2578278018795888234 : True := trivial
theorem law_holds.tw17580165497215679439 : True := trivial
theorem law_holds.tw2599295569796340055 : True := trivial
theorem law_holds.tw3049941959672503198 : True := trivial
theorem law_holds.tw5506821171919863439 : True := trivial
theorem law_holds.tw13402424001964919149 : True := trivial
theorem law_holds.tw2414074194907454277 : True := trivial
theorem law_holds.tw5274592661964301406 : True := trivial
theorem law_holds.tw12303009252429188658 : True := trivial
theorem law_holds.tw4524032621918665186 : True := trivial
theorem law_holds.tw5087963091746180759 : True := trivial
theorem law_holds.tw8386679336120195906 : True := trivial
theorem law_holds.tw5647190250986860303 : True := trivial
theorem law_holds.tw12800644894191811977 : True := trivial
theorem law_holds.tw10301956948240465243 : True := trivial
theorem law_holds.tw6159533029260741167 : True := trivial
theorem law_holds.tw15352839923633478061 : True := trivial
theorem law_holds.tw7983211939772527470 : True := trivial
theorem law_holds.tw4492043994082249198 : True := trivial
theorem law_holds.tw10876394233666535175 : True := trivial
theorem law_holds.tw4643041051132140158 : True := trivial
theorem law_holds.tw10222300733896627045 : True := trivial
theorem law_holds.tw11291139869246802265 : True := trivial
theorem law_holds.tw17830944117370523080 : True := trivial
theorem law_holds.tw3390839446522356110 : True := trivial
theorem law_holds.tw15320506598460614908 : True := trivial
theorem law_holds.tw13087128984098923117 : True := trivial
theorem law_holds.tw15031514592837009168 : True := trivial
theorem law_holds.tw545109181885906688 : True := trivial
theorem law_holds.tw6580623548314892615 : True := trivial
theorem law_holds.tw1929443778124869092 : True := trivial
theorem law_holds.tw160851071654074740 : True := trivial
theorem law_holds.tw13642005409729077643 : True := trivial
theorem law_holds.tw2907507879108658156 : True := trivial
theorem law_holds.tw415365407113419659 : True := trivial
theorem law_holds.tw14326059299131336239 : True := trivial
theorem law_holds.tw6911747868599837429 : True := trivial
theorem law_holds.tw18051328159682125866 : True := trivial
theorem law_holds.tw12481875629721207810 : True := trivial
theorem law_holds.tw6860709855171689206 : True := trivial
theorem law_holds.tw5389484754426515990 : True := trivial
theorem law_holds.tw8283681822388582728 : True := trivial
theorem law_holds.tw575232530192455986 : True := trivial
theorem law_holds.tw12503156628232749375 : True := trivial
theorem law_holds.tw18165013545707147870 : True := trivial
theorem law_holds.tw3253568177066640346 : True := trivial
theorem law_holds.tw13281950902743806629 : True := trivial
theorem law_holds.tw7480714314260584917 : True := trivial
theorem law_holds.tw11956458263131016624 : True := trivial
theorem law_holds.tw2075624079617657780 : True := trivial
theorem law_holds.tw4211113817173803656 : True := trivial
theorem law_holds.tw6381524096760519305 : True := trivial
theorem law_holds.tw7566432030715092817 : True := trivial
theorem law_holds.tw11924911360389889469 : True := trivial
theorem law_holds.tw11126432536435168541 : True := trivial
theorem law_holds.tw5542243279508502960 : True := trivial
theorem law_holds.tw179590077315354965 : True := trivial
theorem law_holds.tw11223184984439025696 : True := trivial
theorem law_holds.tw2136269947727277649 : True := trivial
theorem law_holds.tw8854015012368427407 : True := trivial
theorem law_holds.tw3035144380315620824 : True := trivial
theorem law_holds.tw8369274380968253667 : True := trivial
theorem law_holds.tw7743764779111840046 : True := trivial
theorem law_holds.tw7408322871517469003 : True := trivial
theorem law_holds.tw17255088995462705879 : True := trivial
theorem law_holds.tw10458381655096516384 : True := trivial
theorem law_holds.tw16245577235439221107 : True := trivial
theorem law_holds.tw2731376850318366449 : True := trivial
theorem law_holds.tw18153520721480276881 : True := trivial
theorem law_holds.tw2090888555730037645 : True := trivial
theorem law_holds.tw8666519363043736892 : True := trivial
theorem law_holds.tw745255978533919091 : True := trivial
theorem law_holds.tw6719018230134327050 : True := trivial
theorem law_holds.tw8297313697389066934 : True := trivial
theorem law_holds.tw12949845418750544790 : True := trivial
theorem law_holds.tw10242277825702978295 : True := trivial
theorem law_holds.tw5989267464594152519 : True := trivial
theorem law_holds.tw13190408463805328480 : True := trivial
theorem law_holds.tw2325693721150917532 : True := trivial
theorem law_holds.tw10803361673654935901 : True := trivial
theorem law_holds.tw16849284256912671741 : True := trivial
theorem law_holds.tw8591876402714022951 : True := trivial
theorem law_holds.tw3426384778480675251 : True := trivial
theorem law_holds.tw3307954989432871184 : True := trivial
theorem law_holds.tw8514742172934523775 : True := trivial
theorem law_holds.tw13431030151845061361 : True := trivial
theorem law_holds.tw2401843486660128364 : True := trivial
theorem law_holds.tw6317479115527610633 : True := trivial
theorem law_holds.tw13650905803964671038 : True := trivial
theorem law_holds.tw8712014163911447464 : True := trivial
theorem law_holds.tw602461330855297101 : True := trivial
theorem law_holds.tw16470317323979864763 : True := trivial
theorem law_holds.tw11426015686315989412 : True := trivial
theorem law_holds.tw4614512636035447770 : True := trivial
theorem law_holds.tw12218498018843733332 : True := trivial
theorem law_holds.tw17942709131360195518 : True := trivial
theorem law_holds.tw5920216800500632969 : True := trivial
theorem law_holds.tw3896150654470677357 : True := trivial
theorem law_holds.tw7019463264422422977 : True := trivial
theorem law_holds.tw462603977267732627 : True := trivial
theorem law_holds.tw15726739188670627701 : True := trivial
theorem law_holds.tw13397297893571687751 : True := trivial
theorem law_holds.tw3366817510852727610 : True := trivial
theorem law_holds.tw8857742495270377987 : True := trivial
theorem law_holds.tw9849722394096787677 : True := trivial
theorem law_holds.tw12149405283708829123 : True := trivial
theorem law_holds.tw10442559174759676424 : True := trivial
theorem law_holds.tw3005452535816212104 : True := trivial
theorem law_holds.tw9634471323475708679 : True := trivial
theorem law_holds.tw15607887362523206001 : True := trivial
theorem law_holds.tw17253691774821329096 : True := trivial
theorem law_holds.tw4593294709026258786 : True := trivial
theorem law_holds.tw8417186165934385351 : True := trivial
theorem law_holds.tw16760957895259694429 : True := trivial
theorem law_holds.tw16190678330180157336 : True := trivial
theorem law_holds.tw9779807473162285230 : True := trivial
theorem law_holds.tw2295933128562542503 : True := trivial
theorem law_holds.tw14746732674962391887 : True := trivial
theorem law_holds.tw4916342969005030805 : True := trivial
theorem law_holds.tw3882201998751590657 : True := trivial
theorem law_holds.tw2618386414584295968 : True := trivial
theorem law_holds.tw3136910860242942599 : True := trivial
theorem law_holds.tw9009705080361974123 : True := trivial
theorem law_holds.tw9552830710289189752 : True := trivial
theorem law_holds.tw16099233806120587224 : True := trivial
theorem law_holds.tw16057390660189216267 : True := trivial
theorem law_holds.tw3110860835449505704 : True := trivial
theorem law_holds.tw18155623678392573649 : True := trivial
theorem law_holds.tw12889673554181485818 : True := trivial
theorem law_holds.tw6346621912233149993 : True := trivial
theorem law_holds.tw13482675847692870326 : True := trivial
theorem law_holds.tw8982592368679156308 : True := trivial
theorem law_holds.tw2102315897755806987 : True := trivial
theorem law_holds.tw6746360682218282392 : True := trivial
theorem law_holds.tw1285599515219305098 : True := trivial
theorem law_holds.tw3253820488102484341 : True := trivial
theorem law_holds.tw723553956927101924 : True := trivial
theorem law_holds.tw4818577856007422655 : True := trivial
theorem law_holds.tw3742325753681652743 : True := trivial
theorem law_holds.tw1550374771381668074 : True := trivial
theorem law_holds.tw17389434848343332794 : True := trivial
theorem law_holds.tw10488053122327486587 : True := trivial
theorem law_holds.tw5791418645094131800 : True := trivial
theorem law_holds.tw15148592363749028121 : True := trivial
theorem law_holds.tw13840902789983287329 : True := trivial
theorem law_holds.tw16165715940066559518 : True := trivial
theorem law_holds.tw4329158554759489670 : True := trivial
theorem law_holds.tw4037582482628031876 : True := trivial
theorem law_holds.tw3420713379713995892 : True := trivial
theorem law_holds.tw5364902710198789758 : True := trivial
theorem law_holds.tw3586223124089845285 : True := trivial
theorem law_holds.tw12456547296908542839 : True := trivial
theorem law_holds.tw10093380194815717143 : True := trivial
theorem law_holds.tw5981114437932730796 : True := trivial
theorem law_holds.tw1601895830593022294 : True := trivial
theorem law_holds.tw12223724995276690173 : True := trivial
theorem law_holds.tw8790382262760724670 : True := trivial
theorem law_holds.tw9758593294864014727 : True := trivial
theorem law_holds.tw4992725456586698614 : True := trivial
theorem law_holds.tw631266038723830076 : True := trivial
theorem law_holds.tw7484302960587174374 : True := trivial
theorem law_holds.tw7185456241796803578 : True := trivial
theorem law_holds.tw1710076424337546998 : True := trivial
theorem law_holds.tw16914220770136414715 : True := trivial
theorem law_holds.tw7052821283958023361 : True := trivial
theorem law_holds.tw14489315793263303861 : True := trivial
theorem law_holds.tw15352218221683021774 : True := trivial
theorem law_holds.tw724200737284857819 : True := trivial
theorem law_holds.tw3979707639553702691 : True := trivial
theorem law_holds.tw16771549258648962210 : True := trivial
theorem law_holds.tw17792525830624384078 : True := trivial
theorem law_holds.tw11098625913536864229 : True := trivial
theorem law_holds.tw5222685764011923507 : True := trivial
theorem law_holds.tw15338837502394608122 : True := trivial
theorem law_holds.tw11918526154901971515 : True := trivial
theorem law_holds.tw1335265377702380343 : True := trivial
theorem law_holds.tw1232645469590886286 : True := trivial
theorem law_holds.tw9187647767651647856 : True := trivial
theorem law_holds.tw7221428835167493151 : True := trivial
theorem law_holds.tw12253411696296436870 : True := trivial
theorem law_holds.tw17865009358878524859 : True := trivial
theorem law_holds.tw2851267720448770887 : True := trivial
theorem law_holds.tw14377833709258309704 : True := trivial
theorem law_holds.tw12342728606916771844 : True := trivial
theorem law_holds.tw1685627985566243432 : True := trivial
theorem law_holds.tw228058311090241170 : True := trivial
theorem law_holds.tw3955097671198598788 : True := trivial
theorem law_holds.tw1385162719727133579 : True := trivial
theorem law_holds.tw15694993059591697976 : True := trivial
theorem law_holds.tw2382714987290314120 : True := trivial
theorem law_holds.tw10296202853966499060 : True := trivial
theorem law_holds.tw2008241840959921210 : True := trivial
theorem law_holds.tw8652346329174877282 : True := trivial
theorem law_holds.tw10954758410522031216 : True := trivial
theorem law_holds.tw2152083551845799040 : True := trivial
theorem law_holds.tw11347954631545130290 : True := trivial
theorem law_holds.tw17993387198741990920 : True := trivial
theorem law_holds.tw14991590004735058009 : True := trivial
theorem law_holds.tw7775064044895347852 : True := trivial
theorem law_holds.tw7820799176418779761 : True := trivial
theorem law_holds.tw9975692261777386857 : True := trivial
theorem law_holds.tw15514866124879379921 : True := trivial
theorem law_holds.tw14904137174637212347 : True := trivial
theorem law_holds.tw6333624483447246961 : True := trivial
theorem law_holds.tw10841264019214440115 : True := trivial
theorem law_holds.tw7636989558263936852 : True := trivial
theorem law_holds.tw14531881819706719225 : True := trivial
theorem law_holds.tw13182730311906835528 : True := trivial
theorem law_holds.tw2139843940965253949 : True := trivial
theorem law_holds.tw3776956092104397036 : True := trivial
theorem law_holds.tw12001131798957381970 : True := trivial
theorem law_holds.tw2842810181116790245 : True := trivial
theorem law_holds.tw8806649888931605024 : True := trivial
theorem law_holds.tw6260460797876433568 : True := trivial
theorem law_holds.tw11690447701083486646 : True := trivial
theorem law_holds.tw6709271908398517637 : True := trivial
theorem law_holds.tw16836969012518115619 : True := trivial
theorem law_holds.tw17911580528928914924 : True := trivial
theorem law_holds.tw11097158420108258118 : True := trivial
theorem law_holds.tw7544913113114293122 : True := trivial
theorem law_holds.tw14571795756577361901 : True := trivial
theorem law_holds.tw12645607732203181651 : True := trivial
theorem law_holds.tw2142710703020379005 : True := trivial
theorem law_holds.tw7472407996622490835 : True := trivial
theorem law_holds.tw15661869461025623997 : True := trivial
theorem law_holds.tw14351635765420936899 : True := trivial
theorem law_holds.tw10007947361888340627 : True := trivial
theorem law_holds.tw15837584211629593338 : True := trivial
theorem law_holds.tw8922897050441119698 : True := trivial
theorem law_holds.tw718173064312146323 : True := trivial
theorem law_holds.tw17169043682955552997 : True := trivial
theorem law_holds.tw4146061822495498468 : True := trivial
theorem law_holds.tw11404014056486942332 : True := trivial
theorem law_holds.tw14390602165704524457 : True := trivial
theorem law_holds.tw11289095316329951393 : True := trivial
theorem law_holds.tw7356724547972884604 : True := trivial
theorem law_holds.tw15609566024721092083 : True := trivial
theorem law_holds.tw14646867148444618371 : True := trivial
theorem law_holds.tw18203989763732354715 : True := trivial
theorem law_holds.tw2887994833065977647 : True := trivial
theorem law_holds.tw10817052189556005596 : True := trivial
theorem law_holds.tw14064573792008682920 : True := trivial
theorem law_holds.tw13220211186989608806 : True := trivial
theorem law_holds.tw16406091861079842607 : True := trivial
theorem law_holds.tw18090433342136740992 : True := trivial
theorem law_holds.tw4273555757443719353 : True := trivial
theorem law_holds.tw13454136545276886934 : True := trivial
theorem law_holds.tw16563099163409725306 : True := trivial
theorem law_holds.tw2887050238494874643 : True := trivial
theorem law_holds.tw13958071646730322851 : True := trivial
theorem law_holds.tw4324183148157820279 : True := trivial
theorem law_holds.tw8890443458166856008 : True := trivial
theorem law_holds.tw12847567107135931479 : True := trivial
theorem law_holds.tw11315637435222106236 : True := trivial
theorem law_holds.tw12732824653754844360 : True := trivial
theorem law_holds.tw16883458599210261866 : True := trivial
theorem law_holds.tw14160533322030094474 : True := trivial
theorem law_holds.tw8176227357466254829 : True := trivial
theorem law_holds.tw3943428198234077543 : True := trivial
theorem law_holds.tw16335311869981183947 : True := trivial
theorem law_holds.tw10079444305495103266 : True := trivial
theorem law_holds.tw15388381823163157790 : True := trivial
theorem law_holds.tw455179833554555240 : True := trivial
theorem law_holds.tw7311554392007033315 : True := trivial
theorem law_holds.tw11067727234611919522 : True := trivial
theorem law_holds.tw9782098596872108087 : True := trivial
theorem law_holds.tw9758047768218912823 : True := trivial
theorem law_holds.tw9875236377963488844 : True := trivial
theorem law_holds.tw9032369906271771983 : True := trivial
theorem law_holds.tw15272395603832836080 : True := trivial
theorem law_holds.tw14925382992726071281 : True := trivial
theorem law_holds.tw15695062497276918967 : True := trivial
theorem law_holds.tw2043166853727251185 : True := trivial
theorem law_holds.tw4072507727158212662 : True := trivial
theorem law_holds.tw7675160084493405025 : True := trivial
theorem law_holds.tw16963379459963715452 : True := trivial
theorem law_holds.tw1832781179975386347 : True := trivial
theorem law_holds.tw16142487073453066541 : True := trivial
theorem law_holds.tw14289194402921355359 : True := trivial
theorem law_holds.tw6564709946809587534 : True := trivial
theorem law_holds.tw7089819591129360890 : True := trivial
theorem law_holds.tw18197852217732850983 : True := trivial
theorem law_holds.tw9548147230944474901 : True := trivial
theorem law_holds.tw1791086108937442324 : True := trivial
theorem law_holds.tw194939583717160490 : True := trivial
theorem law_holds.tw15154110283740273250 : True := trivial
theorem law_holds.tw1186782194237197914 : True := trivial
theorem law_holds.tw699380112222796084 : True := trivial
theorem law_holds.tw7910590604623066228 : True := trivial
theorem law_holds.tw12874571214893485439 : True := trivial
theorem law_holds.tw15296541713973790061 : True := trivial
theorem law_holds.tw9606376775287448836 : True := trivial
theorem law_holds.tw10441050188594101415 : True := trivial
theorem law_holds.tw15837452725152343555 : True := trivial
theorem law_holds.tw4008084134468147086 : True := trivial
theorem law_holds.tw2667362832866536986 : True := trivial
theorem law_holds.tw8860054118572591635 : True := trivial
theorem law_holds.tw13392613628428298086 : True := trivial
theorem law_holds.tw16381176275627223697 : True := trivial
theorem law_holds.tw14997073306097389879 : True := trivial
theorem law_holds.tw18006792725990754497 : True := trivial
theorem law_holds.tw11046636381182338224 : True := trivial
theorem law_holds.tw13667737974841707781 : True := trivial
theorem law_holds.tw17598101756349436640 : True := trivial
theorem law_holds.tw6674817763981286723 : True := trivial
theorem law_holds.tw11097350217990362986 : True := trivial
theorem law_holds.tw2055734563569237896 : True := trivial
theorem law_holds.tw6765152471904792315 : True := trivial
theorem law_holds.tw14335913921861858828 : True := trivial
theorem law_holds.tw13478230802861573701 : True := trivial
theorem law_holds.tw5873227374133038620 : True := trivial
theorem law_holds.tw4323815956820902445 : True := trivial
theorem law_holds.tw12394330538082041428 : True := trivial
theorem law_holds.tw13528896222378765290 : True := trivial
theorem law_holds.tw15759456685926392790 : True := trivial
theorem law_holds.tw13055523775352357715 : True := trivial
theorem law_holds.tw8835965917227929528 : True := trivial
theorem law_holds.tw12291295341487003417 : True := trivial
theorem law_holds.tw9317688335297629284 : True := trivial
theorem law_holds.tw1382677567924326555 : True := trivial
theorem law_holds.tw1496123403401453975 : True := trivial
theorem law_holds.tw15140378357190847165 : True := trivial
theorem law_holds.tw8763168800255643514 : True := trivial
theorem law_holds.tw293627430662643474 : True := trivial
theorem law_holds.tw18221428039690301666 : True := trivial
theorem law_holds.tw3028213030429885723 : True := trivial
theorem law_holds.tw17747945891996359679 : True := trivial
theorem law_holds.tw12459966957829302596 : True := trivial
theorem law_holds.tw10968802771074238664 : True := trivial
theorem law_holds.tw8957123355933967898 : True := trivial
theorem law_holds.tw12663309570017281627 : True := trivial
theorem law_holds.tw653560878884961445 : True := trivial
theorem law_holds.tw17027635718292003107 : True := trivial
set_option Elab.async true in
theorem law_holds : PySem.Challenge.rw_no0392_01.Holds := by
  w_on; o_law; k_head; (case hw => w_witness2)
  k_go0
  rename Frag.In _ _ => KX1
  have KX0 := k0_in KX1 (by kernel_rfl)
  all_goals try k_fold
  k_with "eval BoolOp" => (refine Stop.out ?_)
  k_steps
  refine Stop.go ?_
  rename Fr _ _ _ _ => lF'
  rename News _ _ _ _ => lN'
  refine draws_join lF' lN' ?_ (fun v s' hD => ?_)
  · k_with_none
    k_with "eval Name" => (k_here; k_dflt (refine' nameX_C ?q953N ?q481c ?q702m ?q834d ?_ ?q805a ?q365b; (case q805a => rfl); (case q365b => rfl); (case q953N => k_asm); (case q481c => rfl); (case q702m => k_mem); (case q834d => assumption); k_whole))
    k_with "binaryOp Add bytes bytes" => (k_here; (with_reducible show wpAny _ _ (binaryOp Operator.Add (Value.bytes (List.toArray _) _) (Value.bytes (List.toArray _) _)) _ _ _); k_dflt (refine' bytes_add_K ?q530z rfl ?_; (case q530z => refine add_room ?_ ?_ <;> first | omega | exact Nat.le_trans (cut_len_le _ _ _) (by omega) | (simp only [List.length_append, List.length_cons, List.length_nil]; omega)); k_whole); intro _ _)
    k_with "call ref" => (k_here; (with_reducible show wpAny _ _ (call (Value.ref 689) _ _) _ _ _); k_dflt (refine' law_draw_ok ?mB ?mF ?mX ?mN ?mT ?mk ?md ?q228htp ?q891hc ?q215hi ?q198hne ?q668hnl ?q485h0 ?q519h1 ?q227hm0 ?q851hm1 ?q398U ?q609hmem ?_; kbo_bools; (case q228htp => tb_rel); (case q891hc => tb_rel); (case q215hi => exact hin); (case q198hne => exact hne9); (case q668hnl => exact hnl9); (case q485h0 => omega); (case q519h1 => omega); (case q227hm0 => omega); (case q851hm1 => omega); (case q398U => tb_rel); (case q609hmem => intro tk9; tb_rel); k_whole); intro vd tvd tkd hd' tkd' F' N' hv0' hv1'; kct_strs)
    k_with "subscriptTail" => (k_here; (with_reducible show wpAny _ _ (subscriptTail _ _ (Value.ref _) (Value.int _ _)) _ _ _); (first | (k_dflt (refine' menu_K ?q555F ?q624X ?q64l ?q975b ?q928h0 ?q868h1 ?q587hz ?q212hs ?_; (case q555F => k_asm); (case q624X => k_asm); (case q64l => k_is); (case q975b => repeat constructor); (case q928h0 => omega); (case q868h1 => simp only [List.length_cons, List.length_nil]; omega); (case q587hz => decide); (case q212hs => with_unfolding_all rfl); k_whole)) | (k_dflt (refine' menu_tup ?q268T ?q975b ?q928h0 ?q868h1 ?q587hz ?q212hs ?_; (case q268T => exact News.isTup (by k_asm) List.mem_cons_self); (case q975b => repeat constructor); (case q928h0 => omega); (case q868h1 => simp only [List.length_cons, List.length_nil]; omega); (case q587hz => decide); (case q212hs => with_unfolding_all rfl); k_whole))); intro cm' tm' hcm'; (have hcl' := menu_len hcm' (by decide)))
    k_with "getMethod bytes" => (k_here; (with_reducible first | refine meth_join ?_ | refine meth_dec ?_))
    k_with "call builtin:bytes.join" => (k_here; (refine' join_K ?q894k1 ?q256k2 ?q262k3 ?_; (case q894k1 => exact lst_is (by k_asm) (by k_mem)); (case q256k2 => assumption); (case q262k3 => omega)); intro tj' kj')
    k_with "binaryOp Add bytes bytes" => (k_here; (with_reducible show wpAny _ _ (binaryOp Operator.Add (Value.bytes (List.toArray _) _) (Value.bytes (List.toArray _) _)) _ _ _); k_dflt (refine' bytes_add_K ?q404z rfl ?_; (case q404z => exact add_room (by first | omega | (simp only [List.length_append]; omega)) (by first | omega | (simp only [List.length_append]; omega))); k_whole); intro _ _)
    k_with "subscriptTail" => (k_here; (with_reducible show wpAny _ _ (subscriptTail (Expr.Tuple _ _ _) (Expr.Name _ _) (Value.ref _) (Value.int _ _)) _ _ _); (refine Stop.out ?_))
    k_steps
    all_goals rename Fr _ _ _ _ => lF'
    all_goals rename News _ _ _ _ => lN'
    · refine ⟨_, _, _, _, _, _, rfl, rfl, lF', news_drop lN', by assumption, by omega, by omega, ?_⟩
      intro p hp
      simp only [List.mem_cons, List.not_mem_nil, or_false] at hp
      rcases hp with rfl | rfl <;> (dsimp only; omega)
    · refine ⟨_, [_], [3], _, _, _, rfl, rfl, lF', news_drop (news_drop lN'), .cons _ _ .nil, by decide, by decide, ?_⟩
      intro p hp
      simp only [List.mem_cons, List.not_mem_nil, or_false] at hp
      rcases hp with rfl | rfl <;> (dsimp only; omega)
  clear lF' lN'
  obtain ⟨ce, vs, ns, kc, hx, tkx, rfl, rfl, F', N', hin, hne9, hnl9, hce0⟩ := hD
  k_with "exec Assign cons ListComp" => (refine Stop.out ?_)
  k_steps
  refine Stop.go ?_
  rename Fr _ _ _ _ => lF'
  rename News _ _ _ _ => lN'
  simp only [List.cons_append, List.nil_append] at lN'
  rename _ = Data.cell (some (Value.ref _)) => hcT
  obtain ⟨tp, o2, o1, ta0, N', d2, d1, hct, hc2t, hc1t, hoffT⟩ := law_pack lN' (by assumption) hcT ⟨by omega, by omega, by omega⟩
  clear lN'
  refine comp_assignF lF' (by rfl) (by with_unfolding_all rfl) (by with_unfolding_all rfl) (by decide) (by rfl) (by decide) (by rfl) (by rfl) ?_
  k_steps
  rename IsRange _ _ _ _ _ _ _ _ => lR'
  rename Fr _ _ _ _ => lF2
  rename News _ _ _ _ => lN2
  rename Int => vr
  obtain ⟨nr, rfl⟩ : ∃ nr : Nat, vr = (nr : Int) := ⟨vr.toNat, by omega⟩
  refine go_led (fun i ys nw => ∃ led fs at1 ta1, nw = led ++ (tp, tapeO ce at1 ta1 0) :: _ ∧ (∀ p ∈ led, @LT.lt Nat _ tp p.1) ∧ FieldsAre led ys fs ∧ (∀ f ∈ fs, LawField f.1 f.2) ∧ 1 ≤ at1 ∧ at1 ≤ 1 + 8 * (i : Int) ∧ fs.length = i) (by rfl) (by rfl) (src_range (by rfl) lF2 lN2 lR' (range_small _ (by omega)) (range_size _)) (by rw [sizeLine_eq]; omega) ⟨[], [], _, _, rfl, (fun _ h => nomatch h), .nil, (fun _ h => nomatch h), by omega, by omega, rfl⟩
    (fun i v ys nw I oI C oC D m₂ hh tk9 E' hi hP hJ hl hC hv F' N' off3 ne3 => ?_) (fun a' hh tk9 ys nw m' hm F' N' o9 la1 hJ => ?_)
  · clear lF' lF2 lN2 lR'
    obtain ⟨led, fs, at1, ta1, rfl, hled, hfs, hff, hb1, hb2, hlen⟩ := hJ
    k_with "call ref" => (refine Stop.out ?_)
    k_steps
    refine Stop.go ?_
    rename Fr _ _ _ _ => lF'
    rename News _ _ _ _ => lN'
    have hxt := off3.mem (tp, tapeO ce at1 ta1 0) (List.mem_append_right _ (.head _))
    k_with_none
    k_with "eval Name" => (k_here; k_dflt (refine' nameX_C ?q953N ?q481c ?q702m ?q834d ?_ ?q805a ?q365b; (case q805a => rfl); (case q365b => rfl); (case q953N => k_asm); (case q481c => rfl); (case q702m => k_mem); (case q834d => assumption); k_whole))
    k_with "binaryOp Add bytes bytes" => (k_here; (with_reducible show wpAny _ _ (binaryOp Operator.Add (Value.bytes (List.toArray _) _) (Value.bytes (List.toArray _) _)) _ _ _); k_dflt (refine' bytes_add_K ?q530z rfl ?_; (case q530z => refine add_room ?_ ?_ <;> first | omega | exact Nat.le_trans (cut_len_le _ _ _) (by omega) | (simp only [List.length_append, List.length_cons, List.length_nil]; omega)); k_whole); intro _ _)
    k_with "call ref" => (k_here; (with_reducible show wpAny _ _ (call (Value.ref 689) _ _) _ _ _); k_dflt (refine' law_draw_ok ?mB ?mF ?mX ?mN ?mT ?mk ?md ?q228htp ?q891hc ?q215hi ?q198hne ?q668hnl ?q485h0 ?q519h1 ?q227hm0 ?q851hm1 ?q398U ?q609hmem ?_; kbo_bools; (case q228htp => tb_rel); (case q891hc => tb_rel); (case q215hi => exact hin); (case q198hne => exact hne9); (case q668hnl => exact hnl9); (case q485h0 => omega); (case q519h1 => omega); (case q227hm0 => omega); (case q851hm1 => omega); (case q398U => tb_rel); (case q609hmem => intro tk9; tb_rel); k_whole); intro vd tvd tkd hd' tkd' F' N' hv0' hv1'; kct_strs)
    k_with "subscriptTail" => (k_here; (with_reducible show wpAny _ _ (subscriptTail _ _ (Value.ref _) (Value.int _ _)) _ _ _); (first | (k_dflt (refine' menu_K ?q555F ?q624X ?q64l ?q975b ?q928h0 ?q868h1 ?q587hz ?q212hs ?_; (case q555F => k_asm); (case q624X => k_asm); (case q64l => k_is); (case q975b => repeat constructor); (case q928h0 => omega); (case q868h1 => simp only [List.length_cons, List.length_nil]; omega); (case q587hz => decide); (case q212hs => with_unfolding_all rfl); k_whole)) | (k_dflt (refine' menu_tup ?q268T ?q975b ?q928h0 ?q868h1 ?q587hz ?q212hs ?_; (case q268T => exact News.isTup (by k_asm) List.mem_cons_self); (case q975b => repeat constructor); (case q928h0 => omega); (case q868h1 => simp only [List.length_cons, List.length_nil]; omega); (case q587hz => decide); (case q212hs => with_unfolding_all rfl); k_whole))); intro cm' tm' hcm'; (have hcl' := menu_len hcm' (by decide)))
    k_with "getMethod bytes" => (k_here; (with_reducible first | refine meth_join ?_ | refine meth_dec ?_))
    k_with "call builtin:bytes.join" => (k_here; (refine' join_K ?q894k1 ?q256k2 ?q262k3 ?_; (case q894k1 => exact lst_is (by k_asm) (by k_mem)); (case q256k2 => assumption); (case q262k3 => omega)); intro tj' kj')
    k_with "binaryOp Add bytes bytes" => (k_here; (with_reducible show wpAny _ _ (binaryOp Operator.Add (Value.bytes (List.toArray _) _) (Value.bytes (List.toArray _) _)) _ _ _); k_dflt (refine' bytes_add_K ?q404z rfl ?_; (case q404z => exact add_room (by first | omega | (simp only [List.length_append]; omega)) (by first | omega | (simp only [List.length_append]; omega))); k_whole); intro _ _)
    k_with "subscriptTail" => (k_here; (with_reducible show wpAny _ _ (subscriptTail (Expr.Tuple _ _ _) (Expr.Name _ _) (Value.ref _) (Value.int _ _)) _ _ _); (refine Stop.out ?_))
    k_here
    k_dflt (refine' law_field_ok (G := fun o => (I, oI) :: (C, oC) :: (D, LCg.lst ys) :: (led ++ (tp, o) :: _)) ?mB lF' ?mX lN' ?mT ?mk ?md (fun o => .tail (Ne.symm hxt.1) (.tail (Ne.symm hxt.2.1) (.tail (Ne.symm hxt.2.2) (upd_app (.head hoffT) fun p hp => Nat.ne_of_gt (hled p hp))))) (fun o => .tail _ (.tail _ (.tail _ (List.mem_append_right _ (.tail _ (.head _)))))) hin hne9 hnl9 ?h0 ?h1 ?_; (case mB => k_asm); (case mX => k_asm); (case mT => k_asm); (case mk => exact rfl); (case md => ktr_room); (case h0 => omega); (case h1 => omega))
    intro T ln oc t1 t2 at2 ta2 h' tk' F' N' lT hat1 hat2 hLF
    clear lF' lN'
    k_steps
    have htT : @LT.lt Nat _ tp T := lT _ (.tail _ (.tail _ (.tail _ (List.mem_append_right _ (.head _)))))
    refine fields_end (by k_asm) (by k_asm) off3 lT ⟨(T, _) :: led, fs ++ [(ln, oc)], at2, ta2, rfl, ?_, (hfs.mono fun p hp => .tail _ hp).snoc ⟨T, t1, t2, rfl, .head _⟩, ?_, by omega, by omega, by rw [List.length_append, hlen]; rfl⟩
    · intro p hp
      rcases List.mem_cons.mp hp with rfl | hp
      · exact htT
      · exact hled p hp
    · intro f hf
      rcases List.mem_append.mp hf with hf | hf
      · exact hff f hf
      · rw [List.mem_singleton.mp hf]; exact hLF
  · clear lF' lF2 lN2 lR'
    obtain ⟨led, fs, at1, ta1, rfl, hled, hfs, hff, hb1, hb2, hlen⟩ := hJ
    have hledn : ∀ p ∈ led, p.1 ≠ tp := fun p hp => Nat.ne_of_gt (hled p hp)
    subst hm
    (try dsimp only [List.cons_append, List.nil_append])
    (try k_unmd)
    (try k_fold)
    have hfl := fields_flat hff
    have hyl : ys.length = fs.length := hfs.length
    k_lt la1
    k_with "eval ListComp" => (refine Stop.out ?_)
    k_steps
    refine Stop.go ?_
    rename Fr _ _ _ _ => lF'
    rename News _ _ _ _ => lN'
    refine comp_evalF lF' (by with_unfolding_all rfl) (by decide) (by rfl) (by decide) ?_
    k_with_none
    k_with "eval Name" => (k_here; k_dflt (refine' nameX_C ?q953N ?q481c ?q702m ?q834d ?_ ?q805a ?q365b; (case q805a => rfl); (case q365b => rfl); (case q953N => k_asm); (case q481c => rfl); (case q702m => k_mem); (case q834d => assumption); k_whole))
    k_with "binaryOp Add bytes bytes" => (k_here; (with_reducible show wpAny _ _ (binaryOp Operator.Add (Value.bytes (List.toArray _) _) (Value.bytes (List.toArray _) _)) _ _ _); k_dflt (refine' bytes_add_K ?q530z rfl ?_; (case q530z => refine add_room ?_ ?_ <;> first | omega | exact Nat.le_trans (cut_len_le _ _ _) (by omega) | (simp only [List.length_append, List.length_cons, List.length_nil]; omega)); k_whole); intro _ _)
    k_with "call ref" => (k_here; (with_reducible show wpAny _ _ (call (Value.ref 689) _ _) _ _ _); k_dflt (refine' law_draw_ok ?mB ?mF ?mX ?mN ?mT ?mk ?md ?q228htp ?q891hc ?q215hi ?q198hne ?q668hnl ?q485h0 ?q519h1 ?q227hm0 ?q851hm1 ?q398U ?q609hmem ?_; kbo_bools; (case q228htp => tb_rel); (case q891hc => tb_rel); (case q215hi => exact hin); (case q198hne => exact hne9); (case q668hnl => exact hnl9); (case q485h0 => omega); (case q519h1 => omega); (case q227hm0 => omega); (case q851hm1 => omega); (case q398U => tb_rel); (case q609hmem => intro tk9; tb_rel); k_whole); intro vd tvd tkd hd' tkd' F' N' hv0' hv1'; kct_strs)
    k_with "subscriptTail" => (k_here; (with_reducible show wpAny _ _ (subscriptTail _ _ (Value.ref _) (Value.int _ _)) _ _ _); (first | (k_dflt (refine' menu_K ?q555F ?q624X ?q64l ?q975b ?q928h0 ?q868h1 ?q587hz ?q212hs ?_; (case q555F => k_asm); (case q624X => k_asm); (case q64l => k_is); (case q975b => repeat constructor); (case q928h0 => omega); (case q868h1 => simp only [List.length_cons, List.length_nil]; omega); (case q587hz => decide); (case q212hs => with_unfolding_all rfl); k_whole)) | (k_dflt (refine' menu_tup ?q268T ?q975b ?q928h0 ?q868h1 ?q587hz ?q212hs ?_; (case q268T => exact News.isTup (by k_asm) List.mem_cons_self); (case q975b => repeat constructor); (case q928h0 => omega); (case q868h1 => simp only [List.length_cons, List.length_nil]; omega); (case q587hz => decide); (case q212hs => with_unfolding_all rfl); k_whole))); intro cm' tm' hcm'; (have hcl' := menu_len hcm' (by decide)))
    k_with "getMethod bytes" => (k_here; (with_reducible first | refine meth_join ?_ | refine meth_dec ?_))
    k_with "call builtin:bytes.join" => (k_here; (refine' join_K ?q894k1 ?q256k2 ?q262k3 ?_; (case q894k1 => exact lst_is (by k_asm) (by k_mem)); (case q256k2 => assumption); (case q262k3 => omega)); intro tj' kj')
    k_with "binaryOp Add bytes bytes" => (k_here; (with_reducible show wpAny _ _ (binaryOp Operator.Add (Value.bytes (List.toArray _) _) (Value.bytes (List.toArray _) _)) _ _ _); k_dflt (refine' bytes_add_K ?q404z rfl ?_; (case q404z => exact add_room (by first | omega | (simp only [List.length_append]; omega)) (by first | omega | (simp only [List.length_append]; omega))); k_whole); intro _ _)
    k_with "subscriptTail" => (k_here; (with_reducible show wpAny _ _ (subscriptTail (Expr.Tuple _ _ _) (Expr.Name _ _) (Value.ref _) (Value.int _ _)) _ _ _); (refine Stop.out ?_))
    k_steps
    refine go_flat2 (fun i zs => BytesAre zs ((fs.take i).map (·.2))) (fun i v1 v2 => ∃ f t1 t2, fs[i]? = some f ∧ v1 = .bytes f.1.toArray t1 ∧ v2 = .bytes f.2.toArray t2) (by rfl) (by rfl) (by decide) (by rfl) (by rfl)
      (src_list (by rfl) lF' lN' (.inr ⟨_, .head _, rfl, _, rfl⟩)) (by rw [sizeLine_eq, List.size_toArray]; omega) (.inr ⟨_, .head _, rfl, _, rfl⟩) .nil ?_
      (fun i v1 v2 zs I oI C oC D m₂ hh tk9 E' hi hV hK hl hC hv1 hv2 F' N' off3 ne3 => ?_) (fun b' hh tk9 zs m' hm F' N' o8 lb1 hK => ?_)
    · intro i v hi hP
      rw [List.getElem?_toArray] at hP
      obtain ⟨f, hf, T3, t1, t2, rfl, hT3⟩ := hfs.get hP
      exact ⟨T3, _, _, _, rfl, .tail _ (List.mem_append_left _ hT3), f, t1, t2, hf, rfl, rfl⟩
    · clear lF' lN'
      obtain ⟨f, t1, t2, hf, rfl, rfl⟩ := hV
      refine wpAny_tests_nil ?_
      simp only [if_true]
      k_steps
      exact flat_end (by k_asm) (by k_asm) (fun _ h => h) off3 ⟨.inr ⟨_, .head _, rfl, _, rfl⟩, fun _ h => h⟩ (by rw [List.take_add_one, hf]; simpa using hK.snoc)
    · clear lF' lN'
      subst hm
      rw [List.size_toArray, hyl, List.take_length] at hK
      have htb : @LT.lt Nat _ tp b' := lb1 _ (.tail _ (List.mem_append_right _ (.head _)))
      (try dsimp only [List.cons_append, List.nil_append])
      (try k_unmd)
      (try k_fold)
      k_with "eval IfExp" => (refine Stop.out ?_)
      k_steps
      refine Stop.go ?_
      rename Fr _ _ _ _ => lF'
      rename News _ _ _ _ => lN'
      rename Int => way
      refine empty_join (W := fun at2 ta2 => (a', LCg.lst ys) :: (led ++ (tp, tapeO ce at2 ta2 0) :: _)) (at1 := at1 + 1) way lF' lN' ?_ (fun v s' hD => ?_)
      · k_with_none
        k_with "eval Name" => (k_here; k_dflt (refine' nameX_C ?q953N ?q481c ?q702m ?q834d ?_ ?q805a ?q365b; (case q805a => rfl); (case q365b => rfl); (case q953N => k_asm); (case q481c => rfl); (case q702m => k_mem); (case q834d => assumption); k_whole))
        k_with "binaryOp Add bytes bytes" => (k_here; (with_reducible show wpAny _ _ (binaryOp Operator.Add (Value.bytes (List.toArray _) _) (Value.bytes (List.toArray _) _)) _ _ _); k_dflt (refine' bytes_add_K ?q530z rfl ?_; (case q530z => refine add_room ?_ ?_ <;> first | omega | exact Nat.le_trans (cut_len_le _ _ _) (by omega) | (simp only [List.length_append, List.length_cons, List.length_nil]; omega)); k_whole); intro _ _)
        k_with "call ref" => (k_here; (with_reducible show wpAny _ _ (call (Value.ref 689) _ _) _ _ _); k_dflt (refine' law_draw_ok ?mB ?mF ?mX ?mN ?mT ?mk ?md ?q228htp ?q891hc ?q215hi ?q198hne ?q668hnl ?q485h0 ?q519h1 ?q227hm0 ?q851hm1 ?q398U ?q609hmem ?_; kbo_bools; (case q228htp => tb_rel); (case q891hc => tb_rel); (case q215hi => exact hin); (case q198hne => exact hne9); (case q668hnl => exact hnl9); (case q485h0 => omega); (case q519h1 => omega); (case q227hm0 => omega); (case q851hm1 => omega); (case q398U => tb_rel); (case q609hmem => intro tk9; tb_rel); k_whole); intro vd tvd tkd hd' tkd' F' N' hv0' hv1'; kct_strs)
        k_with "subscriptTail" => (k_here; (with_reducible show wpAny _ _ (subscriptTail _ _ (Value.ref _) (Value.int _ _)) _ _ _); (first | (k_dflt (refine' menu_K ?q555F ?q624X ?q64l ?q975b ?q928h0 ?q868h1 ?q587hz ?q212hs ?_; (case q555F => k_asm); (case q624X => k_asm); (case q64l => k_is); (case q975b => repeat constructor); (case q928h0 => omega); (case q868h1 => simp only [List.length_cons, List.length_nil]; omega); (case q587hz => decide); (case q212hs => with_unfolding_all rfl); k_whole)) | (k_dflt (refine' menu_tup ?q268T ?q975b ?q928h0 ?q868h1 ?q587hz ?q212hs ?_; (case q268T => exact News.isTup (by k_asm) List.mem_cons_self); (case q975b => repeat constructor); (case q928h0 => omega); (case q868h1 => simp only [List.length_cons, List.length_nil]; omega); (case q587hz => decide); (case q212hs => with_unfolding_all rfl); k_whole))); intro cm' tm' hcm'; (have hcl' := menu_len hcm' (by decide)))
        k_with "getMethod bytes" => (k_here; (with_reducible first | refine meth_join ?_ | refine meth_dec ?_))
        k_with "call builtin:bytes.join" => (k_here; (refine' join_K ?q894k1 ?q256k2 ?q262k3 ?_; (case q894k1 => exact lst_is (by k_asm) (by k_mem)); (case q256k2 => assumption); (case q262k3 => omega)); intro tj' kj')
        k_with "binaryOp Add bytes bytes" => (k_here; (with_reducible show wpAny _ _ (binaryOp Operator.Add (Value.bytes (List.toArray _) _) (Value.bytes (List.toArray _) _)) _ _ _); k_dflt (refine' bytes_add_K ?q404z rfl ?_; (case q404z => exact add_room (by first | omega | (simp only [List.length_append]; omega)) (by first | omega | (simp only [List.length_append]; omega))); k_whole); intro _ _)
        k_with "subscriptTail" => (k_here; (with_reducible show wpAny _ _ (subscriptTail (Expr.Tuple _ _ _) (Expr.Name _ _) (Value.ref _) (Value.int _ _)) _ _ _); (refine Stop.out ?_))
        k_steps
        · rename _ ∈ [[13, 10], [10]] => hme
          rename Fr _ _ _ _ => lF3
          rename News _ _ _ _ => lN3
          exact empty_a (at2 := at1 + 1 + 1) lF3 lN3 (by omega) (by omega) (.inl ⟨by assumption, hme⟩)
        · exact empty_a (e := []) (at2 := at1 + 1) lF' lN' (by omega) (by omega) (.inr ⟨by assumption, rfl⟩)
      · clear lF' lN'
        obtain ⟨e, te, at2, ta2, hx2, tkx2, rfl, rfl, F', N', hb3, hb4, hWE⟩ := hD
        dsimp only at N'
        have hel := empty_len hWE
        k_steps
        refine Stop.go ?_
        rename News _ _ _ _ => lN'
        refine' text_way hv0' hv1' hWE ?tT ?tb ?ts (fun c tc hEnds hcl => ?_)
        case tT => exact News.isTup lN' (.head _)
        case tb => exact .cons textA _ (.cons [] _ (.cons textC _ (.cons [] _ .nil)))
        case ts => with_unfolding_all rfl
        have N'' := newsT lN'
        clear lN'
        obtain ⟨rs1, hs1, hp1⟩ := law_spans (xs := flatF fs ++ e ++ c) hff hEnds rfl
        have hplain := plain_of hs1 hp1
        have hfl2 : (List.map (fun x => x.2) fs).flatten.length ≤ 1400 := by omega
        have hcuts := cuts_of (xs := flatF fs ++ e ++ c) rfl
        k_with "call ref" => (refine Stop.out ?_)
        k_steps
        refine Stop.go ?_
        k_here
        k_dflt (refine' read_message_ok ?mB ?mF ?mX ?mN ?mT ?mk ?md ?mh0 ?mh1 ?_)
        case mB => k_asm
        case mF => k_asm
        case mX => k_asm
        case mN => k_asm
        case mT => k_asm
        case mk => first | exact rfl | assumption
        case mh0 => (simp only [List.length_append]; omega)
        case mh1 => exact hplain
        case md => ktr_room
        intro xq ledq hq' tkq' F' N' hPq hoq
        rw [hs1] at hPq
        dsimp only at hPq
        have hPo := id hPq
        have hlt : ∀ q ∈ ledq, @LT.lt Nat _ tp q.1 := fun q hq => hoq q hq (tp, _) (.tail _ (List.mem_append_right _ (.head _)))
        obtain ⟨base, N'', hbq, hbl, hbce, hbc1, hba, hbt, hbc, htc⟩ := law_base N' hlt hled (by omega) hct hc2t hc1t d1 d2 (fun h => nomatch h)
        have hPB := hPo.mono hbq
        have hFB := hfs.mono hbl
        clear N' hPo hPq hlt hoq hbq hbl hfs hs1 hp1 hplain rs1 hcuts o9 o8 hledn hK lb1
        obtain ⟨xs, hxs⟩ : ∃ xs, xs = (List.map (fun x => x.2) fs).flatten ++ e ++ c := ⟨_, rfl⟩
        rw [← hxs] at F' hPB
        have hcuts : Cuts xs (flatF fs) e c := cuts_of hxs
        have hxl : xs.length ≤ 1500 := by rw [hxs]; simp only [List.length_append]; omega
        have hel0 : ((flatF fs).length + e.length : Nat) ≤ xs.length := by rw [hxs, List.length_append, List.length_append]; exact Nat.le_add_right _ _
        obtain ⟨dxq, lxq, kdq, kidsq, encq, tbq, tboq, teq, a1, a2, a3, a4, a5, a6, a7, a8, hq1, hq2, hq3⟩ := id hPB
        k_with_none
        k_with "subscriptTail" => (k_here; (with_reducible show wpAny _ _ (subscriptTail _ (Expr.Slice _ _ none _) (Value.bytes (List.toArray _) _) (Value.ref _)) _ _ _); (with_reducible rename Fr _ _ _ _ => F'); (with_reducible rename News _ _ _ _ => N'); (first | refine slice_ij (s := ⟨_, _, _, _, _⟩) F' N' (by omega) (by omega) (by omega) ?_ | refine slice_0j (s := ⟨_, _, _, _, _⟩) F' N' (by omega) (by omega) ?_); intro h' _ _ F' N'; (try k_sweep))
        k_with "binaryOp Add bytes bytes" => (k_here; (with_reducible show wpAny _ _ (binaryOp Operator.Add (Value.bytes (List.toArray _) _) (Value.bytes (List.toArray _) _)) _ _ _); k_dflt (refine' bytes_add_K ?q530z rfl ?_; (case q530z => refine add_room ?_ ?_ <;> first | omega | exact Nat.le_trans (cut_len_le _ _ _) (by omega) | (simp only [List.length_append, List.length_cons, List.length_nil]; omega)); k_whole); intro _ _)
        k_with "compareOp NotEq bytes bytes" => (k_here; (refine ne_same ?q73hb9 ?_; (case q73hb9 => first | rfl | exact cut_head hcuts | exact cut_text hcuts | assumption)))
        k_with "binaryOp Add bytes bytes" => (k_here; (with_reducible show wpAny _ _ (binaryOp Operator.Add (Value.bytes (List.toArray _) _) (Value.bytes (List.toArray _) _)) _ _ _); k_dflt (refine' bytes_add_K ?q404z rfl ?_; (case q404z => exact add_room (by first | omega | (simp only [List.length_append]; omega)) (by first | omega | (simp only [List.length_append]; omega))); k_whole); intro _ _)
        k_with "exec Assign cons ListComp" => (refine Stop.out ?_)
        k_steps
        refine Stop.go ?_
        rename Fr _ _ _ _ => lF'
        rename News _ _ _ _ => lN'
        refine comp_assignF lF' (by rfl) (by with_unfolding_all rfl) (by with_unfolding_all rfl) (by decide) (by rfl) (by decide) (by rfl) (by rfl) ?_
        k_with_none
        k_with "eval Name" => (k_here; k_dflt (refine' nameX_C ?q953N ?q481c ?q702m ?q834d ?_ ?q805a ?q365b; (case q805a => rfl); (case q365b => rfl); (case q953N => k_asm); (case q481c => rfl); (case q702m => k_mem); (case q834d => assumption); k_whole))
        k_with "call ref" => (k_here; (with_reducible show wpAny _ _ (call (Value.ref 689) _ _) _ _ _); k_dflt (refine' law_draw_ok ?mB ?mF ?mX ?mN ?mT ?mk ?md ?q228htp ?q891hc ?q215hi ?q198hne ?q668hnl ?q485h0 ?q519h1 ?q227hm0 ?q851hm1 ?q398U ?q609hmem ?_; kbo_bools; (case q228htp => tb_rel); (case q891hc => tb_rel); (case q215hi => exact hin); (case q198hne => exact hne9); (case q668hnl => exact hnl9); (case q485h0 => omega); (case q519h1 => omega); (case q227hm0 => omega); (case q851hm1 => omega); (case q398U => tb_rel); (case q609hmem => intro tk9; tb_rel); k_whole); intro vd tvd tkd hd' tkd' F' N' hv0' hv1'; kct_strs)
        k_with "subscriptTail" => (k_here; (with_reducible show wpAny _ _ (subscriptTail _ _ (Value.ref _) (Value.int _ _)) _ _ _); (first | (k_dflt (refine' menu_K ?q555F ?q624X ?q64l ?q975b ?q928h0 ?q868h1 ?q587hz ?q212hs ?_; (case q555F => k_asm); (case q624X => k_asm); (case q64l => k_is); (case q975b => repeat constructor); (case q928h0 => omega); (case q868h1 => simp only [List.length_cons, List.length_nil]; omega); (case q587hz => decide); (case q212hs => with_unfolding_all rfl); k_whole)) | (k_dflt (refine' menu_tup ?q268T ?q975b ?q928h0 ?q868h1 ?q587hz ?q212hs ?_; (case q268T => exact News.isTup (by k_asm) List.mem_cons_self); (case q975b => repeat constructor); (case q928h0 => omega); (case q868h1 => simp only [List.length_cons, List.length_nil]; omega); (case q587hz => decide); (case q212hs => with_unfolding_all rfl); k_whole))); intro cm' tm' hcm'; (have hcl' := menu_len hcm' (by decide)))
        k_with "getMethod bytes" => (k_here; (with_reducible first | refine meth_join ?_ | refine meth_dec ?_))
        k_steps
        rename IsRange _ _ _ _ _ _ _ _ => lR'
        rename Fr _ _ _ _ => lF2
        rename News _ _ _ _ => lN2
        rename Int => vr
        obtain ⟨n3, hn3⟩ : ∃ n3 : Nat, 1 + vr = (n3 : Int) := ⟨(1 + vr).toNat, by omega⟩
        rw [hn3] at lR'
        refine go_led (fun i ys nw => ∃ ws at3 ta3, nw = (tp, tapeO ce at3 ta3 0) :: (_, o2) :: base ∧ StrsAre ys (ws.map sOf) ∧ (∀ x ∈ ws, x ∈ wantB) ∧ at2 + 1 ≤ at3 ∧ at3 ≤ at2 + 1 + (i : Int) ∧ ws.length = i) (by rfl) (by rfl) (src_range (by rfl) lF2 lN2 lR' (range_small _ (by omega)) (range_size _)) (by rw [sizeLine_eq]; omega) ⟨[], _, _, rfl, .nil, (fun _ h => nomatch h), by omega, by omega, rfl⟩
          (fun i v ys2 nw I oI C oC D m₂ hh tk9 E' hi hP hJ hl hC hv F' N' off3 ne3 => ?_) (fun w' hh tk9 ys2 nw m' hm F' N' o9 lw1 hJ => ?_)
        · clear lF' lF2 lN2 lR'
          obtain ⟨ws, at3, ta3, rfl, hws, hwB, hb5, hb6, hwl⟩ := hJ
          obtain ⟨hxI, hxC, hxD⟩ := off3.mem (tp, tapeO ce at3 ta3 0) (.head _)
          k_with_none
          k_with "eval Name" => (k_here; k_dflt (refine' nameX_C ?q953N ?q481c ?q702m ?q834d ?_ ?q805a ?q365b; (case q805a => rfl); (case q365b => rfl); (case q953N => k_asm); (case q481c => rfl); (case q702m => k_mem); (case q834d => assumption); k_whole))
          k_with "call ref" => (k_here; (with_reducible show wpAny _ _ (call (Value.ref 689) _ _) _ _ _); k_dflt (refine' law_draw_ok ?mB ?mF ?mX ?mN ?mT ?mk ?md ?q228htp ?q891hc ?q215hi ?q198hne ?q668hnl ?q485h0 ?q519h1 ?q227hm0 ?q851hm1 ?q398U ?q609hmem ?_; kbo_bools; (case q228htp => tb_rel); (case q891hc => tb_rel); (case q215hi => exact hin); (case q198hne => exact hne9); (case q668hnl => exact hnl9); (case q485h0 => omega); (case q519h1 => omega); (case q227hm0 => omega); (case q851hm1 => omega); (case q398U => tb_rel); (case q609hmem => intro tk9; tb_rel); k_whole); intro vd tvd tkd hd' tkd' F' N' hv0' hv1'; kct_strs)
          k_with "subscriptTail" => (k_here; (with_reducible show wpAny _ _ (subscriptTail _ _ (Value.ref _) (Value.int _ _)) _ _ _); (first | (k_dflt (refine' menu_K ?q555F ?q624X ?q64l ?q975b ?q928h0 ?q868h1 ?q587hz ?q212hs ?_; (case q555F => k_asm); (case q624X => k_asm); (case q64l => k_is); (case q975b => repeat constructor); (case q928h0 => omega); (case q868h1 => simp only [List.length_cons, List.length_nil]; omega); (case q587hz => decide); (case q212hs => with_unfolding_all rfl); k_whole)) | (k_dflt (refine' menu_tup ?q268T ?q975b ?q928h0 ?q868h1 ?q587hz ?q212hs ?_; (case q268T => exact News.isTup (by k_asm) List.mem_cons_self); (case q975b => repeat constructor); (case q928h0 => omega); (case q868h1 => simp only [List.length_cons, List.length_nil]; omega); (case q587hz => decide); (case q212hs => with_unfolding_all rfl); k_whole))); intro cm' tm' hcm'; (have hcl' := menu_len hcm' (by decide)))
          k_with "getMethod bytes" => (k_here; (with_reducible first | refine meth_join ?_ | refine meth_dec ?_))
          k_with "call builtin:bytes.decode" => (refine Stop.out ?_)
          k_steps
          refine Stop.go ?_
          rename List UInt8 => cm
          rename _ ∈ [[84, 79], [102, 114, 111, 109], [120, 45, 65], [115, 117, 98, 106, 101, 99], []] => hcw
          k_here
          refine dec_K hcw ?_
          intro td' kd'
          k_with_none
          k_with "eval Name" => (k_here; k_dflt (refine' nameX_C ?q953N ?q481c ?q702m ?q834d ?_ ?q805a ?q365b; (case q805a => rfl); (case q365b => rfl); (case q953N => k_asm); (case q481c => rfl); (case q702m => k_mem); (case q834d => assumption); k_whole))
          k_with "call ref" => (k_here; (with_reducible show wpAny _ _ (call (Value.ref 689) _ _) _ _ _); k_dflt (refine' law_draw_ok ?mB ?mF ?mX ?mN ?mT ?mk ?md ?q228htp ?q891hc ?q215hi ?q198hne ?q668hnl ?q485h0 ?q519h1 ?q227hm0 ?q851hm1 ?q398U ?q609hmem ?_; kbo_bools; (case q228htp => tb_rel); (case q891hc => tb_rel); (case q215hi => exact hin); (case q198hne => exact hne9); (case q668hnl => exact hnl9); (case q485h0 => omega); (case q519h1 => omega); (case q227hm0 => omega); (case q851hm1 => omega); (case q398U => tb_rel); (case q609hmem => intro tk9; tb_rel); k_whole); intro vd tvd tkd hd' tkd' F' N' hv0' hv1'; kct_strs)
          k_with "subscriptTail" => (k_here; (with_reducible show wpAny _ _ (subscriptTail _ _ (Value.ref _) (Value.int _ _)) _ _ _); (first | (k_dflt (refine' menu_K ?q555F ?q624X ?q64l ?q975b ?q928h0 ?q868h1 ?q587hz ?q212hs ?_; (case q555F => k_asm); (case q624X => k_asm); (case q64l => k_is); (case q975b => repeat constructor); (case q928h0 => omega); (case q868h1 => simp only [List.length_cons, List.length_nil]; omega); (case q587hz => decide); (case q212hs => with_unfolding_all rfl); k_whole)) | (k_dflt (refine' menu_tup ?q268T ?q975b ?q928h0 ?q868h1 ?q587hz ?q212hs ?_; (case q268T => exact News.isTup (by k_asm) List.mem_cons_self); (case q975b => repeat constructor); (case q928h0 => omega); (case q868h1 => simp only [List.length_cons, List.length_nil]; omega); (case q587hz => decide); (case q212hs => with_unfolding_all rfl); k_whole))); intro cm' tm' hcm'; (have hcl' := menu_len hcm' (by decide)))
          k_with "getMethod bytes" => (k_here; (with_reducible first | refine meth_join ?_ | refine meth_dec ?_))
          k_steps
          refine want_end (by k_asm) (by k_asm) off3 ⟨ws ++ [cm], _, _, rfl, ?_, ?_, by omega, by omega, by rw [List.length_append, hwl]; rfl⟩
          · rw [List.map_append]; exact strs_snoc hws
          · intro x hx
            rcases List.mem_append.mp hx with hx | hx
            · exact hwB x hx
            · rw [List.mem_singleton.mp hx]; exact hcw
        · clear lF' lF2 lN2 lR'
          obtain ⟨ws, at3, ta3, rfl, hws, hwB, hb5, hb6, hwl⟩ := hJ
          subst hm
          have hyl2 := strs_len hws
          k_lt lw1
          clear o9
          (try dsimp only [List.cons_append, List.nil_append])
          (try k_unmd)
          (try k_fold)
          k_with_none
          k_with "eval Name" => (k_here; k_dflt (refine' nameX_C ?q953N ?q481c ?q702m ?q834d ?_ ?q805a ?q365b; (case q805a => rfl); (case q365b => rfl); (case q953N => k_asm); (case q481c => rfl); (case q702m => k_mem); (case q834d => assumption); k_whole))
          k_with "call ref" => (k_here; (with_reducible show wpAny _ _ (call (Value.ref 689) _ _) _ _ _); k_dflt (refine' law_draw_ok ?mB ?mF ?mX ?mN ?mT ?mk ?md ?q228htp ?q891hc ?q215hi ?q198hne ?q668hnl ?q485h0 ?q519h1 ?q227hm0 ?q851hm1 ?q398U ?q609hmem ?_; kbo_bools; (case q228htp => tb_rel); (case q891hc => tb_rel); (case q215hi => exact hin); (case q198hne => exact hne9); (case q668hnl => exact hnl9); (case q485h0 => omega); (case q519h1 => omega); (case q227hm0 => omega); (case q851hm1 => omega); (case q398U => tb_rel); (case q609hmem => intro tk9; tb_rel); k_whole); intro vd tvd tkd hd' tkd' F' N' hv0' hv1'; kct_strs)
          k_with "subscriptTail" => (k_here; (with_reducible show wpAny _ _ (subscriptTail _ _ (Value.ref _) (Value.int _ _)) _ _ _); (first | (k_dflt (refine' menu_K ?q555F ?q624X ?q64l ?q975b ?q928h0 ?q868h1 ?q587hz ?q212hs ?_; (case q555F => k_asm); (case q624X => k_asm); (case q64l => k_is); (case q975b => repeat constructor); (case q928h0 => omega); (case q868h1 => simp only [List.length_cons, List.length_nil]; omega); (case q587hz => decide); (case q212hs => with_unfolding_all rfl); k_whole)) | (k_dflt (refine' menu_tup ?q268T ?q975b ?q928h0 ?q868h1 ?q587hz ?q212hs ?_; (case q268T => exact News.isTup (by k_asm) List.mem_cons_self); (case q975b => repeat constructor); (case q928h0 => omega); (case q868h1 => simp only [List.length_cons, List.length_nil]; omega); (case q587hz => decide); (case q212hs => with_unfolding_all rfl); k_whole))); intro cm' tm' hcm'; (have hcl' := menu_len hcm' (by decide)))
          k_with "getMethod bytes" => (k_here; (with_reducible first | refine meth_join ?_ | refine meth_dec ?_))
          k_with "exec Assign cons ListComp" => (refine Stop.out ?_)
          k_steps
          refine Stop.go ?_
          rename Fr _ _ _ _ => lF'
          rename News _ _ _ _ => lN'
          refine wpAny_Assign_Name ?_ (by with_unfolding_all rfl)
          refine comp_evalF lF' (by with_unfolding_all rfl) (by decide) (by rfl) (by decide) ?_
          k_with_none
          k_with "getMethod bytes" => (k_here; (with_reducible first | refine meth_join ?_ | refine meth_dec ?_))
          k_steps
          refine go_flat0 (fun i zs => BytesAre zs ((ws.take i).map (·.map lowB))) (by rfl) (by rfl) (src_list (by rfl) lF' lN' (.inr ⟨_, .head _, rfl, _, rfl⟩)) (by rw [sizeLine_eq, List.size_toArray]; omega) (.inr ⟨_, .head _, rfl, _, rfl⟩) .nil (fun i v zs2 I oI C oC D m₂ hh tk9 E' hi hP hK2 hl hC hv F' N' off3 ne3 => ?_) (fun sm hh tk9 zs2 m' hm F' N' o8 ls1 hK2 => ?_)
          · clear lF' lN'
            rw [List.getElem?_toArray] at hP
            obtain ⟨n, tn, hn, rfl⟩ := strs_get hws hP
            have hnB := hwB n (List.mem_of_getElem? hn)
            k_with_none
            k_with "getMethod bytes" => (k_here; (with_reducible first | refine meth_join ?_ | refine meth_dec ?_))
            k_with "call builtin:str.lower" => (k_here; refine low_K (by assumption) ?_; intro _ _)
            k_with "call builtin:str.encode" => (k_here; refine enc_K (by assumption) ?_; intro _ _)
            k_with "getMethod str" => (k_here; with_reducible refine meth_enc ?_)
            k_steps
            exact flat_end (by k_asm) (by k_asm) (fun _ h => h) off3 (.inr ⟨_, .head _, rfl, _, rfl⟩) (by rw [List.take_add_one, hn]; simpa using hK2.snoc)
          · clear lF' lN'
            subst hm
            rw [List.size_toArray, hyl2, List.take_length] at hK2
            k_lt ls1
            clear o8
            (try dsimp only [List.cons_append, List.nil_append])
            (try k_unmd)
            (try k_fold)
            k_with_none
            k_with "getMethod bytes" => (k_here; (with_reducible first | refine meth_join ?_ | refine meth_dec ?_))
            k_with "eval ListComp" => (refine Stop.out ?_)
            k_steps
            refine Stop.go ?_
            rename Fr _ _ _ _ => lF'
            rename News _ _ _ _ => lN9
            rename _ = Data.cell (some (Value.ref sm)) => d3
            obtain ⟨b2, lN', hbsm, hbw, hbc2, hbs, hb2t⟩ := base_pack lN9 hbt (Nat.ne_of_gt (by dsimp only; omega)) (Nat.ne_of_gt (by dsimp only; omega))
            have hba := hbs _ hba
            have hbce := hbs _ hbce
            have hbc1 := hbs _ hbc1
            have hPB := hPB.mono hbs
            have hFB := hFB.mono hbs
            have hq1 := hbs _ hq1
            have hq2 := hbs _ hq2
            have hq3 := hbs _ hq3
            clear lN9 hbs hbt hbc htc ls1 lw1
            refine comp_evalF lF' (by with_unfolding_all rfl) (by decide) (by rfl) (by decide) ?_
            k_with_none
            k_with "getMethod bytes" => (k_here; (with_reducible first | refine meth_join ?_ | refine meth_dec ?_))
            k_with "call builtin:bytes.join" => (k_here; (refine' join_K ?q894k1 ?q256k2 ?q262k3 ?_; (case q894k1 => exact lst_is (by k_asm) (by k_mem)); (case q256k2 => assumption); (case q262k3 => omega)); intro tj' kj')
            k_steps
            refine go_flat2 (fun i zs => BytesAre zs (((fs.take i).filter fun f => ((ws.map (·.map lowB)).any (· == f.1)) != false).map (·.2))) (fun i v1 v2 => ∃ f t1 t2, fs[i]? = some f ∧ v1 = .bytes f.1.toArray t1 ∧ v2 = .bytes f.2.toArray t2) (by rfl) (by rfl) (by decide) (by rfl) (by rfl)
              (src_list (by rfl) lF' lN' (.inr ⟨_, .tail _ hba, rfl, _, rfl⟩)) (by rw [sizeLine_eq, List.size_toArray]; omega) (.inr ⟨_, .tail _ hba, rfl, _, rfl⟩) .nil ?_
              (fun i v1 v2 zs I oI C oC D m₂ hh tk9 E' hi hV hK hl hC hv1 hv2 F' N' off3 ne3 => ?_) (fun JL hh tk9 zs m' hm F' N' o8 lj1 hK => ?_)
            · intro i v hi hP
              rw [List.getElem?_toArray] at hP
              obtain ⟨f, hf, T3, t1, t2, rfl, hT3⟩ := hFB.get hP
              exact ⟨T3, _, _, _, rfl, .tail _ hT3, f, t1, t2, hf, rfl, rfl⟩
            · clear lF' lN'
              obtain ⟨f, t1, t2, hf, rfl, rfl⟩ := hV
              refine wpAny_tests_one ?_
              k_with_none
              k_with "getMethod bytes" => (k_here; (with_reducible first | refine meth_join ?_ | refine meth_dec ?_))
              k_with "call builtin:bytes.join" => (k_here; (refine' join_K ?q894k1 ?q256k2 ?q262k3 ?_; (case q894k1 => exact lst_is (by k_asm) (by k_mem)); (case q256k2 => assumption); (case q262k3 => omega)); intro tj' kj')
              k_with "compareOp In bytes ref" => (k_here; refine in_bytes (lst_is (by k_asm) (by k_mem)) hK2 ?_)
              k_steps
              · rename _ = true => hyes
                refine flat_end (by k_asm) (by k_asm) (fun _ h => h) off3 ⟨.inr ⟨_, .tail _ hba, rfl, _, rfl⟩, fun _ h => h⟩ ?_
                rw [filt_take hf, if_pos (by rw [hyes]; rfl)]
                exact hK.snoc
              · rename _ = false => hno
                refine flat_end (by k_asm) (by k_asm) (fun _ h => h) off3 ⟨.inr ⟨_, .tail _ hba, rfl, _, rfl⟩, fun _ h => h⟩ ?_
                rw [filt_take hf, if_neg (by rw [hno]; decide), List.append_nil]
                exact hK
            · clear lF' lN'
              subst hm
              rw [List.size_toArray, hyl, List.take_length] at hK
              have hfn := filt_len (fun f => ((ws.map (·.map lowB)).any (· == f.1)) != false) fs
              k_lt lj1
              clear o8
              (try dsimp only [List.cons_append, List.nil_append])
              (try k_unmd)
              (try k_fold)
              k_with_none
              k_with "getMethod bytes" => (k_here; (with_reducible first | refine meth_join ?_ | refine meth_dec ?_))
              k_with "call builtin:bytes.join" => (k_here; (refine' join_K ?q894k1 ?q256k2 ?q262k3 ?_; (case q894k1 => exact lst_is (by k_asm) (by k_mem)); (case q256k2 => assumption); (case q262k3 => omega)); intro tj' kj')
              k_with "eval ListComp" => (refine Stop.out ?_)
              k_steps
              refine Stop.go ?_
              rename Fr _ _ _ _ => lF'
              rename News _ _ _ _ => lN9
              have lN' := newsT lN9
              clear lN9
              refine comp_evalF lF' (by with_unfolding_all rfl) (by decide) (by rfl) (by decide) ?_
              k_with_none
              k_with "call builtin:bytes.join" => (k_here; (refine' join_K ?q894k1 ?q256k2 ?q262k3 ?_; (case q894k1 => exact lst_is (by k_asm) (by k_mem)); (case q256k2 => assumption); (case q262k3 => omega)); intro tj' kj')
              k_steps
              refine go_flat2 (fun i zs => BytesAre zs (((fs.take i).filter fun f => ((ws.map (·.map lowB)).any (· == f.1)) != true).map (·.2))) (fun i v1 v2 => ∃ f t1 t2, fs[i]? = some f ∧ v1 = .bytes f.1.toArray t1 ∧ v2 = .bytes f.2.toArray t2) (by rfl) (by rfl) (by decide) (by rfl) (by rfl)
                (src_list (by rfl) lF' lN' (.inr ⟨_, .tail _ hba, rfl, _, rfl⟩)) (by rw [sizeLine_eq, List.size_toArray]; omega) (.inr ⟨_, .tail _ hba, rfl, _, rfl⟩) .nil ?_
                (fun i v1 v2 zs3 I oI C oC D m₂ hh tk9 E' hi hV hK3 hl hC hv1 hv2 F' N' off3 ne3 => ?_) (fun JM hh tk9 zs3 m' hm F' N' o8 lj2 hK3 => ?_)
              · intro i v hi hP
                rw [List.getElem?_toArray] at hP
                obtain ⟨f, hf, T3, t1, t2, rfl, hT3⟩ := hFB.get hP
                exact ⟨T3, _, _, _, rfl, .tail _ hT3, f, t1, t2, hf, rfl, rfl⟩
              · clear lF' lN'
                obtain ⟨f, t1, t2, hf, rfl, rfl⟩ := hV
                refine wpAny_tests_one ?_
                k_with_none
                k_with "call builtin:bytes.join" => (k_here; (refine' join_K ?q894k1 ?q256k2 ?q262k3 ?_; (case q894k1 => exact lst_is (by k_asm) (by k_mem)); (case q256k2 => assumption); (case q262k3 => omega)); intro tj' kj')
                k_with "compareOp NotIn bytes ref" => (k_here; refine notin_bytes (lst_is (by k_asm) (by k_mem)) hK2 ?_)
                k_steps
                · rename _ = true => hyes
                  refine flat_end (by k_asm) (by k_asm) (fun _ h => h) off3 ⟨.inr ⟨_, .tail _ hba, rfl, _, rfl⟩, fun _ h => h⟩ ?_
                  rw [filt_take hf, if_neg (by rw [hyes]; decide), List.append_nil]
                  exact hK3
                · rename _ = false => hno
                  refine flat_end (by k_asm) (by k_asm) (fun _ h => h) off3 ⟨.inr ⟨_, .tail _ hba, rfl, _, rfl⟩, fun _ h => h⟩ ?_
                  rw [filt_take hf, if_pos (by rw [hno]; rfl)]
                  exact hK3.snoc
              · clear lF' lN'
                subst hm
                rw [List.size_toArray, hyl, List.take_length] at hK3
                have hfm := filt_len (fun f => ((ws.map (·.map lowB)).any (· == f.1)) != true) fs
                k_lt lj2
                clear o8
                (try dsimp only [List.cons_append, List.nil_append])
                (try k_unmd)
                (try k_fold)
                k_with_none
                k_with "call builtin:bytes.join" => (k_here; (refine' join_K ?q894k1 ?q256k2 ?q262k3 ?_; (case q894k1 => exact lst_is (by k_asm) (by k_mem)); (case q256k2 => assumption); (case q262k3 => omega)); intro tj' kj')
                k_with "call ref" => (refine Stop.out ?_)
                k_steps
                refine Stop.go ?_
                rename Fr _ _ _ _ => lF'
                rename News _ _ _ _ => lN9
                have lN' := newsT lN9
                clear lN9
                have hns := strs_len hws
                have hNA : NamesAt ((tp, tapeO ce at3 ta3 0) :: b2) w' ys2 := .inl ⟨_, .tail _ hbw⟩
                have hnn9 : ∀ n ∈ ws, n.length < 1048576 := fun n hn => wantB_len (hwB n hn)
                have hfd := law_found (wl := ws.map (·.map lowB)) (neg := false) hff hEnds hxs
                have hfe := law_found (wl := ws.map (·.map lowB)) (neg := true) hff hEnds hxs
                k_here
                k_dflt (refine' header_octets_ok ?mB lF' ?mX lN' ?mT ?mk ?md ?mu ?m3 ?m0 ?m1 ?m2 (hPB.mono fun p hp => .tail _ hp) hNA hws ?mv hnn9 ?_; (case mB => k_asm); (case mX => k_asm); (case mT => k_asm); (case mk => exact rfl); (case md => ktr_room); (case mu => units_room); (case m3 => omega); (case m0 => omega); (case m1 => omega); (case m2 => omega); (case mv => omega))
                intro th' hh' tkh' F' N'
                clear lF' lN'
                (try dsimp only)
                (try k_fold)
                k_with_none
                k_with "eval Name" => (k_here; k_dflt (refine' nameX_C ?q953N ?q481c ?q702m ?q834d ?_ ?q805a ?q365b; (case q805a => rfl); (case q365b => rfl); (case q953N => k_asm); (case q481c => rfl); (case q702m => k_mem); (case q834d => assumption); k_whole))
                k_with "binaryOp Add bytes bytes" => (k_here; (with_reducible show wpAny _ _ (binaryOp Operator.Add (Value.bytes (List.toArray _) _) (Value.bytes (List.toArray _) _)) _ _ _); k_dflt (refine' bytes_add_K ?q530z rfl ?_; (case q530z => refine add_room ?_ ?_ <;> first | omega | exact Nat.le_trans (cut_len_le _ _ _) (by omega) | (simp only [List.length_append, List.length_cons, List.length_nil]; omega)); k_whole); intro _ _)
                k_with "call ref" => (k_here; (with_reducible show wpAny _ _ (call (Value.ref 652) _ _) _ _ _); k_dflt (refine' header_octets_ok ?mB ?mF ?mX ?mN ?mT ?mk ?md ?mh0 ?mh1 ?mh2 ?mh3 ?mh4 ?mh5 ?mh6 ?mh7 ?mh8 ?mh9 ?_; kbo_bools; (case mh5 => kba_ints); (case mh6 => kba_ints); (case mh0 => kln_le); (case mh1 => omega); (case mh2 => omega); (case mh3 => omega); (case mh4 => omega); (case mh7 => assumption); (case mh8 => omega); (case mh9 => assumption); k_whole); intro th' hh' tkh' F' N'; kct_strs)
                k_with "call ref" => (k_here; (with_reducible show wpAny _ _ (call (Value.ref 689) _ _) _ _ _); k_dflt (refine' law_draw_ok ?mB ?mF ?mX ?mN ?mT ?mk ?md ?q228htp ?q891hc ?q215hi ?q198hne ?q668hnl ?q485h0 ?q519h1 ?q227hm0 ?q851hm1 ?q398U ?q609hmem ?_; kbo_bools; (case q228htp => tb_rel); (case q891hc => tb_rel); (case q215hi => exact hin); (case q198hne => exact hne9); (case q668hnl => exact hnl9); (case q485h0 => omega); (case q519h1 => omega); (case q227hm0 => omega); (case q851hm1 => omega); (case q398U => tb_rel); (case q609hmem => intro tk9; tb_rel); k_whole); intro vd tvd tkd hd' tkd' F' N' hv0' hv1'; kct_strs)
                k_with "compareOp NotEq bytes bytes" => (k_here; (refine ne_same ?q73hb9 ?_; (case q73hb9 => first | rfl | exact cut_head hcuts | exact cut_text hcuts | assumption)))
                k_with "binaryOp Add bytes bytes" => (k_here; (with_reducible show wpAny _ _ (binaryOp Operator.Add (Value.bytes (List.toArray _) _) (Value.bytes (List.toArray _) _)) _ _ _); k_dflt (refine' bytes_add_K ?q404z rfl ?_; (case q404z => exact add_room (by first | omega | (simp only [List.length_append]; omega)) (by first | omega | (simp only [List.length_append]; omega))); k_whole); intro _ _)
                k_with "exec For Tuple Tuple cons nil" => (refine Stop.out ?_)
                k_steps
                refine Stop.go ?_
                rename Fr _ _ _ _ => lF'
                refine For_turns lF' ?_
                k_with_none
                k_with "subscriptTail" => (k_here; (with_reducible show wpAny _ _ (subscriptTail _ (Expr.Slice _ _ none _) (Value.bytes (List.toArray _) _) (Value.ref _)) _ _ _); (with_reducible rename Fr _ _ _ _ => F'); (with_reducible rename News _ _ _ _ => N'); (first | refine slice_ij (s := ⟨_, _, _, _, _⟩) F' N' (by omega) (by omega) (by omega) ?_ | refine slice_0j (s := ⟨_, _, _, _, _⟩) F' N' (by omega) (by omega) ?_); intro h' _ _ F' N'; (try k_sweep))
                k_with "binaryOp Add bytes bytes" => (k_here; (with_reducible show wpAny _ _ (binaryOp Operator.Add (Value.bytes (List.toArray _) _) (Value.bytes (List.toArray _) _)) _ _ _); k_dflt (refine' bytes_add_K ?q530z rfl ?_; (case q530z => refine add_room ?_ ?_ <;> first | omega | exact Nat.le_trans (cut_len_le _ _ _) (by omega) | (simp only [List.length_append, List.length_cons, List.length_nil]; omega)); k_whole); intro _ _)
                k_with "call ref" => (k_here; (with_reducible show wpAny _ _ (call (Value.ref 659) _ _) _ _ _); k_dflt (refine' word_octets_ok ?mB ?mF ?mX ?mN ?mT ?mk ?md ?mh0 ?mh1 ?mh2 ?mh3 ?mh4 ?mh5 ?mh6 ?mh7 ?mh8 ?_; kbo_bools; (case mh6 => kba_ints); (case mh7 => kba_ints); (case mh8 => kba_ints); (case mh0 => kln_le); (case mh1 => omega); (case mh2 => omega); (case mh3 => omega); (case mh4 => omega); (case mh5 => omega); k_whole); intro tw9 hw9 tkw9 F' N'; kct_strs)
                k_with "call ref" => (k_here; (with_reducible show wpAny _ _ (call (Value.ref 673) _ _) _ _ _); k_dflt (refine' sliced_b ?mB ?mF ?mX ?mN ?mT ?mk ?md ?mh0 ?mh1 ?mh2 ?mh3 ?mh4 ?mh5 ?_; kbo_bools; (case mh5 => k_mem); (case mh0 => (first | omega | exact Nat.lt_of_le_of_lt (cut_len_le _ _ _) (by omega))); (case mh1 => omega); (case mh2 => omega); (case mh3 => omega); (case mh4 => omega); k_whole); intro tw9 hw9 tkw9 F' N'; kct_strs)
                k_with "call ref" => (k_here; (with_reducible show wpAny _ _ (call (Value.ref 680) _ _) _ _ _); k_dflt (refine' sec_word_p ?mB ?mF ?mX ?mN ?mT ?mk ?md ?mh0 ?mh1 ?mh2 ?mh3 ?mh4 ?mh5 ?mh6 ?mh7 ?mh8 ?mh9 ?mh10 ?mh11 ?mh12 ?mh13 ?mh14 ?_; kbo_bools; (case mh6 => kba_ints); (case mh7 => kba_ints); (case mh8 => k_mem); (case mh9 => kba_ints); (case mh14 => k_mem); (case mh0 => kln_le); (case mh1 => omega); (case mh2 => omega); (case mh3 => omega); (case mh4 => omega); (case mh5 => omega); (case mh10 => omega); (case mh11 => omega); (case mh12 => omega); (case mh13 => omega); k_whole); intro tw9 hw9 tkw9 F' N'; kct_strs)
                k_with "call ref" => (k_here; (with_reducible show wpAny _ _ (call (Value.ref 680) _ _) _ _ _); k_dflt (refine' sec_word_n ?mB ?mF ?mX ?mN ?mT ?mk ?md ?mh0 ?mh1 ?mh2 ?mh3 ?mh4 ?mh5 ?mh6 ?mh7 ?mh8 ?mh9 ?_; kbo_bools; (case mh6 => kba_ints); (case mh7 => kba_ints); (case mh8 => k_mem); (case mh9 => kba_ints); (case mh0 => kln_le); (case mh1 => omega); (case mh2 => omega); (case mh3 => omega); (case mh4 => omega); (case mh5 => omega); k_whole); intro tw9 hw9 tkw9 F' N'; kct_strs)
                k_with "call ref" => (k_here; (with_reducible show wpAny _ _ (call (Value.ref 643) _ _) _ _ _); k_dflt (refine' section3_g ?mB ?mF ?mX ?mN ?mT ?mk ?md ?mh0 ?mh1 ?_; kbo_bools; (case mh0 => k_mem); (case mh1 => kba_ints); k_whole); intro x9 d9 nt9 vn9 t19 t29 t39 t49 h9 tk9 F' N' hS9 hW9; kct_strs)
                k_with "call ref" => (k_here; (with_reducible show wpAny _ _ (call (Value.ref 643) _ _) _ _ _); k_dflt (refine' section4_g ?mB ?mF ?mX ?mN ?mT ?mk ?md ?mh0 ?mh1 ?_; kbo_bools; (case mh0 => k_mem); (case mh1 => kba_ints); k_whole); intro x9 d9 nt9 vn9 t19 t29 t39 t49 h9 tk9 F' N' hS9 hW9; kct_strs)
                k_with "compareOp NotEq bytes bytes" => (k_here; (refine ne_same ?q73hb9 ?_; (case q73hb9 => first | rfl | exact cut_head hcuts | exact cut_text hcuts | assumption)))
                k_with "binaryOp Add bytes bytes" => (k_here; (with_reducible show wpAny _ _ (binaryOp Operator.Add (Value.bytes (List.toArray _) _) (Value.bytes (List.toArray _) _)) _ _ _); k_dflt (refine' bytes_add_K ?q404z rfl ?_; (case q404z => exact add_room (by first | omega | (simp only [List.length_append]; omega)) (by first | omega | (simp only [List.length_append]; omega))); k_whole); intro _ _)
                k_with "pyIter ref" => (refine Stop.out ?_)
                k_steps
                refine Stop.go ?_
                rename Fr _ _ _ _ => lF2
                rename News _ _ _ _ => lN'
                obtain ⟨b3, N3, hO, hT5, hT4, hT3, hZ3, hT2, hZ2, hT1, hZ1, hb3⟩ := loop_pack lN'
                clear lN'
                have hPB := hPB.mono hb3
                have hbw := hb3 _ hbw
                have hD1 := due_all (xs := xs) (b := 0) (body := (((flatF fs).length + e.length : Nat) : Int)) (e := (xs.length : Int)) hZ1
                rw [Int.toNat_natCast, show (0 : Int).toNat = 0 from rfl, hcuts.all] at hD1
                have hD2 := due_header (xs := xs) (b := 0) (body := (((flatF fs).length + e.length : Nat) : Int)) (e := (xs.length : Int)) hZ2
                rw [show (0 : Int).toNat = 0 from rfl, cut_head hcuts] at hD2
                have hD3 := due_text (xs := xs) (b := 0) (body := (((flatF fs).length + e.length : Nat) : Int)) (e := (xs.length : Int)) hZ3
                rw [cut_text hcuts] at hD3
                have hD4 : Due xs 0 (((flatF fs).length + e.length : Nat) : Int) (xs.length : Int) b3 (Str.ofString "HEADER.FIELDS") w' (flatF (fs.filter fun f => ((ws.map (·.map lowB)).any (· == f.1)) != false) ++ e) :=
                  ⟨ys2, .inl ⟨_, hbw⟩, by omega, fun news' na' h => by rw [← hfd]; exact .fields h hws (by omega) hnn9⟩
                have hD5 : Due xs 0 (((flatF fs).length + e.length : Nat) : Int) (xs.length : Int) b3 (Str.ofString "HEADER.FIELDS.NOT") w' (flatF (fs.filter fun f => ((ws.map (·.map lowB)).any (· == f.1)) != true) ++ e) :=
                  ⟨ys2, .inl ⟨_, hbw⟩, by omega, fun news' na' h => by rw [← hfe]; exact .nots h hws (by omega) hnn9⟩
                obtain ⟨m9, lF9, hm9⟩ := fr_gen lF2
                have hs4 := m_short4 (m := m9) (a := Str.ofString "data") (b := Str.ofString "part") (c := Str.ofString "offset") (d := Str.ofString "count") (by rw [hm9]; rfl) (by rw [hm9]; rfl) (by rw [hm9]; rfl) (by rw [hm9]; rfl)
                have hs5 := m_short5 (m := m9) (a := Str.ofString "data") (b := Str.ofString "part") (c := Str.ofString "text") (d := Str.ofString "head") (e := Str.ofString "empty") (by rw [hm9]; rfl) (by rw [hm9]; rfl) (by rw [hm9]; rfl) (by rw [hm9]; rfl) (by rw [hm9]; rfl)
                clear lF2 hm9
                refine iter_tupTurns (vs := [_, _, _, _, _]) (by rfl) lF9 N3 hO rfl rfl (fun I hI => items_all [Str.ofString "section", Str.ofString "due", Str.ofString "names", Str.ofString "word"] _ (TurnOf xs 0 (((flatF fs).length + e.length : Nat) : Int) (xs.length : Int) b3) (fun p hp => Nat.ne_of_lt (hI p hp)) hO (fun v m h tk it hv hm F' N' => ?_) (fun m h tk hm F' N' => ?_) [_, _, _, _, _] _ ?_ (fun _ _ => rfl))
                rotate_left 2
                · intro v hv
                  simp only [List.mem_cons, List.not_mem_nil, or_false] at hv
                  rcases hv with rfl | rfl | rfl | rfl | rfl
                  · exact ⟨_, _, _, _, _, _, rfl, hT1, hD1⟩
                  · exact ⟨_, _, _, _, _, _, rfl, hT2, hD2⟩
                  · exact ⟨_, _, _, _, _, _, rfl, hT3, hD3⟩
                  · exact ⟨_, _, _, _, _, _, rfl, hT4, hD4⟩
                  · exact ⟨_, _, _, _, _, _, rfl, hT5, hD5⟩
                · clear lF9 N3 hs5
                  obtain ⟨T9, wd, tw, na, due, td, rfl, hT9, hD9⟩ := hv
                  have hdl := due_len (by omega) (by omega) (by omega) (by omega) hD9
                  obtain ⟨va, vb, vc, vd, rfl⟩ := m_split4 _ _ _ _ hm
                  rw [hs4] at F'
                  dsimp only at F'
                  clear hm hD1 hD2 hD3 hD4 hD5 hT1 hT2 hT3 hT4 hT5 hZ1 hZ2 hZ3
                  k_with_none
                  k_with "subscriptTail" => (k_here; (with_reducible show wpAny _ _ (subscriptTail _ (Expr.Slice _ _ none _) (Value.bytes (List.toArray _) _) (Value.ref _)) _ _ _); (with_reducible rename Fr _ _ _ _ => F'); (with_reducible rename News _ _ _ _ => N'); (first | refine slice_ij (s := ⟨_, _, _, _, _⟩) F' N' (by omega) (by omega) (by omega) ?_ | refine slice_0j (s := ⟨_, _, _, _, _⟩) F' N' (by omega) (by omega) ?_); intro h' _ _ F' N'; (try k_sweep))
                  k_with "binaryOp Add bytes bytes" => (k_here; (with_reducible show wpAny _ _ (binaryOp Operator.Add (Value.bytes (List.toArray _) _) (Value.bytes (List.toArray _) _)) _ _ _); k_dflt (refine' bytes_add_K ?q530z rfl ?_; (case q530z => refine add_room ?_ ?_ <;> first | omega | exact Nat.le_trans (cut_len_le _ _ _) (by omega) | (simp only [List.length_append, List.length_cons, List.length_nil]; omega)); k_whole); intro _ _)
                  k_with "call ref" => (k_here; (with_reducible show wpAny _ _ (call (Value.ref 659) _ _) _ _ _); k_dflt (refine' word_octets_ok ?mB ?mF ?mX ?mN ?mT ?mk ?md ?mh0 ?mh1 ?mh2 ?mh3 ?mh4 ?mh5 ?mh6 ?mh7 ?mh8 ?_; kbo_bools; (case mh6 => kba_ints); (case mh7 => kba_ints); (case mh8 => kba_ints); (case mh0 => kln_le); (case mh1 => omega); (case mh2 => omega); (case mh3 => omega); (case mh4 => omega); (case mh5 => omega); k_whole); intro tw9 hw9 tkw9 F' N'; kct_strs)
                  k_with "call ref" => (k_here; (with_reducible show wpAny _ _ (call (Value.ref 673) _ _) _ _ _); k_dflt (refine' sliced_b ?mB ?mF ?mX ?mN ?mT ?mk ?md ?mh0 ?mh1 ?mh2 ?mh3 ?mh4 ?mh5 ?_; kbo_bools; (case mh5 => k_mem); (case mh0 => (first | omega | exact Nat.lt_of_le_of_lt (cut_len_le _ _ _) (by omega))); (case mh1 => omega); (case mh2 => omega); (case mh3 => omega); (case mh4 => omega); k_whole); intro tw9 hw9 tkw9 F' N'; kct_strs)
                  k_with "call ref" => (k_here; (with_reducible show wpAny _ _ (call (Value.ref 680) _ _) _ _ _); k_dflt (refine' sec_word_p ?mB ?mF ?mX ?mN ?mT ?mk ?md ?mh0 ?mh1 ?mh2 ?mh3 ?mh4 ?mh5 ?mh6 ?mh7 ?mh8 ?mh9 ?mh10 ?mh11 ?mh12 ?mh13 ?mh14 ?_; kbo_bools; (case mh6 => kba_ints); (case mh7 => kba_ints); (case mh8 => k_mem); (case mh9 => kba_ints); (case mh14 => k_mem); (case mh0 => kln_le); (case mh1 => omega); (case mh2 => omega); (case mh3 => omega); (case mh4 => omega); (case mh5 => omega); (case mh10 => omega); (case mh11 => omega); (case mh12 => omega); (case mh13 => omega); k_whole); intro tw9 hw9 tkw9 F' N'; kct_strs)
                  k_with "call ref" => (k_here; (with_reducible show wpAny _ _ (call (Value.ref 680) _ _) _ _ _); k_dflt (refine' sec_word_n ?mB ?mF ?mX ?mN ?mT ?mk ?md ?mh0 ?mh1 ?mh2 ?mh3 ?mh4 ?mh5 ?mh6 ?mh7 ?mh8 ?mh9 ?_; kbo_bools; (case mh6 => kba_ints); (case mh7 => kba_ints); (case mh8 => k_mem); (case mh9 => kba_ints); (case mh0 => kln_le); (case mh1 => omega); (case mh2 => omega); (case mh3 => omega); (case mh4 => omega); (case mh5 => omega); k_whole); intro tw9 hw9 tkw9 F' N'; kct_strs)
                  k_with "call ref" => (k_here; (with_reducible show wpAny _ _ (call (Value.ref 643) _ _) _ _ _); k_dflt (refine' section3_g ?mB ?mF ?mX ?mN ?mT ?mk ?md ?mh0 ?mh1 ?_; kbo_bools; (case mh0 => k_mem); (case mh1 => kba_ints); k_whole); intro x9 d9 nt9 vn9 t19 t29 t39 t49 h9 tk9 F' N' hS9 hW9; kct_strs)
                  k_with "call ref" => (k_here; (with_reducible show wpAny _ _ (call (Value.ref 643) _ _) _ _ _); k_dflt (refine' section4_g ?mB ?mF ?mX ?mN ?mT ?mk ?md ?mh0 ?mh1 ?_; kbo_bools; (case mh0 => k_mem); (case mh1 => kba_ints); k_whole); intro x9 d9 nt9 vn9 t19 t29 t39 t49 h9 tk9 F' N' hS9 hW9; kct_strs)
                  k_with "compareOp NotEq bytes bytes" => (k_here; (refine ne_same ?q73hb9 ?_; (case q73hb9 => first | rfl | exact cut_head hcuts | exact cut_text hcuts | assumption)))
                  k_with "binaryOp Add bytes bytes" => (k_here; (with_reducible show wpAny _ _ (binaryOp Operator.Add (Value.bytes (List.toArray _) _) (Value.bytes (List.toArray _) _)) _ _ _); k_dflt (refine' bytes_add_K ?q404z rfl ?_; (case q404z => exact add_room (by first | omega | (simp only [List.length_append]; omega)) (by first | omega | (simp only [List.length_append]; omega))); k_whole); intro _ _)
                  k_steps
                  refine ⟨_, _, _, rfl, by k_asm, ?_, ?_⟩
                  · rename News _ _ _ _ => lN9
                    exact fun p hp => lN9 p (by k_mem)
                  · intro z hz
                    simp only [List.mem_cons, List.not_mem_nil, or_false, not_or] at hz
                    simp only [hz, if_false]
                    exact (congrFun hs4 z).symm
                rename ∀ z, z ∉ [Str.ofString "section", Str.ofString "due", Str.ofString "names", Str.ofString "word"] → _ => hm
                rename Fr _ _ _ _ => F'
                obtain ⟨va, vb, vc, vd, rfl⟩ := m_split4 _ _ _ _ hm
                rw [hs5] at F'
                dsimp only at F'
                clear hm hs4 hs5
                have hch0 : cut xs (Int.toNat 0) (((flatF fs).length + e.length : Nat) : Int).toNat = (List.map (fun x => x.2) fs).flatten ++ e := cut_head hcuts
                (try dsimp only)
                k_with_none
                k_with "binaryOp Add bytes bytes" => (k_here; (with_reducible show wpAny _ _ (binaryOp Operator.Add (Value.bytes (List.toArray _) _) (Value.bytes (List.toArray _) _)) _ _ _); k_dflt (refine' bytes_add_K ?q530z rfl ?_; (case q530z => refine add_room ?_ ?_ <;> first | omega | exact Nat.le_trans (cut_len_le _ _ _) (by omega) | (simp only [List.length_append, List.length_cons, List.length_nil]; omega)); k_whole); intro _ _)
                k_with "call ref" => (k_here; (with_reducible show wpAny _ _ (call (Value.ref 673) _ _) _ _ _); k_dflt (refine' sliced_nr ?mB ?mF ?mX ?mN ?mT ?mk ?md  ?_; kbo_bools;  k_whole); intro hw9 tkw9 F' N'; kct_strs)
                k_with "call ref" => (k_here; (with_reducible show wpAny _ _ (call (Value.ref 680) _ _) _ _ _); k_dflt (refine' sec_2 ?mB ?mF ?mX ?mN ?mT ?mk ?md ?mh0 ?mh1 ?mh2 ?mh3 ?mh4 ?mh5 ?mh6 ?mh7 ?mh8 ?_; kbo_bools; (case mh6 => kba_ints); (case mh7 => kba_ints); (case mh8 => k_mem); (case mh0 => kln_le); (case mh1 => omega); (case mh2 => omega); (case mh3 => omega); (case mh4 => omega); (case mh5 => omega); k_whole); intro hw9 tkw9 F' N'; kct_strs)
                k_with "call ref" => (k_here; (with_reducible show wpAny _ _ (call (Value.ref 680) _ _) _ _ _); k_dflt (refine' sec_1t ?mB ?mF ?mX ?mN ?mT ?mk ?md ?mh0 ?mh1 ?mh2 ?mh3 ?mh4 ?mh5 ?mh6 ?mh7 ?mh8 ?_; kbo_bools; (case mh6 => kba_ints); (case mh7 => kba_ints); (case mh8 => k_mem); (case mh0 => kln_le); (case mh1 => omega); (case mh2 => omega); (case mh3 => omega); (case mh4 => omega); (case mh5 => omega); k_whole); intro hw9 tkw9 F' N'; kct_strs)
                k_with "call ref" => (k_here; (with_reducible show wpAny _ _ (call (Value.ref 680) _ _) _ _ _); k_dflt (refine' sec_1m ?mB ?mF ?mX ?mN ?mT ?mk ?md ?mh0 ?mh1 ?mh2 ?mh3 ?mh4 ?mh5 ?mh6 ?mh7 ?mh8 ?_; kbo_bools; (case mh6 => kba_ints); (case mh7 => kba_ints); (case mh8 => k_mem); (case mh0 => kln_le); (case mh1 => omega); (case mh2 => omega); (case mh3 => omega); (case mh4 => omega); (case mh5 => omega); k_whole); intro tw9 hw9 tkw9 F' N'; kct_strs)
                k_with "call ref" => (k_here; (with_reducible show wpAny _ _ (call (Value.ref 680) _ _) _ _ _); k_dflt (refine' sec_1e ?mB ?mF ?mX ?mN ?mT ?mk ?md ?mh0 ?mh1 ?mh2 ?mh3 ?mh4 ?mh5 ?mh6 ?mh7 ?mh8 ?_; kbo_bools; (case mh6 => kba_ints); (case mh7 => kba_ints); (case mh8 => k_mem); (case mh0 => kln_le); (case mh1 => omega); (case mh2 => omega); (case mh3 => omega); (case mh4 => omega); (case mh5 => omega); k_whole); intro tw9 hw9 tkw9 F' N'; kct_strs)
                k_with "call ref" => (k_here; (with_reducible show wpAny _ _ (call (Value.ref 643) _ _) _ _ _); k_dflt (refine' section1_g ?mB ?mF ?mX ?mN ?mT ?mk ?md ?mh0 ?_; kbo_bools; (case mh0 => k_mem); k_whole); intro x9 d9 na9 tw9 t19 t29 t39 t49 h9 tk9 F' N' hS9; kct_strs)
                k_with "call ref" => (k_here; (with_reducible show wpAny _ _ (call (Value.ref 643) _ _) _ _ _); k_dflt (refine' section2_g ?mB ?mF ?mX ?mN ?mT ?mk ?md ?mh0 ?_; kbo_bools; (case mh0 => k_mem); k_whole); intro x9 d9 na9 t19 t29 t39 t49 h9 tk9 F' N' hS9; kct_strs)
                k_with "call ref" => (k_here; (with_reducible show wpAny _ _ (call (Value.ref 643) _ _) _ _ _); k_dflt (refine' section4_h ?mB ?mF ?mX ?mN ?mT ?mk ?md ?mh0 ?mh1 ?_; kbo_bools; (case mh0 => k_mem); (case mh1 => k_mem); k_whole); intro x9 d9 t19 t29 t39 t49 h9 tk9 F' N' hS9; kct_strs)
                k_with "compareOp NotEq bytes bytes" => (k_here; (refine ne_same ?q73hb9 ?_; (case q73hb9 => first | rfl | exact cut_head hcuts | exact cut_text hcuts | assumption)))
                k_with "binaryOp Add bytes bytes" => (k_here; (with_reducible show wpAny _ _ (binaryOp Operator.Add (Value.bytes (List.toArray _) _) (Value.bytes (List.toArray _) _)) _ _ _); k_dflt (refine' bytes_add_K ?q404z rfl ?_; (case q404z => exact add_room (by first | omega | (simp only [List.length_append]; omega)) (by first | omega | (simp only [List.length_append]; omega))); k_whole); intro _ _)
                k_steps
end Mine
theorem PySem.Challenge.cw_no0392_01_holds : PySem.Challenge.rw_no0392_01.Holds := by
  exact Mine.law_holds
