import PyProof.Rows.All
import Wide.All
import OpenK.AllK
import Wide.FinOn
import PySem.Challenge.RW_nn0145_01
open PySem PySem.W PyProof.Rows PySem.Calls
set_option Elab.async false
set_option maxRecDepth 100000
set_option maxHeartbeats 4000000
set_option rowWalk.seconds 0
set_option linter.unusedVariables false
set_option linter.unusedSimpArgs false
namespace Mine
noncomputable abbrev prg : Program := PySem.Challenge.rw_nn0145_01.row.prog
/-- the statements that the view keeps -/
noncomputable def vw : Program := view prg [0,2,3,5,6,8,9,10,11,12,13,14,15,16,17,18,19,20,22,23,24,26,27,28,29,30,31,32,33,34,35,36,37,38,39,40,41,42,43,44,45,46,47,48,49,50,52,53,54,55,56,57,58,60,61,62,63,64]
/-- the program's functions by their place: statement i of the text; its j-th statement, one up, where i is a class -/
noncomputable def fnAt (i j : Nat) : Stmt := match j, prg.main.body.getD i (.Pass default) with
  | 0, st => st
  | j + 1, .ClassDef _ _ _ b _ _ _ _ _ _ _ => b.getD j (.Pass default)
  | _, st => st
noncomputable def fP (i j : Nat) : Arguments := match fnAt i j with
  | .FunctionDef _ a _ _ _ _ _ _ _ _ => a
  | _ => default
noncomputable def fB (i j : Nat) : List Stmt := match fnAt i j with
  | .FunctionDef _ _ b _ _ _ _ _ _ _ => b
  | _ => []
noncomputable def fS (i j : Nat) : Scope := match fnAt i j with
  | .FunctionDef _ _ _ _ _ _ s _ _ _ => s
  | _ => default
noncomputable abbrev dk (P : Params) (x : String) (t : Tok) (v : Value) : DictEntry := ⟨PyData.keyHash P (Str.ofString x), .str (Str.ofString x) t, v⟩
/-- what the top leaves: the objects that the law reaches -/
noncomputable def Kf : Params → Frag := fun P =>
  (nat_lit 2, ⟨Value.none, .none, .dict #[dk P "type.__subclasses__.Exception.0" 232 (.int 46 0), dk P "type.__subclasses__.Exception.n" 233 (.int 1 0)] 2, #[]⟩) ::
  (nat_lit 3, ⟨.type "dict", .none, .dict #[dk P "__name__" 165 (.str (Str.ofString "law_nn0145_01") 939), dk P "__doc__" 166 Value.none, dk P "__package__" 167 Value.none, dk P "__loader__" 168 (.builtin "__main__.__loader__#opaque"), dk P "__spec__" 169 Value.none, dk P "__annotations__" 170 (.ref 6), dk P "__builtins__" 171 (.ref 4), dk P "__file__" 173 (.str (Str.ofString "/claim/cut.py") 172), dk P "__cached__" 174 Value.none, dk P "_wall" 193 (.ref 21), dk P "PaperError" 235 (.ref 46), dk P "DraftFault" 251 (.ref 59), dk P "Decimal" 368 (.ref 155), dk P "sign_text" 375 (.ref 166), dk P "MOST_HOPS" 379 (.int 30 378), dk P "Name" 408 (.ref 183), dk P "String" 439 (.ref 205), dk P "Stream" 470 (.ref 226), dk P "Reference" 508 (.ref 254), dk P "kind_of" 515 (.ref 265), dk P "told_plain" 523 (.ref 272), dk P "told" 529 (.ref 277), dk P "told_objects" 530 (.ref 277), dk P "parts_of" 536 (.ref 282), dk P "depth_of" 548 (.ref 289), dk P "Lookup" 600 (.ref 321), dk P "Shelf" 662 (.ref 375), dk P "WHITE" 671 (.ref 378), dk P "DELIMITERS" 682 (.ref 379), dk P "is_regular" 689 (.ref 386), dk P "MOST_NESTED" 693 (.int 40 692), dk P "MOST_NUMBER" 695 (.int 40 694), dk P "BACKSLASH" 697 (.int 92 696), dk P "OPEN_BRACKET" 699 (.int 40 698), dk P "CLOSE_BRACKET" 701 (.int 41 700), dk P "CARRIAGE" 703 (.int 13 702), dk P "NUMBER_SIGN" 705 (.int 35 704), dk P "HEX_FIGURES" 707 (.bytes #[48, 49, 50, 51, 52, 53, 54, 55, 56, 57, 65, 66, 67, 68, 69, 70] 706), dk P "text_octets" 713 (.ref 391), dk P "hex_pair" 720 (.ref 398), dk P "name_octets" 730 (.ref 405), dk P "whole_octets" 737 (.ref 412), dk P "decimal_octets" 743 (.ref 417), dk P "lone_brackets" 753 (.ref 424), dk P "literal_octets" 764 (.ref 431), dk P "hex_octets" 773 (.ref 438), dk P "string_octets" 783 (.ref 445), dk P "plain_part" 792 (.ref 452), dk P "lay_reference" 800 (.ref 459), dk P "lay_dict" 810 (.ref 466), dk P "lay_parts" 821 (.ref 473), dk P "run_together" 829 (.ref 480), dk P "joined_parts" 839 (.ref 487), dk P "stream_head" 848 (.ref 494), dk P "write_object" 858 (.ref 501), dk P "may_be_packed" 871 (.ref 508), dk P "length_numbers" 882 (.ref 515), dk P "packable_numbers" 894 (.ref 522), dk P "groups_of" 900 (.ref 527), dk P "check_pairs" 910 (.ref 534), dk P "laid_octets" 924 (.ref 541), dk P "write_packed_by" 938 (.ref 548), dk P "_law_pen" 946 (.ref 553), dk P "_law_draw" 956 (.ref 560), dk P "_law_object" 962 (.ref 565), dk P "_law_lay" 970 (.ref 572), dk P "law" 976 (.ref 577)] 67, #[]⟩) ::
  (nat_lit 15, ⟨.type "tuple", .none, .seq #[] 0, #[]⟩) ::
  (nat_lit 17, ⟨.type "tuple", .none, .seq #[.str (Str.ofString "k") 190] 0, #[]⟩) ::
  (nat_lit 18, ⟨.type "tuple", .none, .seq #[] 0, #[]⟩) ::
  (nat_lit 20, ⟨.type "code", .none, .fields #[.str (Str.ofString "_wall") 187, .str (Str.ofString "_wall") 188, .str (Str.ofString "/claim/cut.py") 189, .int 1 0, .int 1 0, .int 0 0, .int 0 0, .int 3 0, .ref 15, .bool Bool.true, .int 181 0, .ref 16, Value.none, .ref 17, .ref 18, .ref 19, .int 191 0, .int 1 0, .str (Str.ofString "/claim/cut.py") 192], #[]⟩) ::
  (nat_lit 21, ⟨.type "function", .none, .func ⟨Str.ofString "_wall", Str.ofString "_wall", (fP 0 0), .stmts (fB 0 0), (fS 0 0), 3, [], Value.none, Value.none, Value.none, .str (Str.ofString "__main__") 164, .none, .ref 20, Value.none, 0⟩, #[]⟩) ::
  (nat_lit 22, ⟨.type "tuple", .none, .seq #[.type "Exception"] 0, #[]⟩) ::
  (nat_lit 29, ⟨.type "tuple", .none, .seq #[.int (-1) 209] 0, #[]⟩) ::
  (nat_lit 30, ⟨.type "tuple", .none, .seq #[] 0, #[]⟩) ::
  (nat_lit 32, ⟨.type "tuple", .none, .seq #[.str (Str.ofString "self") 213, .str (Str.ofString "what") 214, .str (Str.ofString "at") 215] 0, #[]⟩) ::
  (nat_lit 33, ⟨.type "tuple", .none, .seq #[] 0, #[]⟩) ::
  (nat_lit 35, ⟨.type "code", .none, .fields #[.str (Str.ofString "__init__") 210, .str (Str.ofString "PaperError.__init__") 211, .str (Str.ofString "/claim/cut.py") 212, .int 7 0, .int 3 0, .int 0 0, .int 0 0, .int 3 0, .ref 30, .bool Bool.true, .int 181 0, .ref 31, Value.none, .ref 32, .ref 33, .ref 34, .int 216 0, .int 7 0, .str (Str.ofString "/claim/cut.py") 217], #[]⟩) ::
  (nat_lit 36, ⟨.type "function", .none, .func ⟨Str.ofString "__init__", Str.ofString "PaperError.__init__", (fP 2 1), .stmts (fB 2 1), (fS 2 1), 3, [], .ref 29, Value.none, Value.none, .str (Str.ofString "paperhold.errors") 194, .none, .ref 35, Value.none, 0⟩, #[]⟩) ::
  (nat_lit 37, ⟨.type "tuple", .none, .seq #[] 0, #[]⟩) ::
  (nat_lit 39, ⟨.type "tuple", .none, .seq #[.str (Str.ofString "self") 222] 0, #[]⟩) ::
  (nat_lit 40, ⟨.type "tuple", .none, .seq #[] 0, #[]⟩) ::
  (nat_lit 42, ⟨.type "code", .none, .fields #[.str (Str.ofString "told") 219, .str (Str.ofString "PaperError.told") 220, .str (Str.ofString "/claim/cut.py") 221, .int 12 0, .int 1 0, .int 0 0, .int 0 0, .int 3 0, .ref 37, .bool Bool.true, .int 181 0, .ref 38, Value.none, .ref 39, .ref 40, .ref 41, .int 223 0, .int 12 0, .str (Str.ofString "/claim/cut.py") 224], #[]⟩) ::
  (nat_lit 43, ⟨.type "function", .none, .func ⟨Str.ofString "told", Str.ofString "PaperError.told", (fP 2 2), .stmts (fB 2 2), (fS 5 10), 3, [], Value.none, Value.none, Value.none, .str (Str.ofString "paperhold.errors") 194, .none, .ref 42, Value.none, 0⟩, #[]⟩) ::
  (nat_lit 44, ⟨.type "tuple", .none, .seq #[.str (Str.ofString "at") 226, .str (Str.ofString "what") 227] 0, #[]⟩) ::
  (nat_lit 45, ⟨.type "dict", .none, .dict #[dk P "__module__" 203 (.str (Str.ofString "paperhold.errors") 194), dk P "__firstlineno__" 207 (.int 5 206), dk P "__init__" 218 (.ref 36), dk P "told" 225 (.ref 43), dk P "__static_attributes__" 228 (.ref 44), dk P "__weakref__" 230 (.ref 47), dk P "__doc__" 231 Value.none] 3, #[]⟩) ::
  (nat_lit 46, ⟨.type "type", .none, .cls ⟨Str.ofString "PaperError", [.type "Exception"], [.ref 46, .type "Exception", .type "BaseException", .type "object"], 45, Str.ofString "PaperError", Bool.true, [], [.ref 59], Bool.false, .none, Bool.false⟩, #[.some (.ref 22), .none, .some (.str (Str.ofString "PaperError") 196), .some (.str (Str.ofString "PaperError") 204), .some (.builtin "Exception.__new__"), .some (.bool Bool.true)]⟩) ::
  (nat_lit 47, ⟨.type "getset_descriptor", .none, .fields #[.str (Str.ofString "__weakref__") 229, .ref 46, .builtin "ExceptionGroup.__weakref__", Value.none], #[]⟩) ::
  (nat_lit 50, ⟨.type "tuple", .none, .seq #[.ref 46] 0, #[]⟩) ::
  (nat_lit 57, ⟨.type "tuple", .none, .seq #[] 0, #[]⟩) ::
  (nat_lit 58, ⟨.type "dict", .none, .dict #[dk P "__module__" 243 (.str (Str.ofString "paperhold.errors") 194), dk P "__firstlineno__" 247 (.int 14 246), dk P "__static_attributes__" 248 (.ref 57), dk P "__doc__" 249 Value.none] 2, #[]⟩) ::
  (nat_lit 59, ⟨.type "type", .none, .cls ⟨Str.ofString "DraftFault", [.ref 46], [.ref 59, .ref 46, .type "Exception", .type "BaseException", .type "object"], 58, Str.ofString "DraftFault", Bool.true, [], [], Bool.false, .none, Bool.false⟩, #[.some (.ref 50), .none, .some (.str (Str.ofString "DraftFault") 236), .some (.str (Str.ofString "DraftFault") 244), .some (.builtin "Exception.__new__"), .some (.bool Bool.true)]⟩) ::
  (nat_lit 69, ⟨.type "tuple", .none, .seq #[] 0, #[]⟩) ::
  (nat_lit 71, ⟨.type "tuple", .none, .seq #[.str (Str.ofString "self") 269, .str (Str.ofString "top") 270, .str (Str.ofString "places") 271] 0, #[]⟩) ::
  (nat_lit 72, ⟨.type "tuple", .none, .seq #[] 0, #[]⟩) ::
  (nat_lit 74, ⟨.type "code", .none, .fields #[.str (Str.ofString "__init__") 266, .str (Str.ofString "Decimal.__init__") 267, .str (Str.ofString "/claim/cut.py") 268, .int 19 0, .int 3 0, .int 0 0, .int 0 0, .int 3 0, .ref 69, .bool Bool.true, .int 181 0, .ref 70, Value.none, .ref 71, .ref 72, .ref 73, .int 272 0, .int 19 0, .str (Str.ofString "/claim/cut.py") 273], #[]⟩) ::
  (nat_lit 75, ⟨.type "function", .none, .func ⟨Str.ofString "__init__", Str.ofString "Decimal.__init__", (fP 5 1), .stmts (fB 5 1), (fS 5 1), 3, [], Value.none, Value.none, Value.none, .str (Str.ofString "paperhold.decimals") 252, .none, .ref 74, Value.none, 0⟩, #[]⟩) ::
  (nat_lit 76, ⟨.type "tuple", .none, .seq #[] 0, #[]⟩) ::
  (nat_lit 78, ⟨.type "tuple", .none, .seq #[.str (Str.ofString "self") 278, .str (Str.ofString "other") 279] 0, #[]⟩) ::
  (nat_lit 79, ⟨.type "tuple", .none, .seq #[] 0, #[]⟩) ::
  (nat_lit 81, ⟨.type "code", .none, .fields #[.str (Str.ofString "plus") 275, .str (Str.ofString "Decimal.plus") 276, .str (Str.ofString "/claim/cut.py") 277, .int 26 0, .int 2 0, .int 0 0, .int 0 0, .int 3 0, .ref 76, .bool Bool.true, .int 181 0, .ref 77, Value.none, .ref 78, .ref 79, .ref 80, .int 280 0, .int 26 0, .str (Str.ofString "/claim/cut.py") 281], #[]⟩) ::
  (nat_lit 82, ⟨.type "function", .none, .func ⟨Str.ofString "plus", Str.ofString "Decimal.plus", (fP 5 2), .stmts (fB 5 2), (fS 5 6), 3, [], Value.none, Value.none, Value.none, .str (Str.ofString "paperhold.decimals") 252, .none, .ref 81, Value.none, 0⟩, #[]⟩) ::
  (nat_lit 83, ⟨.type "tuple", .none, .seq #[] 0, #[]⟩) ::
  (nat_lit 85, ⟨.type "tuple", .none, .seq #[.str (Str.ofString "self") 286, .str (Str.ofString "other") 287] 0, #[]⟩) ::
  (nat_lit 86, ⟨.type "tuple", .none, .seq #[] 0, #[]⟩) ::
  (nat_lit 88, ⟨.type "code", .none, .fields #[.str (Str.ofString "minus") 283, .str (Str.ofString "Decimal.minus") 284, .str (Str.ofString "/claim/cut.py") 285, .int 29 0, .int 2 0, .int 0 0, .int 0 0, .int 3 0, .ref 83, .bool Bool.true, .int 181 0, .ref 84, Value.none, .ref 85, .ref 86, .ref 87, .int 288 0, .int 29 0, .str (Str.ofString "/claim/cut.py") 289], #[]⟩) ::
  (nat_lit 89, ⟨.type "function", .none, .func ⟨Str.ofString "minus", Str.ofString "Decimal.minus", (fP 5 3), .stmts (fB 5 3), (fS 5 6), 3, [], Value.none, Value.none, Value.none, .str (Str.ofString "paperhold.decimals") 252, .none, .ref 88, Value.none, 0⟩, #[]⟩) ::
  (nat_lit 90, ⟨.type "tuple", .none, .seq #[] 0, #[]⟩) ::
  (nat_lit 92, ⟨.type "tuple", .none, .seq #[.str (Str.ofString "self") 294, .str (Str.ofString "other") 295] 0, #[]⟩) ::
  (nat_lit 93, ⟨.type "tuple", .none, .seq #[] 0, #[]⟩) ::
  (nat_lit 95, ⟨.type "code", .none, .fields #[.str (Str.ofString "times") 291, .str (Str.ofString "Decimal.times") 292, .str (Str.ofString "/claim/cut.py") 293, .int 32 0, .int 2 0, .int 0 0, .int 0 0, .int 3 0, .ref 90, .bool Bool.true, .int 181 0, .ref 91, Value.none, .ref 92, .ref 93, .ref 94, .int 296 0, .int 32 0, .str (Str.ofString "/claim/cut.py") 297], #[]⟩) ::
  (nat_lit 96, ⟨.type "function", .none, .func ⟨Str.ofString "times", Str.ofString "Decimal.times", (fP 5 4), .stmts (fB 5 4), (fS 5 6), 3, [], Value.none, Value.none, Value.none, .str (Str.ofString "paperhold.decimals") 252, .none, .ref 95, Value.none, 0⟩, #[]⟩) ::
  (nat_lit 97, ⟨.type "tuple", .none, .seq #[] 0, #[]⟩) ::
  (nat_lit 99, ⟨.type "tuple", .none, .seq #[.str (Str.ofString "self") 302] 0, #[]⟩) ::
  (nat_lit 100, ⟨.type "tuple", .none, .seq #[] 0, #[]⟩) ::
  (nat_lit 102, ⟨.type "code", .none, .fields #[.str (Str.ofString "negated") 299, .str (Str.ofString "Decimal.negated") 300, .str (Str.ofString "/claim/cut.py") 301, .int 35 0, .int 1 0, .int 0 0, .int 0 0, .int 3 0, .ref 97, .bool Bool.true, .int 181 0, .ref 98, Value.none, .ref 99, .ref 100, .ref 101, .int 303 0, .int 35 0, .str (Str.ofString "/claim/cut.py") 304], #[]⟩) ::
  (nat_lit 103, ⟨.type "function", .none, .func ⟨Str.ofString "negated", Str.ofString "Decimal.negated", (fP 5 5), .stmts (fB 5 5), (fS 20 5), 3, [], Value.none, Value.none, Value.none, .str (Str.ofString "paperhold.decimals") 252, .none, .ref 102, Value.none, 0⟩, #[]⟩) ::
  (nat_lit 104, ⟨.type "tuple", .none, .seq #[] 0, #[]⟩) ::
  (nat_lit 106, ⟨.type "tuple", .none, .seq #[.str (Str.ofString "self") 309, .str (Str.ofString "other") 310] 0, #[]⟩) ::
  (nat_lit 107, ⟨.type "tuple", .none, .seq #[] 0, #[]⟩) ::
  (nat_lit 109, ⟨.type "code", .none, .fields #[.str (Str.ofString "compared") 306, .str (Str.ofString "Decimal.compared") 307, .str (Str.ofString "/claim/cut.py") 308, .int 38 0, .int 2 0, .int 0 0, .int 0 0, .int 3 0, .ref 104, .bool Bool.true, .int 181 0, .ref 105, Value.none, .ref 106, .ref 107, .ref 108, .int 311 0, .int 38 0, .str (Str.ofString "/claim/cut.py") 312], #[]⟩) ::
  (nat_lit 110, ⟨.type "function", .none, .func ⟨Str.ofString "compared", Str.ofString "Decimal.compared", (fP 5 6), .stmts (fB 5 6), (fS 5 6), 3, [], Value.none, Value.none, Value.none, .str (Str.ofString "paperhold.decimals") 252, .none, .ref 109, Value.none, 0⟩, #[]⟩) ::
  (nat_lit 111, ⟨.type "tuple", .none, .seq #[] 0, #[]⟩) ::
  (nat_lit 113, ⟨.type "tuple", .none, .seq #[.str (Str.ofString "self") 317] 0, #[]⟩) ::
  (nat_lit 114, ⟨.type "tuple", .none, .seq #[] 0, #[]⟩) ::
  (nat_lit 116, ⟨.type "code", .none, .fields #[.str (Str.ofString "is_whole") 314, .str (Str.ofString "Decimal.is_whole") 315, .str (Str.ofString "/claim/cut.py") 316, .int 41 0, .int 1 0, .int 0 0, .int 0 0, .int 3 0, .ref 111, .bool Bool.true, .int 181 0, .ref 112, Value.none, .ref 113, .ref 114, .ref 115, .int 318 0, .int 41 0, .str (Str.ofString "/claim/cut.py") 319], #[]⟩) ::
  (nat_lit 117, ⟨.type "function", .none, .func ⟨Str.ofString "is_whole", Str.ofString "Decimal.is_whole", (fP 5 7), .stmts (fB 5 7), (fS 20 5), 3, [], Value.none, Value.none, Value.none, .str (Str.ofString "paperhold.decimals") 252, .none, .ref 116, Value.none, 0⟩, #[]⟩) ::
  (nat_lit 118, ⟨.type "tuple", .none, .seq #[] 0, #[]⟩) ::
  (nat_lit 120, ⟨.type "tuple", .none, .seq #[.str (Str.ofString "self") 324] 0, #[]⟩) ::
  (nat_lit 121, ⟨.type "tuple", .none, .seq #[] 0, #[]⟩) ::
  (nat_lit 123, ⟨.type "code", .none, .fields #[.str (Str.ofString "floor") 321, .str (Str.ofString "Decimal.floor") 322, .str (Str.ofString "/claim/cut.py") 323, .int 44 0, .int 1 0, .int 0 0, .int 0 0, .int 3 0, .ref 118, .bool Bool.true, .int 181 0, .ref 119, Value.none, .ref 120, .ref 121, .ref 122, .int 325 0, .int 44 0, .str (Str.ofString "/claim/cut.py") 326], #[]⟩) ::
  (nat_lit 124, ⟨.type "function", .none, .func ⟨Str.ofString "floor", Str.ofString "Decimal.floor", (fP 5 8), .stmts (fB 5 8), (fS 20 5), 3, [], Value.none, Value.none, Value.none, .str (Str.ofString "paperhold.decimals") 252, .none, .ref 123, Value.none, 0⟩, #[]⟩) ::
  (nat_lit 125, ⟨.type "tuple", .none, .seq #[] 0, #[]⟩) ::
  (nat_lit 127, ⟨.type "tuple", .none, .seq #[.str (Str.ofString "self") 331, .str (Str.ofString "places") 332] 0, #[]⟩) ::
  (nat_lit 128, ⟨.type "tuple", .none, .seq #[] 0, #[]⟩) ::
  (nat_lit 130, ⟨.type "code", .none, .fields #[.str (Str.ofString "rounded") 328, .str (Str.ofString "Decimal.rounded") 329, .str (Str.ofString "/claim/cut.py") 330, .int 47 0, .int 2 0, .int 0 0, .int 0 0, .int 3 0, .ref 125, .bool Bool.true, .int 181 0, .ref 126, Value.none, .ref 127, .ref 128, .ref 129, .int 333 0, .int 47 0, .str (Str.ofString "/claim/cut.py") 334], #[]⟩) ::
  (nat_lit 131, ⟨.type "function", .none, .func ⟨Str.ofString "rounded", Str.ofString "Decimal.rounded", (fP 5 9), .stmts (fB 5 9), (fS 5 9), 3, [], Value.none, Value.none, Value.none, .str (Str.ofString "paperhold.decimals") 252, .none, .ref 130, Value.none, 0⟩, #[]⟩) ::
  (nat_lit 132, ⟨.type "tuple", .none, .seq #[] 0, #[]⟩) ::
  (nat_lit 134, ⟨.type "tuple", .none, .seq #[.str (Str.ofString "self") 339] 0, #[]⟩) ::
  (nat_lit 135, ⟨.type "tuple", .none, .seq #[] 0, #[]⟩) ::
  (nat_lit 137, ⟨.type "code", .none, .fields #[.str (Str.ofString "told") 336, .str (Str.ofString "Decimal.told") 337, .str (Str.ofString "/claim/cut.py") 338, .int 50 0, .int 1 0, .int 0 0, .int 0 0, .int 3 0, .ref 132, .bool Bool.true, .int 181 0, .ref 133, Value.none, .ref 134, .ref 135, .ref 136, .int 340 0, .int 50 0, .str (Str.ofString "/claim/cut.py") 341], #[]⟩) ::
  (nat_lit 138, ⟨.type "function", .none, .func ⟨Str.ofString "told", Str.ofString "Decimal.told", (fP 5 10), .stmts (fB 5 10), (fS 5 10), 3, [], Value.none, Value.none, Value.none, .str (Str.ofString "paperhold.decimals") 252, .none, .ref 137, Value.none, 0⟩, #[]⟩) ::
  (nat_lit 139, ⟨.type "tuple", .none, .seq #[] 0, #[]⟩) ::
  (nat_lit 141, ⟨.type "tuple", .none, .seq #[.str (Str.ofString "self") 346, .str (Str.ofString "numerals") 347] 0, #[]⟩) ::
  (nat_lit 142, ⟨.type "tuple", .none, .seq #[] 0, #[]⟩) ::
  (nat_lit 144, ⟨.type "code", .none, .fields #[.str (Str.ofString "text") 343, .str (Str.ofString "Decimal.text") 344, .str (Str.ofString "/claim/cut.py") 345, .int 53 0, .int 1 0, .int 0 0, .int 0 0, .int 3 0, .ref 139, .bool Bool.true, .int 181 0, .ref 140, Value.none, .ref 141, .ref 142, .ref 143, .int 348 0, .int 53 0, .str (Str.ofString "/claim/cut.py") 349], #[]⟩) ::
  (nat_lit 145, ⟨.type "function", .none, .func ⟨Str.ofString "text", Str.ofString "Decimal.text", (fP 5 11), .stmts (fB 5 11), (fS 5 11), 3, [], Value.none, Value.none, Value.none, .str (Str.ofString "paperhold.decimals") 252, .none, .ref 144, Value.none, 0⟩, #[]⟩) ::
  (nat_lit 146, ⟨.type "tuple", .none, .seq #[] 0, #[]⟩) ::
  (nat_lit 148, ⟨.type "tuple", .none, .seq #[.str (Str.ofString "self") 354, .str (Str.ofString "numerals") 355] 0, #[]⟩) ::
  (nat_lit 149, ⟨.type "tuple", .none, .seq #[] 0, #[]⟩) ::
  (nat_lit 151, ⟨.type "code", .none, .fields #[.str (Str.ofString "least_text") 351, .str (Str.ofString "Decimal.least_text") 352, .str (Str.ofString "/claim/cut.py") 353, .int 60 0, .int 1 0, .int 0 0, .int 0 0, .int 3 0, .ref 146, .bool Bool.true, .int 181 0, .ref 147, Value.none, .ref 148, .ref 149, .ref 150, .int 356 0, .int 60 0, .str (Str.ofString "/claim/cut.py") 357], #[]⟩) ::
  (nat_lit 152, ⟨.type "function", .none, .func ⟨Str.ofString "least_text", Str.ofString "Decimal.least_text", (fP 5 12), .stmts (fB 5 12), (fS 5 12), 3, [], Value.none, Value.none, Value.none, .str (Str.ofString "paperhold.decimals") 252, .none, .ref 151, Value.none, 0⟩, #[]⟩) ::
  (nat_lit 153, ⟨.type "tuple", .none, .seq #[.str (Str.ofString "places") 359, .str (Str.ofString "top") 360] 0, #[]⟩) ::
  (nat_lit 154, ⟨.type "dict", .none, .dict #[dk P "__module__" 261 (.str (Str.ofString "paperhold.decimals") 252), dk P "__firstlineno__" 265 (.int 17 264), dk P "__init__" 274 (.ref 75), dk P "plus" 282 (.ref 82), dk P "minus" 290 (.ref 89), dk P "times" 298 (.ref 96), dk P "negated" 305 (.ref 103), dk P "compared" 313 (.ref 110), dk P "is_whole" 320 (.ref 117), dk P "floor" 327 (.ref 124), dk P "rounded" 335 (.ref 131), dk P "told" 342 (.ref 138), dk P "text" 350 (.ref 145), dk P "least_text" 358 (.ref 152), dk P "__static_attributes__" 361 (.ref 153), dk P "__dict__" 363 (.ref 156), dk P "__weakref__" 365 (.ref 157), dk P "__doc__" 366 Value.none] 4, #[]⟩) ::
  (nat_lit 155, ⟨.type "type", .none, .cls ⟨Str.ofString "Decimal", [.type "object"], [.ref 155, .type "object"], 154, Str.ofString "Decimal", Bool.true, [], [], Bool.false, .none, Bool.false⟩, #[.none, .none, .some (.str (Str.ofString "Decimal") 254), .some (.str (Str.ofString "Decimal") 262), .some (.builtin "object.__new__"), .some (.bool Bool.true)]⟩) ::
  (nat_lit 156, ⟨.type "getset_descriptor", .none, .fields #[.str (Str.ofString "__dict__") 362, .ref 155, .builtin "function.__dict__", .builtin "function.__dict__#set"], #[]⟩) ::
  (nat_lit 157, ⟨.type "getset_descriptor", .none, .fields #[.str (Str.ofString "__weakref__") 364, .ref 155, .builtin "ExceptionGroup.__weakref__", Value.none], #[]⟩) ::
  (nat_lit 160, ⟨.type "tuple", .none, .seq #[] 0, #[]⟩) ::
  (nat_lit 162, ⟨.type "tuple", .none, .seq #[.str (Str.ofString "number") 372] 0, #[]⟩) ::
  (nat_lit 163, ⟨.type "tuple", .none, .seq #[] 0, #[]⟩) ::
  (nat_lit 165, ⟨.type "code", .none, .fields #[.str (Str.ofString "sign_text") 369, .str (Str.ofString "sign_text") 370, .str (Str.ofString "/claim/cut.py") 371, .int 65 0, .int 1 0, .int 0 0, .int 0 0, .int 3 0, .ref 160, .bool Bool.true, .int 181 0, .ref 161, Value.none, .ref 162, .ref 163, .ref 164, .int 373 0, .int 65 0, .str (Str.ofString "/claim/cut.py") 374], #[]⟩) ::
  (nat_lit 166, ⟨.type "function", .none, .func ⟨Str.ofString "sign_text", Str.ofString "sign_text", (fP 6 0), .stmts (fB 6 0), (fS 6 0), 3, [], Value.none, Value.none, Value.none, .str (Str.ofString "paperhold.decimals") 252, .none, .ref 165, Value.none, 0⟩, #[]⟩) ::
  (nat_lit 174, ⟨.type "tuple", .none, .seq #[] 0, #[]⟩) ::
  (nat_lit 176, ⟨.type "tuple", .none, .seq #[.str (Str.ofString "self") 395, .str (Str.ofString "text") 396] 0, #[]⟩) ::
  (nat_lit 177, ⟨.type "tuple", .none, .seq #[] 0, #[]⟩) ::
  (nat_lit 179, ⟨.type "code", .none, .fields #[.str (Str.ofString "__init__") 392, .str (Str.ofString "Name.__init__") 393, .str (Str.ofString "/claim/cut.py") 394, .int 71 0, .int 2 0, .int 0 0, .int 0 0, .int 3 0, .ref 174, .bool Bool.true, .int 181 0, .ref 175, Value.none, .ref 176, .ref 177, .ref 178, .int 397 0, .int 71 0, .str (Str.ofString "/claim/cut.py") 398], #[]⟩) ::
  (nat_lit 180, ⟨.type "function", .none, .func ⟨Str.ofString "__init__", Str.ofString "Name.__init__", (fP 9 1), .stmts (fB 9 1), (fS 9 1), 3, [], Value.none, Value.none, Value.none, .str (Str.ofString "paperhold.objects") 376, .none, .ref 179, Value.none, 0⟩, #[]⟩) ::
  (nat_lit 181, ⟨.type "tuple", .none, .seq #[.str (Str.ofString "text") 400] 0, #[]⟩) ::
  (nat_lit 182, ⟨.type "dict", .none, .dict #[dk P "__module__" 387 (.str (Str.ofString "paperhold.objects") 376), dk P "__firstlineno__" 391 (.int 69 390), dk P "__init__" 399 (.ref 180), dk P "__static_attributes__" 401 (.ref 181), dk P "__dict__" 403 (.ref 184), dk P "__weakref__" 405 (.ref 185), dk P "__doc__" 406 Value.none] 4, #[]⟩) ::
  (nat_lit 183, ⟨.type "type", .none, .cls ⟨Str.ofString "Name", [.type "object"], [.ref 183, .type "object"], 182, Str.ofString "Name", Bool.true, [], [], Bool.false, .none, Bool.false⟩, #[.none, .none, .some (.str (Str.ofString "Name") 380), .some (.str (Str.ofString "Name") 388), .some (.builtin "object.__new__"), .some (.bool Bool.true)]⟩) ::
  (nat_lit 184, ⟨.type "getset_descriptor", .none, .fields #[.str (Str.ofString "__dict__") 402, .ref 183, .builtin "function.__dict__", .builtin "function.__dict__#set"], #[]⟩) ::
  (nat_lit 185, ⟨.type "getset_descriptor", .none, .fields #[.str (Str.ofString "__weakref__") 404, .ref 183, .builtin "ExceptionGroup.__weakref__", Value.none], #[]⟩) ::
  (nat_lit 195, ⟨.type "tuple", .none, .seq #[.bool Bool.false] 0, #[]⟩) ::
  (nat_lit 196, ⟨.type "tuple", .none, .seq #[] 0, #[]⟩) ::
  (nat_lit 198, ⟨.type "tuple", .none, .seq #[.str (Str.ofString "self") 424, .str (Str.ofString "octets") 425, .str (Str.ofString "is_hex") 426] 0, #[]⟩) ::
  (nat_lit 199, ⟨.type "tuple", .none, .seq #[] 0, #[]⟩) ::
  (nat_lit 201, ⟨.type "code", .none, .fields #[.str (Str.ofString "__init__") 421, .str (Str.ofString "String.__init__") 422, .str (Str.ofString "/claim/cut.py") 423, .int 75 0, .int 3 0, .int 0 0, .int 0 0, .int 3 0, .ref 196, .bool Bool.true, .int 181 0, .ref 197, Value.none, .ref 198, .ref 199, .ref 200, .int 427 0, .int 75 0, .str (Str.ofString "/claim/cut.py") 428], #[]⟩) ::
  (nat_lit 202, ⟨.type "function", .none, .func ⟨Str.ofString "__init__", Str.ofString "String.__init__", (fP 10 1), .stmts (fB 10 1), (fS 10 1), 3, [], .ref 195, Value.none, Value.none, .str (Str.ofString "paperhold.objects") 376, .none, .ref 201, Value.none, 0⟩, #[]⟩) ::
  (nat_lit 203, ⟨.type "tuple", .none, .seq #[.str (Str.ofString "is_hex") 430, .str (Str.ofString "octets") 431] 0, #[]⟩) ::
  (nat_lit 204, ⟨.type "dict", .none, .dict #[dk P "__module__" 416 (.str (Str.ofString "paperhold.objects") 376), dk P "__firstlineno__" 420 (.int 73 419), dk P "__init__" 429 (.ref 202), dk P "__static_attributes__" 432 (.ref 203), dk P "__dict__" 434 (.ref 206), dk P "__weakref__" 436 (.ref 207), dk P "__doc__" 437 Value.none] 4, #[]⟩) ::
  (nat_lit 205, ⟨.type "type", .none, .cls ⟨Str.ofString "String", [.type "object"], [.ref 205, .type "object"], 204, Str.ofString "String", Bool.true, [], [], Bool.false, .none, Bool.false⟩, #[.none, .none, .some (.str (Str.ofString "String") 409), .some (.str (Str.ofString "String") 417), .some (.builtin "object.__new__"), .some (.bool Bool.true)]⟩) ::
  (nat_lit 206, ⟨.type "getset_descriptor", .none, .fields #[.str (Str.ofString "__dict__") 433, .ref 205, .builtin "function.__dict__", .builtin "function.__dict__#set"], #[]⟩) ::
  (nat_lit 207, ⟨.type "getset_descriptor", .none, .fields #[.str (Str.ofString "__weakref__") 435, .ref 205, .builtin "ExceptionGroup.__weakref__", Value.none], #[]⟩) ::
  (nat_lit 217, ⟨.type "tuple", .none, .seq #[] 0, #[]⟩) ::
  (nat_lit 219, ⟨.type "tuple", .none, .seq #[.str (Str.ofString "self") 455, .str (Str.ofString "head") 456, .str (Str.ofString "octets") 457] 0, #[]⟩) ::
  (nat_lit 220, ⟨.type "tuple", .none, .seq #[] 0, #[]⟩) ::
  (nat_lit 222, ⟨.type "code", .none, .fields #[.str (Str.ofString "__init__") 452, .str (Str.ofString "Stream.__init__") 453, .str (Str.ofString "/claim/cut.py") 454, .int 80 0, .int 3 0, .int 0 0, .int 0 0, .int 3 0, .ref 217, .bool Bool.true, .int 181 0, .ref 218, Value.none, .ref 219, .ref 220, .ref 221, .int 458 0, .int 80 0, .str (Str.ofString "/claim/cut.py") 459], #[]⟩) ::
  (nat_lit 223, ⟨.type "function", .none, .func ⟨Str.ofString "__init__", Str.ofString "Stream.__init__", (fP 11 1), .stmts (fB 11 1), (fS 11 1), 3, [], Value.none, Value.none, Value.none, .str (Str.ofString "paperhold.objects") 376, .none, .ref 222, Value.none, 0⟩, #[]⟩) ::
  (nat_lit 224, ⟨.type "tuple", .none, .seq #[.str (Str.ofString "head") 461, .str (Str.ofString "octets") 462] 0, #[]⟩) ::
  (nat_lit 225, ⟨.type "dict", .none, .dict #[dk P "__module__" 447 (.str (Str.ofString "paperhold.objects") 376), dk P "__firstlineno__" 451 (.int 78 450), dk P "__init__" 460 (.ref 223), dk P "__static_attributes__" 463 (.ref 224), dk P "__dict__" 465 (.ref 227), dk P "__weakref__" 467 (.ref 228), dk P "__doc__" 468 Value.none] 4, #[]⟩) ::
  (nat_lit 226, ⟨.type "type", .none, .cls ⟨Str.ofString "Stream", [.type "object"], [.ref 226, .type "object"], 225, Str.ofString "Stream", Bool.true, [], [], Bool.false, .none, Bool.false⟩, #[.none, .none, .some (.str (Str.ofString "Stream") 440), .some (.str (Str.ofString "Stream") 448), .some (.builtin "object.__new__"), .some (.bool Bool.true)]⟩) ::
  (nat_lit 227, ⟨.type "getset_descriptor", .none, .fields #[.str (Str.ofString "__dict__") 464, .ref 226, .builtin "function.__dict__", .builtin "function.__dict__#set"], #[]⟩) ::
  (nat_lit 228, ⟨.type "getset_descriptor", .none, .fields #[.str (Str.ofString "__weakref__") 466, .ref 226, .builtin "ExceptionGroup.__weakref__", Value.none], #[]⟩) ::
  (nat_lit 238, ⟨.type "tuple", .none, .seq #[] 0, #[]⟩) ::
  (nat_lit 240, ⟨.type "tuple", .none, .seq #[.str (Str.ofString "self") 486, .str (Str.ofString "number") 487, .str (Str.ofString "generation") 488] 0, #[]⟩) ::
  (nat_lit 241, ⟨.type "tuple", .none, .seq #[] 0, #[]⟩) ::
  (nat_lit 243, ⟨.type "code", .none, .fields #[.str (Str.ofString "__init__") 483, .str (Str.ofString "Reference.__init__") 484, .str (Str.ofString "/claim/cut.py") 485, .int 85 0, .int 3 0, .int 0 0, .int 0 0, .int 3 0, .ref 238, .bool Bool.true, .int 181 0, .ref 239, Value.none, .ref 240, .ref 241, .ref 242, .int 489 0, .int 85 0, .str (Str.ofString "/claim/cut.py") 490], #[]⟩) ::
  (nat_lit 244, ⟨.type "function", .none, .func ⟨Str.ofString "__init__", Str.ofString "Reference.__init__", (fP 12 1), .stmts (fB 12 1), (fS 12 1), 3, [], Value.none, Value.none, Value.none, .str (Str.ofString "paperhold.objects") 376, .none, .ref 243, Value.none, 0⟩, #[]⟩) ::
  (nat_lit 245, ⟨.type "tuple", .none, .seq #[] 0, #[]⟩) ::
  (nat_lit 247, ⟨.type "tuple", .none, .seq #[.str (Str.ofString "self") 495] 0, #[]⟩) ::
  (nat_lit 248, ⟨.type "tuple", .none, .seq #[] 0, #[]⟩) ::
  (nat_lit 250, ⟨.type "code", .none, .fields #[.str (Str.ofString "pair") 492, .str (Str.ofString "Reference.pair") 493, .str (Str.ofString "/claim/cut.py") 494, .int 89 0, .int 1 0, .int 0 0, .int 0 0, .int 3 0, .ref 245, .bool Bool.true, .int 181 0, .ref 246, Value.none, .ref 247, .ref 248, .ref 249, .int 496 0, .int 89 0, .str (Str.ofString "/claim/cut.py") 497], #[]⟩) ::
  (nat_lit 251, ⟨.type "function", .none, .func ⟨Str.ofString "pair", Str.ofString "Reference.pair", (fP 12 2), .stmts (fB 12 2), (fS 20 5), 3, [], Value.none, Value.none, Value.none, .str (Str.ofString "paperhold.objects") 376, .none, .ref 250, Value.none, 0⟩, #[]⟩) ::
  (nat_lit 252, ⟨.type "tuple", .none, .seq #[.str (Str.ofString "generation") 499, .str (Str.ofString "number") 500] 0, #[]⟩) ::
  (nat_lit 253, ⟨.type "dict", .none, .dict #[dk P "__module__" 478 (.str (Str.ofString "paperhold.objects") 376), dk P "__firstlineno__" 482 (.int 83 481), dk P "__init__" 491 (.ref 244), dk P "pair" 498 (.ref 251), dk P "__static_attributes__" 501 (.ref 252), dk P "__dict__" 503 (.ref 255), dk P "__weakref__" 505 (.ref 256), dk P "__doc__" 506 Value.none] 4, #[]⟩) ::
  (nat_lit 254, ⟨.type "type", .none, .cls ⟨Str.ofString "Reference", [.type "object"], [.ref 254, .type "object"], 253, Str.ofString "Reference", Bool.true, [], [], Bool.false, .none, Bool.false⟩, #[.none, .none, .some (.str (Str.ofString "Reference") 471), .some (.str (Str.ofString "Reference") 479), .some (.builtin "object.__new__"), .some (.bool Bool.true)]⟩) ::
  (nat_lit 255, ⟨.type "getset_descriptor", .none, .fields #[.str (Str.ofString "__dict__") 502, .ref 254, .builtin "function.__dict__", .builtin "function.__dict__#set"], #[]⟩) ::
  (nat_lit 256, ⟨.type "getset_descriptor", .none, .fields #[.str (Str.ofString "__weakref__") 504, .ref 254, .builtin "ExceptionGroup.__weakref__", Value.none], #[]⟩) ::
  (nat_lit 259, ⟨.type "tuple", .none, .seq #[] 0, #[]⟩) ::
  (nat_lit 261, ⟨.type "tuple", .none, .seq #[.str (Str.ofString "value") 512] 0, #[]⟩) ::
  (nat_lit 262, ⟨.type "tuple", .none, .seq #[] 0, #[]⟩) ::
  (nat_lit 264, ⟨.type "code", .none, .fields #[.str (Str.ofString "kind_of") 509, .str (Str.ofString "kind_of") 510, .str (Str.ofString "/claim/cut.py") 511, .int 91 0, .int 1 0, .int 0 0, .int 0 0, .int 3 0, .ref 259, .bool Bool.true, .int 181 0, .ref 260, Value.none, .ref 261, .ref 262, .ref 263, .int 513 0, .int 91 0, .str (Str.ofString "/claim/cut.py") 514], #[]⟩) ::
  (nat_lit 265, ⟨.type "function", .none, .func ⟨Str.ofString "kind_of", Str.ofString "kind_of", (fP 13 0), .stmts (fB 13 0), (fS 13 0), 3, [], Value.none, Value.none, Value.none, .str (Str.ofString "paperhold.objects") 376, .none, .ref 264, Value.none, 0⟩, #[]⟩) ::
  (nat_lit 266, ⟨.type "tuple", .none, .seq #[] 0, #[]⟩) ::
  (nat_lit 268, ⟨.type "tuple", .none, .seq #[.str (Str.ofString "kind") 519, .str (Str.ofString "value") 520] 0, #[]⟩) ::
  (nat_lit 269, ⟨.type "tuple", .none, .seq #[] 0, #[]⟩) ::
  (nat_lit 271, ⟨.type "code", .none, .fields #[.str (Str.ofString "told_plain") 516, .str (Str.ofString "told_plain") 517, .str (Str.ofString "/claim/cut.py") 518, .int 113 0, .int 2 0, .int 0 0, .int 0 0, .int 3 0, .ref 266, .bool Bool.true, .int 181 0, .ref 267, Value.none, .ref 268, .ref 269, .ref 270, .int 521 0, .int 113 0, .str (Str.ofString "/claim/cut.py") 522], #[]⟩) ::
  (nat_lit 272, ⟨.type "function", .none, .func ⟨Str.ofString "told_plain", Str.ofString "told_plain", (fP 14 0), .stmts (fB 14 0), (fS 14 0), 3, [], Value.none, Value.none, Value.none, .str (Str.ofString "paperhold.objects") 376, .none, .ref 271, Value.none, 0⟩, #[]⟩) ::
  (nat_lit 273, ⟨.type "tuple", .none, .seq #[] 0, #[]⟩) ::
  (nat_lit 276, ⟨.type "code", .none, .fields #[.str (Str.ofString "told") 524, .str (Str.ofString "told") 525, .str (Str.ofString "/claim/cut.py") 526, .int 127 0, .int 1 0, .int 0 0, .int 0 0, .int 3 0, .ref 273, .bool Bool.true, .int 181 0, .ref 274, Value.none, Value.none, Value.none, .ref 275, .int 527 0, .int 127 0, .str (Str.ofString "/claim/cut.py") 528], #[]⟩) ::
  (nat_lit 277, ⟨.type "function", .none, .func ⟨Str.ofString "told", Str.ofString "told", (fP 15 0), .stmts (fB 15 0), (fS 15 0), 3, [], Value.none, Value.none, Value.none, .str (Str.ofString "paperhold.objects") 376, .none, .ref 276, Value.none, 0⟩, #[]⟩) ::
  (nat_lit 278, ⟨.type "tuple", .none, .seq #[] 0, #[]⟩) ::
  (nat_lit 281, ⟨.type "code", .none, .fields #[.str (Str.ofString "parts_of") 531, .str (Str.ofString "parts_of") 532, .str (Str.ofString "/claim/cut.py") 533, .int 137 0, .int 1 0, .int 0 0, .int 0 0, .int 3 0, .ref 278, .bool Bool.true, .int 181 0, .ref 279, Value.none, Value.none, Value.none, .ref 280, .int 534 0, .int 137 0, .str (Str.ofString "/claim/cut.py") 535], #[]⟩) ::
  (nat_lit 282, ⟨.type "function", .none, .func ⟨Str.ofString "parts_of", Str.ofString "parts_of", (fP 17 0), .stmts (fB 17 0), (fS 17 0), 3, [], Value.none, Value.none, Value.none, .str (Str.ofString "paperhold.objects") 376, .none, .ref 281, Value.none, 0⟩, #[]⟩) ::
  (nat_lit 283, ⟨.type "tuple", .none, .seq #[] 0, #[]⟩) ::
  (nat_lit 285, ⟨.type "tuple", .none, .seq #[.str (Str.ofString "value") 540, .str (Str.ofString "deepest") 541, .str (Str.ofString "line") 542, .str (Str.ofString "here") 543, .str (Str.ofString "above") 544, .str (Str.ofString "part") 545] 0, #[]⟩) ::
  (nat_lit 286, ⟨.type "tuple", .none, .seq #[] 0, #[]⟩) ::
  (nat_lit 288, ⟨.type "code", .none, .fields #[.str (Str.ofString "depth_of") 537, .str (Str.ofString "depth_of") 538, .str (Str.ofString "/claim/cut.py") 539, .int 146 0, .int 1 0, .int 0 0, .int 0 0, .int 3 0, .ref 283, .bool Bool.true, .int 181 0, .ref 284, Value.none, .ref 285, .ref 286, .ref 287, .int 546 0, .int 146 0, .str (Str.ofString "/claim/cut.py") 547], #[]⟩) ::
  (nat_lit 289, ⟨.type "function", .none, .func ⟨Str.ofString "depth_of", Str.ofString "depth_of", (fP 18 0), .stmts (fB 18 0), (fS 18 0), 3, [], Value.none, Value.none, Value.none, .str (Str.ofString "paperhold.objects") 376, .none, .ref 288, Value.none, 0⟩, #[]⟩) ::
  (nat_lit 297, ⟨.type "tuple", .none, .seq #[Value.none, Value.none] 0, #[]⟩) ::
  (nat_lit 298, ⟨.type "tuple", .none, .seq #[] 0, #[]⟩) ::
  (nat_lit 300, ⟨.type "tuple", .none, .seq #[.str (Str.ofString "self") 564, .str (Str.ofString "table") 565, .str (Str.ofString "trailer") 566] 0, #[]⟩) ::
  (nat_lit 301, ⟨.type "tuple", .none, .seq #[] 0, #[]⟩) ::
  (nat_lit 303, ⟨.type "code", .none, .fields #[.str (Str.ofString "__init__") 561, .str (Str.ofString "Lookup.__init__") 562, .str (Str.ofString "/claim/cut.py") 563, .int 158 0, .int 3 0, .int 0 0, .int 0 0, .int 3 0, .ref 298, .bool Bool.true, .int 181 0, .ref 299, Value.none, .ref 300, .ref 301, .ref 302, .int 567 0, .int 158 0, .str (Str.ofString "/claim/cut.py") 568], #[]⟩) ::
  (nat_lit 304, ⟨.type "function", .none, .func ⟨Str.ofString "__init__", Str.ofString "Lookup.__init__", (fP 19 1), .stmts (fB 19 1), (fS 19 1), 3, [], .ref 297, Value.none, Value.none, .str (Str.ofString "paperhold.objects") 376, .none, .ref 303, Value.none, 0⟩, #[]⟩) ::
  (nat_lit 305, ⟨.type "tuple", .none, .seq #[] 0, #[]⟩) ::
  (nat_lit 307, ⟨.type "tuple", .none, .seq #[.str (Str.ofString "self") 573, .str (Str.ofString "value") 574, .str (Str.ofString "here") 575, .str (Str.ofString "hop") 576, .str (Str.ofString "generation") 577, .str (Str.ofString "found") 578] 0, #[]⟩) ::
  (nat_lit 308, ⟨.type "tuple", .none, .seq #[] 0, #[]⟩) ::
  (nat_lit 310, ⟨.type "code", .none, .fields #[.str (Str.ofString "fetch") 570, .str (Str.ofString "Lookup.fetch") 571, .str (Str.ofString "/claim/cut.py") 572, .int 162 0, .int 2 0, .int 0 0, .int 0 0, .int 3 0, .ref 305, .bool Bool.true, .int 181 0, .ref 306, Value.none, .ref 307, .ref 308, .ref 309, .int 579 0, .int 162 0, .str (Str.ofString "/claim/cut.py") 580], #[]⟩) ::
  (nat_lit 311, ⟨.type "function", .none, .func ⟨Str.ofString "fetch", Str.ofString "Lookup.fetch", (fP 19 2), .stmts (fB 19 2), (fS 19 2), 3, [], Value.none, Value.none, Value.none, .str (Str.ofString "paperhold.objects") 376, .none, .ref 310, Value.none, 0⟩, #[]⟩) ::
  (nat_lit 312, ⟨.type "tuple", .none, .seq #[] 0, #[]⟩) ::
  (nat_lit 314, ⟨.type "tuple", .none, .seq #[.str (Str.ofString "self") 585, .str (Str.ofString "head") 586, .str (Str.ofString "key") 587] 0, #[]⟩) ::
  (nat_lit 315, ⟨.type "tuple", .none, .seq #[] 0, #[]⟩) ::
  (nat_lit 317, ⟨.type "code", .none, .fields #[.str (Str.ofString "get") 582, .str (Str.ofString "Lookup.get") 583, .str (Str.ofString "/claim/cut.py") 584, .int 173 0, .int 3 0, .int 0 0, .int 0 0, .int 3 0, .ref 312, .bool Bool.true, .int 181 0, .ref 313, Value.none, .ref 314, .ref 315, .ref 316, .int 588 0, .int 173 0, .str (Str.ofString "/claim/cut.py") 589], #[]⟩) ::
  (nat_lit 318, ⟨.type "function", .none, .func ⟨Str.ofString "get", Str.ofString "Lookup.get", (fP 19 3), .stmts (fB 19 3), (fS 19 3), 3, [], Value.none, Value.none, Value.none, .str (Str.ofString "paperhold.objects") 376, .none, .ref 317, Value.none, 0⟩, #[]⟩) ::
  (nat_lit 319, ⟨.type "tuple", .none, .seq #[.str (Str.ofString "table") 591, .str (Str.ofString "trailer") 592] 0, #[]⟩) ::
  (nat_lit 320, ⟨.type "dict", .none, .dict #[dk P "__module__" 556 (.str (Str.ofString "paperhold.objects") 376), dk P "__firstlineno__" 560 (.int 156 559), dk P "__init__" 569 (.ref 304), dk P "fetch" 581 (.ref 311), dk P "get" 590 (.ref 318), dk P "__static_attributes__" 593 (.ref 319), dk P "__dict__" 595 (.ref 322), dk P "__weakref__" 597 (.ref 323), dk P "__doc__" 598 Value.none] 4, #[]⟩) ::
  (nat_lit 321, ⟨.type "type", .none, .cls ⟨Str.ofString "Lookup", [.type "object"], [.ref 321, .type "object"], 320, Str.ofString "Lookup", Bool.true, [], [.ref 375], Bool.false, .none, Bool.false⟩, #[.none, .none, .some (.str (Str.ofString "Lookup") 549), .some (.str (Str.ofString "Lookup") 557), .some (.builtin "object.__new__"), .some (.bool Bool.true)]⟩) ::
  (nat_lit 322, ⟨.type "getset_descriptor", .none, .fields #[.str (Str.ofString "__dict__") 594, .ref 321, .builtin "function.__dict__", .builtin "function.__dict__#set"], #[]⟩) ::
  (nat_lit 323, ⟨.type "getset_descriptor", .none, .fields #[.str (Str.ofString "__weakref__") 596, .ref 321, .builtin "ExceptionGroup.__weakref__", Value.none], #[]⟩) ::
  (nat_lit 326, ⟨.type "tuple", .none, .seq #[.ref 321] 0, #[]⟩) ::
  (nat_lit 333, ⟨.type "tuple", .none, .seq #[] 0, #[]⟩) ::
  (nat_lit 335, ⟨.type "tuple", .none, .seq #[.str (Str.ofString "self") 616, .str (Str.ofString "number") 617, .str (Str.ofString "generation") 618, .str (Str.ofString "value") 619] 0, #[]⟩) ::
  (nat_lit 336, ⟨.type "tuple", .none, .seq #[] 0, #[]⟩) ::
  (nat_lit 338, ⟨.type "code", .none, .fields #[.str (Str.ofString "put") 613, .str (Str.ofString "Shelf.put") 614, .str (Str.ofString "/claim/cut.py") 615, .int 177 0, .int 4 0, .int 0 0, .int 0 0, .int 3 0, .ref 333, .bool Bool.true, .int 181 0, .ref 334, Value.none, .ref 335, .ref 336, .ref 337, .int 620 0, .int 177 0, .str (Str.ofString "/claim/cut.py") 621], #[]⟩) ::
  (nat_lit 339, ⟨.type "function", .none, .func ⟨Str.ofString "put", Str.ofString "Shelf.put", (fP 20 1), .stmts (fB 20 1), (fS 20 1), 3, [], Value.none, Value.none, Value.none, .str (Str.ofString "paperhold.objects") 376, .none, .ref 338, Value.none, 0⟩, #[]⟩) ::
  (nat_lit 340, ⟨.type "tuple", .none, .seq #[] 0, #[]⟩) ::
  (nat_lit 342, ⟨.type "tuple", .none, .seq #[.str (Str.ofString "self") 626, .str (Str.ofString "value") 627] 0, #[]⟩) ::
  (nat_lit 343, ⟨.type "tuple", .none, .seq #[] 0, #[]⟩) ::
  (nat_lit 345, ⟨.type "code", .none, .fields #[.str (Str.ofString "add") 623, .str (Str.ofString "Shelf.add") 624, .str (Str.ofString "/claim/cut.py") 625, .int 180 0, .int 2 0, .int 0 0, .int 0 0, .int 3 0, .ref 340, .bool Bool.true, .int 181 0, .ref 341, Value.none, .ref 342, .ref 343, .ref 344, .int 628 0, .int 180 0, .str (Str.ofString "/claim/cut.py") 629], #[]⟩) ::
  (nat_lit 346, ⟨.type "function", .none, .func ⟨Str.ofString "add", Str.ofString "Shelf.add", (fP 20 2), .stmts (fB 20 2), (fS 20 2), 3, [], Value.none, Value.none, Value.none, .str (Str.ofString "paperhold.objects") 376, .none, .ref 345, Value.none, 0⟩, #[]⟩) ::
  (nat_lit 347, ⟨.type "tuple", .none, .seq #[] 0, #[]⟩) ::
  (nat_lit 349, ⟨.type "tuple", .none, .seq #[.str (Str.ofString "self") 634, .str (Str.ofString "number") 635] 0, #[]⟩) ::
  (nat_lit 350, ⟨.type "tuple", .none, .seq #[] 0, #[]⟩) ::
  (nat_lit 352, ⟨.type "code", .none, .fields #[.str (Str.ofString "drop") 631, .str (Str.ofString "Shelf.drop") 632, .str (Str.ofString "/claim/cut.py") 633, .int 183 0, .int 2 0, .int 0 0, .int 0 0, .int 3 0, .ref 347, .bool Bool.true, .int 181 0, .ref 348, Value.none, .ref 349, .ref 350, .ref 351, .int 636 0, .int 183 0, .str (Str.ofString "/claim/cut.py") 637], #[]⟩) ::
  (nat_lit 353, ⟨.type "function", .none, .func ⟨Str.ofString "drop", Str.ofString "Shelf.drop", (fP 20 3), .stmts (fB 20 3), (fS 20 3), 3, [], Value.none, Value.none, Value.none, .str (Str.ofString "paperhold.objects") 376, .none, .ref 352, Value.none, 0⟩, #[]⟩) ::
  (nat_lit 354, ⟨.type "tuple", .none, .seq #[] 0, #[]⟩) ::
  (nat_lit 356, ⟨.type "tuple", .none, .seq #[.str (Str.ofString "self") 642] 0, #[]⟩) ::
  (nat_lit 357, ⟨.type "tuple", .none, .seq #[] 0, #[]⟩) ::
  (nat_lit 359, ⟨.type "code", .none, .fields #[.str (Str.ofString "numbers") 639, .str (Str.ofString "Shelf.numbers") 640, .str (Str.ofString "/claim/cut.py") 641, .int 186 0, .int 1 0, .int 0 0, .int 0 0, .int 3 0, .ref 354, .bool Bool.true, .int 181 0, .ref 355, Value.none, .ref 356, .ref 357, .ref 358, .int 643 0, .int 186 0, .str (Str.ofString "/claim/cut.py") 644], #[]⟩) ::
  (nat_lit 360, ⟨.type "function", .none, .func ⟨Str.ofString "numbers", Str.ofString "Shelf.numbers", (fP 20 4), .stmts (fB 20 4), (fS 20 4), 3, [], Value.none, Value.none, Value.none, .str (Str.ofString "paperhold.objects") 376, .none, .ref 359, Value.none, 0⟩, #[]⟩) ::
  (nat_lit 361, ⟨.type "tuple", .none, .seq #[] 0, #[]⟩) ::
  (nat_lit 363, ⟨.type "tuple", .none, .seq #[.str (Str.ofString "self") 649] 0, #[]⟩) ::
  (nat_lit 364, ⟨.type "tuple", .none, .seq #[] 0, #[]⟩) ::
  (nat_lit 366, ⟨.type "code", .none, .fields #[.str (Str.ofString "root") 646, .str (Str.ofString "Shelf.root") 647, .str (Str.ofString "/claim/cut.py") 648, .int 189 0, .int 1 0, .int 0 0, .int 0 0, .int 3 0, .ref 361, .bool Bool.true, .int 181 0, .ref 362, Value.none, .ref 363, .ref 364, .ref 365, .int 650 0, .int 189 0, .str (Str.ofString "/claim/cut.py") 651], #[]⟩) ::
  (nat_lit 367, ⟨.type "function", .none, .func ⟨Str.ofString "root", Str.ofString "Shelf.root", (fP 20 5), .stmts (fB 20 5), (fS 20 5), 3, [], Value.none, Value.none, Value.none, .str (Str.ofString "paperhold.objects") 376, .none, .ref 366, Value.none, 0⟩, #[]⟩) ::
  (nat_lit 368, ⟨.type "tuple", .none, .seq #[] 0, #[]⟩) ::
  (nat_lit 371, ⟨.type "code", .none, .fields #[.str (Str.ofString "told") 653, .str (Str.ofString "Shelf.told") 654, .str (Str.ofString "/claim/cut.py") 655, .int 192 0, .int 1 0, .int 0 0, .int 0 0, .int 3 0, .ref 368, .bool Bool.true, .int 181 0, .ref 369, Value.none, Value.none, Value.none, .ref 370, .int 656 0, .int 192 0, .str (Str.ofString "/claim/cut.py") 657], #[]⟩) ::
  (nat_lit 372, ⟨.type "function", .none, .func ⟨Str.ofString "told", Str.ofString "Shelf.told", (fP 20 6), .stmts (fB 20 6), (fS 20 6), 3, [], Value.none, Value.none, Value.none, .str (Str.ofString "paperhold.objects") 376, .none, .ref 371, Value.none, 0⟩, #[]⟩) ::
  (nat_lit 373, ⟨.type "tuple", .none, .seq #[] 0, #[]⟩) ::
  (nat_lit 374, ⟨.type "dict", .none, .dict #[dk P "__module__" 608 (.str (Str.ofString "paperhold.objects") 376), dk P "__firstlineno__" 612 (.int 175 611), dk P "put" 622 (.ref 339), dk P "add" 630 (.ref 346), dk P "drop" 638 (.ref 353), dk P "numbers" 645 (.ref 360), dk P "root" 652 (.ref 367), dk P "told" 658 (.ref 372), dk P "__static_attributes__" 659 (.ref 373), dk P "__doc__" 660 Value.none] 2, #[]⟩) ::
  (nat_lit 375, ⟨.type "type", .none, .cls ⟨Str.ofString "Shelf", [.ref 321], [.ref 375, .ref 321, .type "object"], 374, Str.ofString "Shelf", Bool.true, [], [], Bool.false, .none, Bool.false⟩, #[.some (.ref 326), .none, .some (.str (Str.ofString "Shelf") 601), .some (.str (Str.ofString "Shelf") 609), .some (.builtin "object.__new__"), .some (.bool Bool.true)]⟩) ::
  (nat_lit 378, ⟨.type "tuple", .none, .seq #[.int 0 665, .int 9 666, .int 10 667, .int 12 668, .int 13 669, .int 32 670] 0, #[]⟩) ::
  (nat_lit 379, ⟨.type "tuple", .none, .seq #[.int 40 672, .int 41 673, .int 60 674, .int 62 675, .int 91 676, .int 93 677, .int 123 678, .int 125 679, .int 47 680, .int 37 681] 0, #[]⟩) ::
  (nat_lit 380, ⟨.type "tuple", .none, .seq #[] 0, #[]⟩) ::
  (nat_lit 382, ⟨.type "tuple", .none, .seq #[.str (Str.ofString "code") 686] 0, #[]⟩) ::
  (nat_lit 383, ⟨.type "tuple", .none, .seq #[] 0, #[]⟩) ::
  (nat_lit 385, ⟨.type "code", .none, .fields #[.str (Str.ofString "is_regular") 683, .str (Str.ofString "is_regular") 684, .str (Str.ofString "/claim/cut.py") 685, .int 198 0, .int 1 0, .int 0 0, .int 0 0, .int 3 0, .ref 380, .bool Bool.true, .int 181 0, .ref 381, Value.none, .ref 382, .ref 383, .ref 384, .int 687 0, .int 198 0, .str (Str.ofString "/claim/cut.py") 688], #[]⟩) ::
  (nat_lit 386, ⟨.type "function", .none, .func ⟨Str.ofString "is_regular", Str.ofString "is_regular", (fP 24 0), .stmts (fB 24 0), (fS 24 0), 3, [], Value.none, Value.none, Value.none, .str (Str.ofString "paperhold.cursor") 663, .none, .ref 385, Value.none, 0⟩, #[]⟩) ::
  (nat_lit 387, ⟨.type "tuple", .none, .seq #[] 0, #[]⟩) ::
  (nat_lit 390, ⟨.type "code", .none, .fields #[.str (Str.ofString "text_octets") 708, .str (Str.ofString "text_octets") 709, .str (Str.ofString "/claim/cut.py") 710, .int 209 0, .int 1 0, .int 0 0, .int 0 0, .int 3 0, .ref 387, .bool Bool.true, .int 181 0, .ref 388, Value.none, Value.none, Value.none, .ref 389, .int 711 0, .int 209 0, .str (Str.ofString "/claim/cut.py") 712], #[]⟩) ::
  (nat_lit 391, ⟨.type "function", .none, .func ⟨Str.ofString "text_octets", Str.ofString "text_octets", (fP 34 0), .stmts (fB 34 0), (fS 34 0), 3, [], Value.none, Value.none, Value.none, .str (Str.ofString "paperhold.writer") 690, .none, .ref 390, Value.none, 0⟩, #[]⟩) ::
  (nat_lit 392, ⟨.type "tuple", .none, .seq #[] 0, #[]⟩) ::
  (nat_lit 394, ⟨.type "tuple", .none, .seq #[.str (Str.ofString "code") 717] 0, #[]⟩) ::
  (nat_lit 395, ⟨.type "tuple", .none, .seq #[] 0, #[]⟩) ::
  (nat_lit 397, ⟨.type "code", .none, .fields #[.str (Str.ofString "hex_pair") 714, .str (Str.ofString "hex_pair") 715, .str (Str.ofString "/claim/cut.py") 716, .int 211 0, .int 1 0, .int 0 0, .int 0 0, .int 3 0, .ref 392, .bool Bool.true, .int 181 0, .ref 393, Value.none, .ref 394, .ref 395, .ref 396, .int 718 0, .int 211 0, .str (Str.ofString "/claim/cut.py") 719], #[]⟩) ::
  (nat_lit 398, ⟨.type "function", .none, .func ⟨Str.ofString "hex_pair", Str.ofString "hex_pair", (fP 35 0), .stmts (fB 35 0), (fS 35 0), 3, [], Value.none, Value.none, Value.none, .str (Str.ofString "paperhold.writer") 690, .none, .ref 397, Value.none, 0⟩, #[]⟩) ::
  (nat_lit 399, ⟨.type "tuple", .none, .seq #[] 0, #[]⟩) ::
  (nat_lit 401, ⟨.type "tuple", .none, .seq #[.str (Str.ofString "text") 724, .str (Str.ofString "found") 725, .str (Str.ofString "sign") 726, .str (Str.ofString "code") 727] 0, #[]⟩) ::
  (nat_lit 402, ⟨.type "tuple", .none, .seq #[] 0, #[]⟩) ::
  (nat_lit 404, ⟨.type "code", .none, .fields #[.str (Str.ofString "name_octets") 721, .str (Str.ofString "name_octets") 722, .str (Str.ofString "/claim/cut.py") 723, .int 213 0, .int 1 0, .int 0 0, .int 0 0, .int 3 0, .ref 399, .bool Bool.true, .int 181 0, .ref 400, Value.none, .ref 401, .ref 402, .ref 403, .int 728 0, .int 213 0, .str (Str.ofString "/claim/cut.py") 729], #[]⟩) ::
  (nat_lit 405, ⟨.type "function", .none, .func ⟨Str.ofString "name_octets", Str.ofString "name_octets", (fP 36 0), .stmts (fB 36 0), (fS 36 0), 3, [], Value.none, Value.none, Value.none, .str (Str.ofString "paperhold.writer") 690, .none, .ref 404, Value.none, 0⟩, #[]⟩) ::
  (nat_lit 406, ⟨.type "tuple", .none, .seq #[] 0, #[]⟩) ::
  (nat_lit 408, ⟨.type "tuple", .none, .seq #[.str (Str.ofString "number") 734] 0, #[]⟩) ::
  (nat_lit 409, ⟨.type "tuple", .none, .seq #[] 0, #[]⟩) ::
  (nat_lit 411, ⟨.type "code", .none, .fields #[.str (Str.ofString "whole_octets") 731, .str (Str.ofString "whole_octets") 732, .str (Str.ofString "/claim/cut.py") 733, .int 225 0, .int 1 0, .int 0 0, .int 0 0, .int 3 0, .ref 406, .bool Bool.true, .int 181 0, .ref 407, Value.none, .ref 408, .ref 409, .ref 410, .int 735 0, .int 225 0, .str (Str.ofString "/claim/cut.py") 736], #[]⟩) ::
  (nat_lit 412, ⟨.type "function", .none, .func ⟨Str.ofString "whole_octets", Str.ofString "whole_octets", (fP 37 0), .stmts (fB 37 0), (fS 37 0), 3, [], Value.none, Value.none, Value.none, .str (Str.ofString "paperhold.writer") 690, .none, .ref 411, Value.none, 0⟩, #[]⟩) ::
  (nat_lit 413, ⟨.type "tuple", .none, .seq #[] 0, #[]⟩) ::
  (nat_lit 416, ⟨.type "code", .none, .fields #[.str (Str.ofString "decimal_octets") 738, .str (Str.ofString "decimal_octets") 739, .str (Str.ofString "/claim/cut.py") 740, .int 229 0, .int 2 0, .int 0 0, .int 0 0, .int 3 0, .ref 413, .bool Bool.true, .int 181 0, .ref 414, Value.none, Value.none, Value.none, .ref 415, .int 741 0, .int 229 0, .str (Str.ofString "/claim/cut.py") 742], #[]⟩) ::
  (nat_lit 417, ⟨.type "function", .none, .func ⟨Str.ofString "decimal_octets", Str.ofString "decimal_octets", (fP 38 0), .stmts (fB 38 0), (fS 38 0), 3, [], Value.none, Value.none, Value.none, .str (Str.ofString "paperhold.writer") 690, .none, .ref 416, Value.none, 0⟩, #[]⟩) ::
  (nat_lit 418, ⟨.type "tuple", .none, .seq #[] 0, #[]⟩) ::
  (nat_lit 420, ⟨.type "tuple", .none, .seq #[.str (Str.ofString "octets") 747, .str (Str.ofString "open_ones") 748, .str (Str.ofString "lone") 749, .str (Str.ofString "at") 750] 0, #[]⟩) ::
  (nat_lit 421, ⟨.type "tuple", .none, .seq #[] 0, #[]⟩) ::
  (nat_lit 423, ⟨.type "code", .none, .fields #[.str (Str.ofString "lone_brackets") 744, .str (Str.ofString "lone_brackets") 745, .str (Str.ofString "/claim/cut.py") 746, .int 239 0, .int 1 0, .int 0 0, .int 0 0, .int 3 0, .ref 418, .bool Bool.true, .int 181 0, .ref 419, Value.none, .ref 420, .ref 421, .ref 422, .int 751 0, .int 239 0, .str (Str.ofString "/claim/cut.py") 752], #[]⟩) ::
  (nat_lit 424, ⟨.type "function", .none, .func ⟨Str.ofString "lone_brackets", Str.ofString "lone_brackets", (fP 39 0), .stmts (fB 39 0), (fS 39 0), 3, [], Value.none, Value.none, Value.none, .str (Str.ofString "paperhold.writer") 690, .none, .ref 423, Value.none, 0⟩, #[]⟩) ::
  (nat_lit 425, ⟨.type "tuple", .none, .seq #[] 0, #[]⟩) ::
  (nat_lit 427, ⟨.type "tuple", .none, .seq #[.str (Str.ofString "octets") 757, .str (Str.ofString "lone") 758, .str (Str.ofString "found") 759, .str (Str.ofString "at") 760, .str (Str.ofString "code") 761] 0, #[]⟩) ::
  (nat_lit 428, ⟨.type "tuple", .none, .seq #[] 0, #[]⟩) ::
  (nat_lit 430, ⟨.type "code", .none, .fields #[.str (Str.ofString "literal_octets") 754, .str (Str.ofString "literal_octets") 755, .str (Str.ofString "/claim/cut.py") 756, .int 253 0, .int 1 0, .int 0 0, .int 0 0, .int 3 0, .ref 425, .bool Bool.true, .int 181 0, .ref 426, Value.none, .ref 427, .ref 428, .ref 429, .int 762 0, .int 253 0, .str (Str.ofString "/claim/cut.py") 763], #[]⟩) ::
  (nat_lit 431, ⟨.type "function", .none, .func ⟨Str.ofString "literal_octets", Str.ofString "literal_octets", (fP 40 0), .stmts (fB 40 0), (fS 40 0), 3, [], Value.none, Value.none, Value.none, .str (Str.ofString "paperhold.writer") 690, .none, .ref 430, Value.none, 0⟩, #[]⟩) ::
  (nat_lit 432, ⟨.type "tuple", .none, .seq #[] 0, #[]⟩) ::
  (nat_lit 434, ⟨.type "tuple", .none, .seq #[.str (Str.ofString "octets") 768, .str (Str.ofString "found") 769, .str (Str.ofString "code") 770] 0, #[]⟩) ::
  (nat_lit 435, ⟨.type "tuple", .none, .seq #[] 0, #[]⟩) ::
  (nat_lit 437, ⟨.type "code", .none, .fields #[.str (Str.ofString "hex_octets") 765, .str (Str.ofString "hex_octets") 766, .str (Str.ofString "/claim/cut.py") 767, .int 266 0, .int 1 0, .int 0 0, .int 0 0, .int 3 0, .ref 432, .bool Bool.true, .int 181 0, .ref 433, Value.none, .ref 434, .ref 435, .ref 436, .int 771 0, .int 266 0, .str (Str.ofString "/claim/cut.py") 772], #[]⟩) ::
  (nat_lit 438, ⟨.type "function", .none, .func ⟨Str.ofString "hex_octets", Str.ofString "hex_octets", (fP 41 0), .stmts (fB 41 0), (fS 41 0), 3, [], Value.none, Value.none, Value.none, .str (Str.ofString "paperhold.writer") 690, .none, .ref 437, Value.none, 0⟩, #[]⟩) ::
  (nat_lit 439, ⟨.type "tuple", .none, .seq #[] 0, #[]⟩) ::
  (nat_lit 441, ⟨.type "tuple", .none, .seq #[.str (Str.ofString "value") 777, .str (Str.ofString "is_least") 778, .str (Str.ofString "rounded_form") 779, .str (Str.ofString "angled_form") 780] 0, #[]⟩) ::
  (nat_lit 442, ⟨.type "tuple", .none, .seq #[] 0, #[]⟩) ::
  (nat_lit 444, ⟨.type "code", .none, .fields #[.str (Str.ofString "string_octets") 774, .str (Str.ofString "string_octets") 775, .str (Str.ofString "/claim/cut.py") 776, .int 272 0, .int 2 0, .int 0 0, .int 0 0, .int 3 0, .ref 439, .bool Bool.true, .int 181 0, .ref 440, Value.none, .ref 441, .ref 442, .ref 443, .int 781 0, .int 272 0, .str (Str.ofString "/claim/cut.py") 782], #[]⟩) ::
  (nat_lit 445, ⟨.type "function", .none, .func ⟨Str.ofString "string_octets", Str.ofString "string_octets", (fP 42 0), .stmts (fB 42 0), (fS 42 0), 3, [], Value.none, Value.none, Value.none, .str (Str.ofString "paperhold.writer") 690, .none, .ref 444, Value.none, 0⟩, #[]⟩) ::
  (nat_lit 446, ⟨.type "tuple", .none, .seq #[] 0, #[]⟩) ::
  (nat_lit 448, ⟨.type "tuple", .none, .seq #[.str (Str.ofString "kind") 787, .str (Str.ofString "value") 788, .str (Str.ofString "is_least") 789] 0, #[]⟩) ::
  (nat_lit 449, ⟨.type "tuple", .none, .seq #[] 0, #[]⟩) ::
  (nat_lit 451, ⟨.type "code", .none, .fields #[.str (Str.ofString "plain_part") 784, .str (Str.ofString "plain_part") 785, .str (Str.ofString "/claim/cut.py") 786, .int 278 0, .int 3 0, .int 0 0, .int 0 0, .int 3 0, .ref 446, .bool Bool.true, .int 181 0, .ref 447, Value.none, .ref 448, .ref 449, .ref 450, .int 790 0, .int 278 0, .str (Str.ofString "/claim/cut.py") 791], #[]⟩) ::
  (nat_lit 452, ⟨.type "function", .none, .func ⟨Str.ofString "plain_part", Str.ofString "plain_part", (fP 43 0), .stmts (fB 43 0), (fS 43 0), 3, [], Value.none, Value.none, Value.none, .str (Str.ofString "paperhold.writer") 690, .none, .ref 451, Value.none, 0⟩, #[]⟩) ::
  (nat_lit 453, ⟨.type "tuple", .none, .seq #[] 0, #[]⟩) ::
  (nat_lit 455, ⟨.type "tuple", .none, .seq #[.str (Str.ofString "parts") 796, .str (Str.ofString "value") 797] 0, #[]⟩) ::
  (nat_lit 456, ⟨.type "tuple", .none, .seq #[] 0, #[]⟩) ::
  (nat_lit 458, ⟨.type "code", .none, .fields #[.str (Str.ofString "lay_reference") 793, .str (Str.ofString "lay_reference") 794, .str (Str.ofString "/claim/cut.py") 795, .int 292 0, .int 2 0, .int 0 0, .int 0 0, .int 3 0, .ref 453, .bool Bool.true, .int 181 0, .ref 454, Value.none, .ref 455, .ref 456, .ref 457, .int 798 0, .int 292 0, .str (Str.ofString "/claim/cut.py") 799], #[]⟩) ::
  (nat_lit 459, ⟨.type "function", .none, .func ⟨Str.ofString "lay_reference", Str.ofString "lay_reference", (fP 44 0), .stmts (fB 44 0), (fS 44 0), 3, [], Value.none, Value.none, Value.none, .str (Str.ofString "paperhold.writer") 690, .none, .ref 458, Value.none, 0⟩, #[]⟩) ::
  (nat_lit 460, ⟨.type "tuple", .none, .seq #[] 0, #[]⟩) ::
  (nat_lit 462, ⟨.type "tuple", .none, .seq #[.str (Str.ofString "parts") 804, .str (Str.ofString "value") 805, .str (Str.ofString "is_least") 806, .str (Str.ofString "key") 807] 0, #[]⟩) ::
  (nat_lit 463, ⟨.type "tuple", .none, .seq #[] 0, #[]⟩) ::
  (nat_lit 465, ⟨.type "code", .none, .fields #[.str (Str.ofString "lay_dict") 801, .str (Str.ofString "lay_dict") 802, .str (Str.ofString "/claim/cut.py") 803, .int 298 0, .int 3 0, .int 0 0, .int 0 0, .int 3 0, .ref 460, .bool Bool.true, .int 181 0, .ref 461, Value.none, .ref 462, .ref 463, .ref 464, .int 808 0, .int 298 0, .str (Str.ofString "/claim/cut.py") 809], #[]⟩) ::
  (nat_lit 466, ⟨.type "function", .none, .func ⟨Str.ofString "lay_dict", Str.ofString "lay_dict", (fP 45 0), .stmts (fB 45 0), (fS 45 0), 3, [], Value.none, Value.none, Value.none, .str (Str.ofString "paperhold.writer") 690, .none, .ref 465, Value.none, 0⟩, #[]⟩) ::
  (nat_lit 467, ⟨.type "tuple", .none, .seq #[] 0, #[]⟩) ::
  (nat_lit 469, ⟨.type "tuple", .none, .seq #[.str (Str.ofString "parts") 814, .str (Str.ofString "value") 815, .str (Str.ofString "is_least") 816, .str (Str.ofString "kind") 817, .str (Str.ofString "part") 818] 0, #[]⟩) ::
  (nat_lit 470, ⟨.type "tuple", .none, .seq #[] 0, #[]⟩) ::
  (nat_lit 472, ⟨.type "code", .none, .fields #[.str (Str.ofString "lay_parts") 811, .str (Str.ofString "lay_parts") 812, .str (Str.ofString "/claim/cut.py") 813, .int 305 0, .int 3 0, .int 0 0, .int 0 0, .int 3 0, .ref 467, .bool Bool.true, .int 181 0, .ref 468, Value.none, .ref 469, .ref 470, .ref 471, .int 819 0, .int 305 0, .str (Str.ofString "/claim/cut.py") 820], #[]⟩) ::
  (nat_lit 473, ⟨.type "function", .none, .func ⟨Str.ofString "lay_parts", Str.ofString "lay_parts", (fP 46 0), .stmts (fB 46 0), (fS 46 0), 3, [], Value.none, Value.none, Value.none, .str (Str.ofString "paperhold.writer") 690, .none, .ref 472, Value.none, 0⟩, #[]⟩) ::
  (nat_lit 474, ⟨.type "tuple", .none, .seq #[] 0, #[]⟩) ::
  (nat_lit 476, ⟨.type "tuple", .none, .seq #[.str (Str.ofString "before") 825, .str (Str.ofString "behind") 826] 0, #[]⟩) ::
  (nat_lit 477, ⟨.type "tuple", .none, .seq #[] 0, #[]⟩) ::
  (nat_lit 479, ⟨.type "code", .none, .fields #[.str (Str.ofString "run_together") 822, .str (Str.ofString "run_together") 823, .str (Str.ofString "/claim/cut.py") 824, .int 318 0, .int 2 0, .int 0 0, .int 0 0, .int 3 0, .ref 474, .bool Bool.true, .int 181 0, .ref 475, Value.none, .ref 476, .ref 477, .ref 478, .int 827 0, .int 318 0, .str (Str.ofString "/claim/cut.py") 828], #[]⟩) ::
  (nat_lit 480, ⟨.type "function", .none, .func ⟨Str.ofString "run_together", Str.ofString "run_together", (fP 47 0), .stmts (fB 47 0), (fS 47 0), 3, [], Value.none, Value.none, Value.none, .str (Str.ofString "paperhold.writer") 690, .none, .ref 479, Value.none, 0⟩, #[]⟩) ::
  (nat_lit 481, ⟨.type "tuple", .none, .seq #[] 0, #[]⟩) ::
  (nat_lit 483, ⟨.type "tuple", .none, .seq #[.str (Str.ofString "parts") 833, .str (Str.ofString "is_least") 834, .str (Str.ofString "found") 835, .str (Str.ofString "at") 836] 0, #[]⟩) ::
  (nat_lit 484, ⟨.type "tuple", .none, .seq #[] 0, #[]⟩) ::
  (nat_lit 486, ⟨.type "code", .none, .fields #[.str (Str.ofString "joined_parts") 830, .str (Str.ofString "joined_parts") 831, .str (Str.ofString "/claim/cut.py") 832, .int 320 0, .int 2 0, .int 0 0, .int 0 0, .int 3 0, .ref 481, .bool Bool.true, .int 181 0, .ref 482, Value.none, .ref 483, .ref 484, .ref 485, .int 837 0, .int 320 0, .str (Str.ofString "/claim/cut.py") 838], #[]⟩) ::
  (nat_lit 487, ⟨.type "function", .none, .func ⟨Str.ofString "joined_parts", Str.ofString "joined_parts", (fP 48 0), .stmts (fB 48 0), (fS 48 0), 3, [], Value.none, Value.none, Value.none, .str (Str.ofString "paperhold.writer") 690, .none, .ref 486, Value.none, 0⟩, #[]⟩) ::
  (nat_lit 488, ⟨.type "tuple", .none, .seq #[] 0, #[]⟩) ::
  (nat_lit 490, ⟨.type "tuple", .none, .seq #[.str (Str.ofString "value") 843, .str (Str.ofString "head") 844, .str (Str.ofString "key") 845] 0, #[]⟩) ::
  (nat_lit 491, ⟨.type "tuple", .none, .seq #[] 0, #[]⟩) ::
  (nat_lit 493, ⟨.type "code", .none, .fields #[.str (Str.ofString "stream_head") 840, .str (Str.ofString "stream_head") 841, .str (Str.ofString "/claim/cut.py") 842, .int 329 0, .int 1 0, .int 0 0, .int 0 0, .int 3 0, .ref 488, .bool Bool.true, .int 181 0, .ref 489, Value.none, .ref 490, .ref 491, .ref 492, .int 846 0, .int 329 0, .str (Str.ofString "/claim/cut.py") 847], #[]⟩) ::
  (nat_lit 494, ⟨.type "function", .none, .func ⟨Str.ofString "stream_head", Str.ofString "stream_head", (fP 49 0), .stmts (fB 49 0), (fS 49 0), 3, [], Value.none, Value.none, Value.none, .str (Str.ofString "paperhold.writer") 690, .none, .ref 493, Value.none, 0⟩, #[]⟩) ::
  (nat_lit 495, ⟨.type "tuple", .none, .seq #[] 0, #[]⟩) ::
  (nat_lit 497, ⟨.type "tuple", .none, .seq #[.str (Str.ofString "value") 852, .str (Str.ofString "is_least") 853, .str (Str.ofString "parts") 854, .str (Str.ofString "between") 855] 0, #[]⟩) ::
  (nat_lit 498, ⟨.type "tuple", .none, .seq #[] 0, #[]⟩) ::
  (nat_lit 500, ⟨.type "code", .none, .fields #[.str (Str.ofString "write_object") 849, .str (Str.ofString "write_object") 850, .str (Str.ofString "/claim/cut.py") 851, .int 335 0, .int 2 0, .int 0 0, .int 0 0, .int 3 0, .ref 495, .bool Bool.true, .int 181 0, .ref 496, Value.none, .ref 497, .ref 498, .ref 499, .int 856 0, .int 335 0, .str (Str.ofString "/claim/cut.py") 857], #[]⟩) ::
  (nat_lit 501, ⟨.type "function", .none, .func ⟨Str.ofString "write_object", Str.ofString "write_object", (fP 50 0), .stmts (fB 50 0), (fS 50 0), 3, [], Value.none, Value.none, Value.none, .str (Str.ofString "paperhold.writer") 690, .none, .ref 500, Value.none, 0⟩, #[]⟩) ::
  (nat_lit 502, ⟨.type "tuple", .none, .seq #[] 0, #[]⟩) ::
  (nat_lit 504, ⟨.type "tuple", .none, .seq #[.str (Str.ofString "number") 864, .str (Str.ofString "generation") 865, .str (Str.ofString "value") 866, .str (Str.ofString "trailer") 867, .str (Str.ofString "secret") 868] 0, #[]⟩) ::
  (nat_lit 505, ⟨.type "tuple", .none, .seq #[] 0, #[]⟩) ::
  (nat_lit 507, ⟨.type "code", .none, .fields #[.str (Str.ofString "may_be_packed") 861, .str (Str.ofString "may_be_packed") 862, .str (Str.ofString "/claim/cut.py") 863, .int 346 0, .int 4 0, .int 0 0, .int 0 0, .int 3 0, .ref 502, .bool Bool.true, .int 181 0, .ref 503, Value.none, .ref 504, .ref 505, .ref 506, .int 869 0, .int 346 0, .str (Str.ofString "/claim/cut.py") 870], #[]⟩) ::
  (nat_lit 508, ⟨.type "function", .none, .func ⟨Str.ofString "may_be_packed", Str.ofString "may_be_packed", (fP 52 0), .stmts (fB 52 0), (fS 52 0), 3, [], Value.none, Value.none, Value.none, .str (Str.ofString "paperhold.packed") 859, .none, .ref 507, Value.none, 0⟩, #[]⟩) ::
  (nat_lit 509, ⟨.type "tuple", .none, .seq #[] 0, #[]⟩) ::
  (nat_lit 511, ⟨.type "tuple", .none, .seq #[.str (Str.ofString "shelf") 875, .str (Str.ofString "found") 876, .str (Str.ofString "number") 877, .str (Str.ofString "value") 878, .str (Str.ofString "length") 879] 0, #[]⟩) ::
  (nat_lit 512, ⟨.type "tuple", .none, .seq #[] 0, #[]⟩) ::
  (nat_lit 514, ⟨.type "code", .none, .fields #[.str (Str.ofString "length_numbers") 872, .str (Str.ofString "length_numbers") 873, .str (Str.ofString "/claim/cut.py") 874, .int 351 0, .int 1 0, .int 0 0, .int 0 0, .int 3 0, .ref 509, .bool Bool.true, .int 181 0, .ref 510, Value.none, .ref 511, .ref 512, .ref 513, .int 880 0, .int 351 0, .str (Str.ofString "/claim/cut.py") 881], #[]⟩) ::
  (nat_lit 515, ⟨.type "function", .none, .func ⟨Str.ofString "length_numbers", Str.ofString "length_numbers", (fP 53 0), .stmts (fB 53 0), (fS 53 0), 3, [], Value.none, Value.none, Value.none, .str (Str.ofString "paperhold.packed") 859, .none, .ref 514, Value.none, 0⟩, #[]⟩) ::
  (nat_lit 516, ⟨.type "tuple", .none, .seq #[] 0, #[]⟩) ::
  (nat_lit 518, ⟨.type "tuple", .none, .seq #[.str (Str.ofString "shelf") 886, .str (Str.ofString "lengths") 887, .str (Str.ofString "found") 888, .str (Str.ofString "number") 889, .str (Str.ofString "generation") 890, .str (Str.ofString "value") 891] 0, #[]⟩) ::
  (nat_lit 519, ⟨.type "tuple", .none, .seq #[] 0, #[]⟩) ::
  (nat_lit 521, ⟨.type "code", .none, .fields #[.str (Str.ofString "packable_numbers") 883, .str (Str.ofString "packable_numbers") 884, .str (Str.ofString "/claim/cut.py") 885, .int 360 0, .int 1 0, .int 0 0, .int 0 0, .int 3 0, .ref 516, .bool Bool.true, .int 181 0, .ref 517, Value.none, .ref 518, .ref 519, .ref 520, .int 892 0, .int 360 0, .str (Str.ofString "/claim/cut.py") 893], #[]⟩) ::
  (nat_lit 522, ⟨.type "function", .none, .func ⟨Str.ofString "packable_numbers", Str.ofString "packable_numbers", (fP 54 0), .stmts (fB 54 0), (fS 54 0), 3, [], Value.none, Value.none, Value.none, .str (Str.ofString "paperhold.packed") 859, .none, .ref 521, Value.none, 0⟩, #[]⟩) ::
  (nat_lit 523, ⟨.type "tuple", .none, .seq #[] 0, #[]⟩) ::
  (nat_lit 526, ⟨.type "code", .none, .fields #[.str (Str.ofString "groups_of") 895, .str (Str.ofString "groups_of") 896, .str (Str.ofString "/claim/cut.py") 897, .int 368 0, .int 2 0, .int 0 0, .int 0 0, .int 3 0, .ref 523, .bool Bool.true, .int 181 0, .ref 524, Value.none, Value.none, Value.none, .ref 525, .int 898 0, .int 368 0, .str (Str.ofString "/claim/cut.py") 899], #[]⟩) ::
  (nat_lit 527, ⟨.type "function", .none, .func ⟨Str.ofString "groups_of", Str.ofString "groups_of", (fP 55 0), .stmts (fB 55 0), (fS 55 0), 3, [], Value.none, Value.none, Value.none, .str (Str.ofString "paperhold.packed") 859, .none, .ref 526, Value.none, 0⟩, #[]⟩) ::
  (nat_lit 528, ⟨.type "tuple", .none, .seq #[] 0, #[]⟩) ::
  (nat_lit 530, ⟨.type "tuple", .none, .seq #[.str (Str.ofString "pairs") 904, .str (Str.ofString "seen") 905, .str (Str.ofString "number") 906, .str (Str.ofString "value") 907] 0, #[]⟩) ::
  (nat_lit 531, ⟨.type "tuple", .none, .seq #[] 0, #[]⟩) ::
  (nat_lit 533, ⟨.type "code", .none, .fields #[.str (Str.ofString "check_pairs") 901, .str (Str.ofString "check_pairs") 902, .str (Str.ofString "/claim/cut.py") 903, .int 372 0, .int 1 0, .int 0 0, .int 0 0, .int 3 0, .ref 528, .bool Bool.true, .int 181 0, .ref 529, Value.none, .ref 530, .ref 531, .ref 532, .int 908 0, .int 372 0, .str (Str.ofString "/claim/cut.py") 909], #[]⟩) ::
  (nat_lit 534, ⟨.type "function", .none, .func ⟨Str.ofString "check_pairs", Str.ofString "check_pairs", (fP 56 0), .stmts (fB 56 0), (fS 56 0), 3, [], Value.none, Value.none, Value.none, .str (Str.ofString "paperhold.packed") 859, .none, .ref 533, Value.none, 0⟩, #[]⟩) ::
  (nat_lit 535, ⟨.type "tuple", .none, .seq #[] 0, #[]⟩) ::
  (nat_lit 537, ⟨.type "tuple", .none, .seq #[.str (Str.ofString "pairs") 914, .str (Str.ofString "rows") 915, .str (Str.ofString "parts") 916, .str (Str.ofString "offset") 917, .str (Str.ofString "number") 918, .str (Str.ofString "value") 919, .str (Str.ofString "part") 920, .str (Str.ofString "lead") 921] 0, #[]⟩) ::
  (nat_lit 538, ⟨.type "tuple", .none, .seq #[] 0, #[]⟩) ::
  (nat_lit 540, ⟨.type "code", .none, .fields #[.str (Str.ofString "laid_octets") 911, .str (Str.ofString "laid_octets") 912, .str (Str.ofString "/claim/cut.py") 913, .int 380 0, .int 1 0, .int 0 0, .int 0 0, .int 3 0, .ref 535, .bool Bool.true, .int 181 0, .ref 536, Value.none, .ref 537, .ref 538, .ref 539, .int 922 0, .int 380 0, .str (Str.ofString "/claim/cut.py") 923], #[]⟩) ::
  (nat_lit 541, ⟨.type "function", .none, .func ⟨Str.ofString "laid_octets", Str.ofString "laid_octets", (fP 57 0), .stmts (fB 57 0), (fS 57 0), 3, [], Value.none, Value.none, Value.none, .str (Str.ofString "paperhold.packed") 859, .none, .ref 540, Value.none, 0⟩, #[]⟩) ::
  (nat_lit 542, ⟨.type "tuple", .none, .seq #[] 0, #[]⟩) ::
  (nat_lit 544, ⟨.type "tuple", .none, .seq #[.str (Str.ofString "pairs") 928, .str (Str.ofString "names") 929, .str (Str.ofString "lay") 930, .str (Str.ofString "data") 931, .str (Str.ofString "first") 932, .str (Str.ofString "body") 933, .str (Str.ofString "head") 934, .str (Str.ofString "key") 935] 0, #[]⟩) ::
  (nat_lit 545, ⟨.type "tuple", .none, .seq #[] 0, #[]⟩) ::
  (nat_lit 547, ⟨.type "code", .none, .fields #[.str (Str.ofString "write_packed_by") 925, .str (Str.ofString "write_packed_by") 926, .str (Str.ofString "/claim/cut.py") 927, .int 394 0, .int 3 0, .int 0 0, .int 0 0, .int 3 0, .ref 542, .bool Bool.true, .int 181 0, .ref 543, Value.none, .ref 544, .ref 545, .ref 546, .int 936 0, .int 394 0, .str (Str.ofString "/claim/cut.py") 937], #[]⟩) ::
  (nat_lit 548, ⟨.type "function", .none, .func ⟨Str.ofString "write_packed_by", Str.ofString "write_packed_by", (fP 58 0), .stmts (fB 58 0), (fS 58 0), 3, [], Value.none, Value.none, Value.none, .str (Str.ofString "paperhold.packed") 859, .none, .ref 547, Value.none, 0⟩, #[]⟩) ::
  (nat_lit 549, ⟨.type "tuple", .none, .seq #[] 0, #[]⟩) ::
  (nat_lit 552, ⟨.type "code", .none, .fields #[.str (Str.ofString "_law_pen") 941, .str (Str.ofString "_law_pen") 942, .str (Str.ofString "/claim/cut.py") 943, .int 402 0, .int 1 0, .int 0 0, .int 0 0, .int 3 0, .ref 549, .bool Bool.true, .int 181 0, .ref 550, Value.none, Value.none, Value.none, .ref 551, .int 944 0, .int 402 0, .str (Str.ofString "/claim/cut.py") 945], #[]⟩) ::
  (nat_lit 553, ⟨.type "function", .none, .func ⟨Str.ofString "_law_pen", Str.ofString "_law_pen", (fP 60 0), .stmts (fB 60 0), (fS 60 0), 3, [], Value.none, Value.none, Value.none, .str (Str.ofString "law_nn0145_01") 939, .none, .ref 552, Value.none, 0⟩, #[]⟩) ::
  (nat_lit 554, ⟨.type "tuple", .none, .seq #[] 0, #[]⟩) ::
  (nat_lit 556, ⟨.type "tuple", .none, .seq #[.str (Str.ofString "pen") 950, .str (Str.ofString "limit") 951, .str (Str.ofString "place") 952, .str (Str.ofString "digit") 953] 0, #[]⟩) ::
  (nat_lit 557, ⟨.type "tuple", .none, .seq #[] 0, #[]⟩) ::
  (nat_lit 559, ⟨.type "code", .none, .fields #[.str (Str.ofString "_law_draw") 947, .str (Str.ofString "_law_draw") 948, .str (Str.ofString "/claim/cut.py") 949, .int 411 0, .int 2 0, .int 0 0, .int 0 0, .int 3 0, .ref 554, .bool Bool.true, .int 181 0, .ref 555, Value.none, .ref 556, .ref 557, .ref 558, .int 954 0, .int 411 0, .str (Str.ofString "/claim/cut.py") 955], #[]⟩) ::
  (nat_lit 560, ⟨.type "function", .none, .func ⟨Str.ofString "_law_draw", Str.ofString "_law_draw", (fP 61 0), .stmts (fB 61 0), (fS 61 0), 3, [], Value.none, Value.none, Value.none, .str (Str.ofString "law_nn0145_01") 939, .none, .ref 559, Value.none, 0⟩, #[]⟩) ::
  (nat_lit 561, ⟨.type "tuple", .none, .seq #[] 0, #[]⟩) ::
  (nat_lit 564, ⟨.type "code", .none, .fields #[.str (Str.ofString "_law_object") 957, .str (Str.ofString "_law_object") 958, .str (Str.ofString "/claim/cut.py") 959, .int 422 0, .int 3 0, .int 0 0, .int 0 0, .int 3 0, .ref 561, .bool Bool.true, .int 181 0, .ref 562, Value.none, Value.none, Value.none, .ref 563, .int 960 0, .int 422 0, .str (Str.ofString "/claim/cut.py") 961], #[]⟩) ::
  (nat_lit 565, ⟨.type "function", .none, .func ⟨Str.ofString "_law_object", Str.ofString "_law_object", (fP 62 0), .stmts (fB 62 0), (fS 62 0), 3, [], Value.none, Value.none, Value.none, .str (Str.ofString "law_nn0145_01") 939, .none, .ref 564, Value.none, 0⟩, #[]⟩) ::
  (nat_lit 566, ⟨.type "tuple", .none, .seq #[] 0, #[]⟩) ::
  (nat_lit 568, ⟨.type "tuple", .none, .seq #[.str (Str.ofString "octets") 966, .str (Str.ofString "names") 967] 0, #[]⟩) ::
  (nat_lit 569, ⟨.type "tuple", .none, .seq #[] 0, #[]⟩) ::
  (nat_lit 571, ⟨.type "code", .none, .fields #[.str (Str.ofString "_law_lay") 963, .str (Str.ofString "_law_lay") 964, .str (Str.ofString "/claim/cut.py") 965, .int 439 0, .int 2 0, .int 0 0, .int 0 0, .int 3 0, .ref 566, .bool Bool.true, .int 181 0, .ref 567, Value.none, .ref 568, .ref 569, .ref 570, .int 968 0, .int 439 0, .str (Str.ofString "/claim/cut.py") 969], #[]⟩) ::
  (nat_lit 572, ⟨.type "function", .none, .func ⟨Str.ofString "_law_lay", Str.ofString "_law_lay", (fP 63 0), .stmts (fB 63 0), (fS 63 0), 3, [], Value.none, Value.none, Value.none, .str (Str.ofString "law_nn0145_01") 939, .none, .ref 571, Value.none, 0⟩, #[]⟩) ::
  (nat_lit 573, ⟨.type "tuple", .none, .seq #[] 0, #[]⟩) ::
  (nat_lit 576, ⟨.type "code", .none, .fields #[.str (Str.ofString "law") 971, .str (Str.ofString "law") 972, .str (Str.ofString "/claim/cut.py") 973, .int 441 0, .int 1 0, .int 0 0, .int 0 0, .int 3 0, .ref 573, .bool Bool.true, .int 181 0, .ref 574, Value.none, Value.none, Value.none, .ref 575, .int 974 0, .int 441 0, .str (Str.ofString "/claim/cut.py") 975], #[]⟩) ::
  (nat_lit 577, ⟨.type "function", .none, .func ⟨Str.ofString "law", Str.ofString "law", (fP 64 0), .stmts (fB 64 0), (fS 64 0), 3, [], Value.none, Value.none, Value.none, .str (Str.ofString "law_nn0145_01") 939, .none, .ref 576, Value.none, 0⟩, #[]⟩) :: []
noncomputable def Ka : List Addr := 2 :: 3 :: 15 :: 17 :: 18 :: 20 :: 21 :: 22 :: 29 :: 30 :: 32 :: 33 :: 35 :: 36 :: 37 :: 39 :: 40 :: 42 :: 43 :: 44 :: 45 :: 46 :: 47 :: 50 :: 57 :: 58 :: 59 :: 69 :: 71 :: 72 :: 74 :: 75 :: 76 :: 78 :: 79 :: 81 :: 82 :: 83 :: 85 :: 86 :: 88 :: 89 :: 90 :: 92 :: 93 :: 95 :: 96 :: 97 :: 99 :: 100 :: 102 :: 103 :: 104 :: 106 :: 107 :: 109 :: 110 :: 111 :: 113 :: 114 :: 116 :: 117 :: 118 :: 120 :: 121 :: 123 :: 124 :: 125 :: 127 :: 128 :: 130 :: 131 :: 132 :: 134 :: 135 :: 137 :: 138 :: 139 :: 141 :: 142 :: 144 :: 145 :: 146 :: 148 :: 149 :: 151 :: 152 :: 153 :: 154 :: 155 :: 156 :: 157 :: 160 :: 162 :: 163 :: 165 :: 166 :: 174 :: 176 :: 177 :: 179 :: 180 :: 181 :: 182 :: 183 :: 184 :: 185 :: 195 :: 196 :: 198 :: 199 :: 201 :: 202 :: 203 :: 204 :: 205 :: 206 :: 207 :: 217 :: 219 :: 220 :: 222 :: 223 :: 224 :: 225 :: 226 :: 227 :: 228 :: 238 :: 240 :: 241 :: 243 :: 244 :: 245 :: 247 :: 248 :: 250 :: 251 :: 252 :: 253 :: 254 :: 255 :: 256 :: 259 :: 261 :: 262 :: 264 :: 265 :: 266 :: 268 :: 269 :: 271 :: 272 :: 273 :: 276 :: 277 :: 278 :: 281 :: 282 :: 283 :: 285 :: 286 :: 288 :: 289 :: 297 :: 298 :: 300 :: 301 :: 303 :: 304 :: 305 :: 307 :: 308 :: 310 :: 311 :: 312 :: 314 :: 315 :: 317 :: 318 :: 319 :: 320 :: 321 :: 322 :: 323 :: 326 :: 333 :: 335 :: 336 :: 338 :: 339 :: 340 :: 342 :: 343 :: 345 :: 346 :: 347 :: 349 :: 350 :: 352 :: 353 :: 354 :: 356 :: 357 :: 359 :: 360 :: 361 :: 363 :: 364 :: 366 :: 367 :: 368 :: 371 :: 372 :: 373 :: 374 :: 375 :: 378 :: 379 :: 380 :: 382 :: 383 :: 385 :: 386 :: 387 :: 390 :: 391 :: 392 :: 394 :: 395 :: 397 :: 398 :: 399 :: 401 :: 402 :: 404 :: 405 :: 406 :: 408 :: 409 :: 411 :: 412 :: 413 :: 416 :: 417 :: 418 :: 420 :: 421 :: 423 :: 424 :: 425 :: 427 :: 428 :: 430 :: 431 :: 432 :: 434 :: 435 :: 437 :: 438 :: 439 :: 441 :: 442 :: 444 :: 445 :: 446 :: 448 :: 449 :: 451 :: 452 :: 453 :: 455 :: 456 :: 458 :: 459 :: 460 :: 462 :: 463 :: 465 :: 466 :: 467 :: 469 :: 470 :: 472 :: 473 :: 474 :: 476 :: 477 :: 479 :: 480 :: 481 :: 483 :: 484 :: 486 :: 487 :: 488 :: 490 :: 491 :: 493 :: 494 :: 495 :: 497 :: 498 :: 500 :: 501 :: 502 :: 504 :: 505 :: 507 :: 508 :: 509 :: 511 :: 512 :: 514 :: 515 :: 516 :: 518 :: 519 :: 521 :: 522 :: 523 :: 526 :: 527 :: 528 :: 530 :: 531 :: 533 :: 534 :: 535 :: 537 :: 538 :: 540 :: 541 :: 542 :: 544 :: 545 :: 547 :: 548 :: 549 :: 552 :: 553 :: 554 :: 556 :: 557 :: 559 :: 560 :: 561 :: 564 :: 565 :: 566 :: 568 :: 569 :: 571 :: 572 :: 573 :: 576 :: 577 :: []
noncomputable def Hk : Hook := kHook Kf Ka (fun _ => by kernel_rfl)
noncomputable def runG (stp : SharedT → Thread → Option (SharedT × Thread)) (thr ok : Thread → Bool) : Nat → SharedT → Thread → Option SharedT
  | 0, _, _ => none
  | n + 1, s, t => match thr t with
    | true => some s
    | false => match ok t with
      | false => none
      | true => match stp s t with
        | some (s', t') => runG stp thr ok n s' t'
        | none => none
theorem runG_of {tb : String → Option Builtin} {p : Program} {w : World} {n₀ : Nat} {ann : Option Value} : ∀ {n : Nat} {s s' : SharedT} {t : Thread}, runG (stepT (denote tb) p w) through (stepOk n₀ ann) n s t = some s' → topRun tb p w n₀ ann n s.abs t = some s'.abs
  | 0, _, _, _, h => by cases h
  | n + 1, s, s', t, h => by
    unfold runG at h
    unfold topRun
    cases ht : through t with
    | true => rw [ht] at h; cases h; rfl
    | false =>
      rw [ht] at h
      cases hk : stepOk n₀ ann t with
      | false => rw [hk] at h; cases h
      | true =>
        rw [hk] at h
        cases hs : stepT (denote tb) p w s t with
        | none => rw [hs] at h; cases h
        | some r => obtain ⟨s₂, t₂⟩ := r; rw [hs] at h; rw [stepT_spec hs]; exact runG_of h
noncomputable def bootT (P : Params) : BT := ((boot_heap P).objs.toList.foldl (fun (x : BT × Nat) o => (x.1.ins x.2 o, x.2 + 1)) (.nil, 0)).1
theorem left_of {p q : Program} {loose : List Str} {Xt : Shared → Bool} {α : Type} {Yf : Shared → α} {Ya : World → α} {N M m₀ : Nat} {ann : Option Value} {life : Life}
    (hopen : ∀ w : World, (fencedOpening treeTable p w N).map (fun s => (s.heap, s.gens, s.drawn, s.toks)) = some (boot_heap w.params, Array.mk [], boot_drawn, boot_toks))
    (habs : ∀ P, absHeap (bootT P) m₀ life = boot_heap P)
    (size : ∀ w : World, ((boot_heap w.params).isNs mainGlobals, (boot_heap w.params).objs.size, (boot_heap w.params).nsMap mainGlobals "__annotations__") = (true, m₀, ann))
    (le : Nat.ble M N = true)
    (chk : ∀ w : World, (fun os => (runG (stepT (denote treeTable) p w) through (stepOk m₀ ann) M ⟨bootT w.params, m₀, life, Array.mk [], boot_drawn, boot_toks, os⟩ (topStub p)).map fun s =>
      (staticsOk (importedModules p.main.body) (boot_heap w.params) s.abs.heap && namesBound p s.abs.heap && gensDone s.abs && laidKept (boot_heap w.params) s.abs.heap, openSeen q loose (importedModules p.main.body) Xt true s.abs, Yf s.abs)) = fun _ => some (true, openGood q loose, Ya w)) :
    LeftO p q loose Xt Yf Ya N := fun w => by
  obtain ⟨⟨h, gs, d, k, os⟩, e, e'⟩ := Option.map_eq_some_iff.mp (hopen w)
  obtain ⟨rfl, rfl, rfl, rfl⟩ : h = boot_heap w.params ∧ gs = Array.mk [] ∧ d = boot_drawn ∧ k = boot_toks := by simpa using e'
  obtain ⟨z1, z2, z3⟩ : _ ∧ _ ∧ _ := by simpa only [Prod.mk.injEq] using size w
  obtain ⟨s', hs, hl⟩ := Option.map_eq_some_iff.mp (congrFun (chk w) os)
  obtain ⟨l1, l2, l3⟩ : _ ∧ _ ∧ _ := by simpa only [Prod.mk.injEq] using hl
  have r := topRun_mono (N - M) _ _ _ _ (runG_of hs)
  rw [show M + (N - M) = N by have := Nat.le_of_ble_eq_true le; omega] at r
  have r : topRun treeTable p w m₀ ann N ⟨boot_heap w.params, Array.mk [], boot_drawn, boot_toks, os⟩ (topStub p) = some s'.abs := by rw [← habs]; exact r
  have t : topFrom treeTable p w N ⟨boot_heap w.params, Array.mk [], boot_drawn, boot_toks, os⟩ = some s'.abs := by
    unfold topFrom
    dsimp only
    rw [z1, z2, z3, r]
    show (match staticsOk (importedModules p.main.body) (boot_heap w.params) s'.abs.heap && namesBound p s'.abs.heap && gensDone s'.abs && laidKept (boot_heap w.params) s'.abs.heap with | true => _ | false => _) = _
    rw [l1]
  unfold openEnds
  rw [e]
  show (topFrom treeTable p w N _).map _ = _
  rw [t]
  exact congrArg some (Prod.ext l2 l3)
noncomputable abbrev lws : List Str := [Str.ofString "PaperError", Str.ofString "told_objects"]
noncomputable abbrev runW (w : World) (os : OsState) : Option SharedT := runG (stepT (denote treeTable) prg w) through (stepOk 11 (some (.ref 6))) 4200 ⟨bootT w.params, 11, {}, Array.mk [], boot_drawn, boot_toks, os⟩ (topStub prg)
theorem said : PySem.Challenge.rw_nn0145_01.wellSaid = true := by decide +kernel
theorem bootA (P : Params) : absHeap (bootT P) 11 {} = boot_heap P := by kernel_rfl
theorem bootS (w : World) : ((boot_heap w.params).isNs mainGlobals, (boot_heap w.params).objs.size, (boot_heap w.params).nsMap mainGlobals "__annotations__") = (true, 11, some (Value.ref 6)) := by kernel_rfl
noncomputable abbrev rwR : RowW := PySem.Challenge.rw_nn0145_01.row.toRowW
noncomputable abbrev xt (s : Shared) : Bool := xlAt vw [] s && recOk (RowW.records rwR) s
theorem chk (w : World) : (fun os => (runW w os).map fun s =>
      (staticsOk (importedModules prg.main.body) (boot_heap w.params) s.abs.heap && namesBound prg s.abs.heap && gensDone s.abs && laidKept (boot_heap w.params) s.abs.heap, openSeen vw lws (importedModules prg.main.body) xt true s.abs, Hk.obs s.abs)) = fun _ => some (true, openGood vw lws, Hk.val w) := by
  unfold runW
  rewrite [PySem.W.Fast.te5923862056798008813, PySem.W.Fast.te4187177175401517315, PySem.W.Fast.te10156331382660048174, PySem.W.Fast.te11892475500146522536, PySem.W.Fast.te14364793385576792824, PySem.W.Fast.te6613529449190102663]
  kernel_rfl
theorem left : LeftO prg vw lws xt Hk.obs Hk.val 8100 :=
  left_of (boot_open (by kernel_rfl) (by decide) fun _ => rfl) bootA bootS (by decide) chk
noncomputable def Fill (_ : OpenLaw) (_ : Params → Frag) : Prop := True
noncomputable abbrev Led := List (Addr × Obj)
noncomputable abbrev loo : List Str := looseW vw [Str.ofString "PaperError", Str.ofString "told_objects"]
noncomputable abbrev mkA (dp un : Nat) (fr : List Env) : Around := { handled := none, depth := dp, frames := some fr, guards := some [], units := un }

inductive Ex2 {α0 α1 : Type} (P : α0 → α1 → Prop) : Prop
  | mk (a0 : α0) (a1 : α1) (h : P a0 a1) : Ex2 P
inductive Ex3 {α0 α1 α2 : Type} (P : α0 → α1 → α2 → Prop) : Prop
  | mk (a0 : α0) (a1 : α1) (a2 : α2) (h : P a0 a1 a2) : Ex3 P
inductive Ex4 {α0 α1 α2 α3 : Type} (P : α0 → α1 → α2 → α3 → Prop) : Prop
  | mk (a0 : α0) (a1 : α1) (a2 : α2) (a3 : α3) (h : P a0 a1 a2 a3) : Ex4 P
inductive Ex5 {α0 α1 α2 α3 α4 : Type} (P : α0 → α1 → α2 → α3 → α4 → Prop) : Prop
  | mk (a0 : α0) (a1 : α1) (a2 : α2) (a3 : α3) (a4 : α4) (h : P a0 a1 a2 a3 a4) : Ex5 P
inductive Ex7 {α0 α1 α2 α3 α4 α5 α6 : Type} (P : α0 → α1 → α2 → α3 → α4 → α5 → α6 → Prop) : Prop
  | mk (a0 : α0) (a1 : α1) (a2 : α2) (a3 : α3) (a4 : α4) (a5 : α5) (a6 : α6) (h : P a0 a1 a2 a3 a4 a5 a6) : Ex7 P
inductive Ex8 {α0 α1 α2 α3 α4 α5 α6 α7 : Type} (P : α0 → α1 → α2 → α3 → α4 → α5 → α6 → α7 → Prop) : Prop
  | mk (a0 : α0) (a1 : α1) (a2 : α2) (a3 : α3) (a4 : α4) (a5 : α5) (a6 : α6) (a7 : α7) (h : P a0 a1 a2 a3 a4 a5 a6 a7) : Ex8 P
inductive Ex9 {α0 α1 α2 α3 α4 α5 α6 α7 α8 : Type} (P : α0 → α1 → α2 → α3 → α4 → α5 → α6 → α7 → α8 → Prop) : Prop
  | mk (a0 : α0) (a1 : α1) (a2 : α2) (a3 : α3) (a4 : α4) (a5 : α5) (a6 : α6) (a7 : α7) (a8 : α8) (h : P a0 a1 a2 a3 a4 a5 a6 a7 a8) : Ex9 P
inductive Ex10 {α0 α1 α2 α3 α4 α5 α6 α7 α8 α9 : Type} (P : α0 → α1 → α2 → α3 → α4 → α5 → α6 → α7 → α8 → α9 → Prop) : Prop
  | mk (a0 : α0) (a1 : α1) (a2 : α2) (a3 : α3) (a4 : α4) (a5 : α5) (a6 : α6) (a7 : α7) (a8 : α8) (a9 : α9) (h : P a0 a1 a2 a3 a4 a5 a6 a7 a8 a9) : Ex10 P
inductive Ex11 {α0 α1 α2 α3 α4 α5 α6 α7 α8 α9 α10 : Type} (P : α0 → α1 → α2 → α3 → α4 → α5 → α6 → α7 → α8 → α9 → α10 → Prop) : Prop
  | mk (a0 : α0) (a1 : α1) (a2 : α2) (a3 : α3) (a4 : α4) (a5 : α5) (a6 : α6) (a7 : α7) (a8 : α8) (a9 : α9) (a10 : α10) (h : P a0 a1 a2 a3 a4 a5 a6 a7 a8 a9 a10) : Ex11 P
inductive Ex12 {α0 α1 α2 α3 α4 α5 α6 α7 α8 α9 α10 α11 : Type} (P : α0 → α1 → α2 → α3 → α4 → α5 → α6 → α7 → α8 → α9 → α10 → α11 → Prop) : Prop
  | mk (a0 : α0) (a1 : α1) (a2 : α2) (a3 : α3) (a4 : α4) (a5 : α5) (a6 : α6) (a7 : α7) (a8 : α8) (a9 : α9) (a10 : α10) (a11 : α11) (h : P a0 a1 a2 a3 a4 a5 a6 a7 a8 a9 a10 a11) : Ex12 P
inductive Ex14 {α0 α1 α2 α3 α4 α5 α6 α7 α8 α9 α10 α11 α12 α13 : Type} (P : α0 → α1 → α2 → α3 → α4 → α5 → α6 → α7 → α8 → α9 → α10 → α11 → α12 → α13 → Prop) : Prop
  | mk (a0 : α0) (a1 : α1) (a2 : α2) (a3 : α3) (a4 : α4) (a5 : α5) (a6 : α6) (a7 : α7) (a8 : α8) (a9 : α9) (a10 : α10) (a11 : α11) (a12 : α12) (a13 : α13) (h : P a0 a1 a2 a3 a4 a5 a6 a7 a8 a9 a10 a11 a12 a13) : Ex14 P
inductive Ex16 {α0 α1 α2 α3 α4 α5 α6 α7 α8 α9 α10 α11 α12 α13 α14 α15 : Type} (P : α0 → α1 → α2 → α3 → α4 → α5 → α6 → α7 → α8 → α9 → α10 → α11 → α12 → α13 → α14 → α15 → Prop) : Prop
  | mk (a0 : α0) (a1 : α1) (a2 : α2) (a3 : α3) (a4 : α4) (a5 : α5) (a6 : α6) (a7 : α7) (a8 : α8) (a9 : α9) (a10 : α10) (a11 : α11) (a12 : α12) (a13 : α13) (a14 : α14) (a15 : α15) (h : P a0 a1 a2 a3 a4 a5 a6 a7 a8 a9 a10 a11 a12 a13 a14 a15) : Ex16 P
inductive An2 (p0 p1 : Prop) : Prop
  | mk (h0 : p0) (h1 : p1) : An2 p0 p1
inductive An3 (p0 p1 p2 : Prop) : Prop
  | mk (h0 : p0) (h1 : p1) (h2 : p2) : An3 p0 p1 p2
inductive An4 (p0 p1 p2 p3 : Prop) : Prop
  | mk (h0 : p0) (h1 : p1) (h2 : p2) (h3 : p3) : An4 p0 p1 p2 p3
inductive An5 (p0 p1 p2 p3 p4 : Prop) : Prop
  | mk (h0 : p0) (h1 : p1) (h2 : p2) (h3 : p3) (h4 : p4) : An5 p0 p1 p2 p3 p4
inductive An6 (p0 p1 p2 p3 p4 p5 : Prop) : Prop
  | mk (h0 : p0) (h1 : p1) (h2 : p2) (h3 : p3) (h4 : p4) (h5 : p5) : An6 p0 p1 p2 p3 p4 p5
inductive An8 (p0 p1 p2 p3 p4 p5 p6 p7 : Prop) : Prop
  | mk (h0 : p0) (h1 : p1) (h2 : p2) (h3 : p3) (h4 : p4) (h5 : p5) (h6 : p6) (h7 : p7) : An8 p0 p1 p2 p3 p4 p5 p6 p7
inductive An10 (p0 p1 p2 p3 p4 p5 p6 p7 p8 p9 : Prop) : Prop
  | mk (h0 : p0) (h1 : p1) (h2 : p2) (h3 : p3) (h4 : p4) (h5 : p5) (h6 : p6) (h7 : p7) (h8 : p8) (h9 : p9) : An10 p0 p1 p2 p3 p4 p5 p6 p7 p8 p9
inductive An11 (p0 p1 p2 p3 p4 p5 p6 p7 p8 p9 p10 : Prop) : Prop
  | mk (h0 : p0) (h1 : p1) (h2 : p2) (h3 : p3) (h4 : p4) (h5 : p5) (h6 : p6) (h7 : p7) (h8 : p8) (h9 : p9) (h10 : p10) : An11 p0 p1 p2 p3 p4 p5 p6 p7 p8 p9 p10
inductive An13 (p0 p1 p2 p3 p4 p5 p6 p7 p8 p9 p10 p11 p12 : Prop) : Prop
  | mk (h0 : p0) (h1 : p1) (h2 : p2) (h3 : p3) (h4 : p4) (h5 : p5) (h6 : p6) (h7 : p7) (h8 : p8) (h9 : p9) (h10 : p10) (h11 : p11) (h12 : p12) : An13 p0 p1 p2 p3 p4 p5 p6 p7 p8 p9 p10 p11 p12
inductive An15 (p0 p1 p2 p3 p4 p5 p6 p7 p8 p9 p10 p11 p12 p13 p14 : Prop) : Prop
  | mk (h0 : p0) (h1 : p1) (h2 : p2) (h3 : p3) (h4 : p4) (h5 : p5) (h6 : p6) (h7 : p7) (h8 : p8) (h9 : p9) (h10 : p10) (h11 : p11) (h12 : p12) (h13 : p13) (h14 : p14) : An15 p0 p1 p2 p3 p4 p5 p6 p7 p8 p9 p10 p11 p12 p13 p14
noncomputable def Does (w : World) (f : Addr) (vs : List Value) (lv : Nat) (mu rest : Led) (Post : Value → Led → Led → Prop) : Prop :=
  ∀ (mean : ExcName → Option Value) (mg mb : Str → Option Value) (dp un : Nat) (env : Env) (outer : List Env) (A₀ : Around) (base h₀ : Heap) (L : Addr) (m : Str → Option Value) (hh : Heap) (gs : Array GenState) (dr : Drawn) (tk : Tok) (os : OsState) (Q E : Value → Shared → Prop),
    Below A₀ base outer h₀ → Fr h₀ L hh m → (Kf w.params).In h₀ → News h₀ L hh (mu ++ rest) → (∀ q ∈ mu, ∀ p ∈ rest, p.1 ≠ q.1) → Top vw loo mean mg mb h₀ → env.frame = some L → env.scope.kind = .function →
    dp + 10 * lv < recursionLimit → un + 100 * lv < cLine →
    (∀ r mu' tl h' tk', Fr h₀ L h' m → News h₀ L h' (mu' ++ (tl ++ rest)) → mu'.map (·.1) = mu.map (·.1) → (∀ q ∈ mu ++ rest, ∀ p ∈ tl, q.1 ≠ p.1) → Post r mu' tl → Q r ⟨h', gs, dr, tk', os⟩) →
    wpAny (model prg w) (mkA dp un (env :: outer)) (call (.ref f) vs) Q E ⟨hh, gs, dr, tk, os⟩

/-- stops the walk -/
noncomputable def Halt (P : Prop) : Prop := P
theorem mark_call {M : Model} {A : Around} {f : Addr} {vs : List Value} {Q : Value → Shared → Prop} {E : Value → Shared → Prop} {s : Shared} (h : wpAny M A (call (.ref f) vs) Q E s) : wpAny M A (call (.ref f) vs) Q E s := h
theorem mark_lc {M : Model} {A : Around} {e : PySem.Expr} {gs : List Comprehension} {sc : Scope} {ps : Pos} {env : Env} {Q : Value → Shared → Prop} {E : Value → Shared → Prop} {s : Shared} (h : wpAny M A (eval (.ListComp e gs sc ps) env) Q E s) : wpAny M A (eval (.ListComp e gs sc ps) env) Q E s := h
theorem mark_cs {prog : Program} {w : World} {A : Around} {h₀ : Heap} {L : Addr} {m : Str → Option Value} {env : Env} {elt : PySem.Expr} {x : Str} {sc : Scope} {cl : List (Str × Addr)} {Fin : Shared → List Value → Led → Prop} {v : Value} {s : Shared} (h : PyProof.Rows.LCg.CompSrc prog w A h₀ L m env elt x sc cl Fin v s) : PyProof.Rows.LCg.CompSrc prog w A h₀ L m env elt x sc cl Fin v s := h
theorem mark_pi {M : Model} {A : Around} {v : Value} {Q : Value → Shared → Prop} {E : Value → Shared → Prop} {s : Shared} (h : wpAny M A (pyIter v) Q E s) : wpAny M A (pyIter v) Q E s := h
theorem mark_execs {M : Model} {A : Around} {st : Stmt} {rest : List Stmt} {env : Env} {Q : Flow → Shared → Prop} {E : Value → Shared → Prop} {s : Shared} (h : wpAny M A (execs (st :: rest) env) Q E s) : wpAny M A (execs (st :: rest) env) Q E s := h
/-- a frame by its rows: storing a name is consing in front, by rfl -/
noncomputable def lkm : List (Str × Option Value) → Str → Option Value
  | [], _ => none
  | (y, o) :: r, x => if x = y then o else lkm r x
theorem lkm_none : ∀ (al : List (Str × Option Value)) (x : Str), (∀ p ∈ al, x ≠ p.1) → lkm al x = none
  | [], _, _ => rfl
  | (y, o) :: r, x, h => by
    unfold lkm
    rw [if_neg (h _ (.head _))]
    exact lkm_none r x fun p hp => h p (.tail _ hp)
theorem ex_of {al : List (Str × Option Value)} {x : Str} (h : ¬ ∀ p ∈ al, x ≠ p.1) : ∃ p ∈ al, x = p.1 :=
  Classical.byContradiction fun n => h fun p hp e => n ⟨p, hp, e⟩
theorem lkm_ext (al bl : List (Str × Option Value)) (h1 : ∀ p ∈ al, lkm al p.1 = lkm bl p.1) (h2 : ∀ p ∈ bl, lkm al p.1 = lkm bl p.1) : lkm al = lkm bl := by
  funext x
  by_cases ha : ∀ p ∈ al, x ≠ p.1
  · by_cases hb : ∀ p ∈ bl, x ≠ p.1
    · rw [lkm_none al x ha, lkm_none bl x hb]
    · obtain ⟨p, hp, rfl⟩ := ex_of hb
      exact h2 p hp
  · obtain ⟨p, hp, rfl⟩ := ex_of ha
    exact h1 p hp
noncomputable def RowsEq (al bl : List (Str × Option Value)) : List (Str × Option Value) → Prop
  | [] => True
  | p :: r => lkm al p.1 = lkm bl p.1 ∧ RowsEq al bl r
theorem RowsEq.all {al bl : List (Str × Option Value)} {l : List (Str × Option Value)} (h : RowsEq al bl l) : ∀ p ∈ l, lkm al p.1 = lkm bl p.1 := by
  induction l with
  | nil => intro p hp; cases hp
  | cons q r ih =>
    intro p hp
    rcases List.mem_cons.mp hp with e | hp
    · rw [e]; exact h.1
    · exact ih h.2 p hp
theorem Fr_rows {g h : Heap} {L : Addr} {al : List (Str × Option Value)} (bl : List (Str × Option Value)) (F : Fr g L h (lkm al)) (e1 : RowsEq al bl al) (e2 : RowsEq al bl bl) : Fr g L h (lkm bl) := lkm_ext al bl e1.all e2.all ▸ F
noncomputable def norm : List (Str × Option Value) → List (Str × Option Value)
  | [] => []
  | p :: r => p :: (norm r).filter (fun q => !decide (q.1 = p.1))
theorem lkm_filter (y : Str) : ∀ (r : List (Str × Option Value)) (x : Str), x ≠ y → lkm (r.filter (fun q => !decide (q.1 = y))) x = lkm r x
  | [], _, _ => rfl
  | (z, o) :: r, x, h => by
    by_cases hz : z = y
    · have : lkm ((z, o) :: r) x = lkm r x := by show (if x = z then o else lkm r x) = _; rw [if_neg (by rw [hz]; exact h)]
      rw [this, List.filter_cons_of_neg (by simp [hz]), lkm_filter y r x h]
    · rw [List.filter_cons_of_pos (by simp [hz])]
      show (if x = z then o else lkm _ x) = (if x = z then o else lkm r x)
      rw [lkm_filter y r x h]
theorem lkm_norm : ∀ (al : List (Str × Option Value)), lkm (norm al) = lkm al
  | [] => rfl
  | (y, o) :: r => by
    funext x
    show (if x = y then o else lkm ((norm r).filter (fun q => !decide (q.1 = y))) x) = (if x = y then o else lkm r x)
    by_cases h : x = y
    · rw [if_pos h, if_pos h]
    · rw [if_neg h, if_neg h, lkm_filter y _ x h, lkm_norm r]
theorem Fr_norm {g h : Heap} {L : Addr} {al : List (Str × Option Value)} (F : Fr g L h (lkm al)) : Fr g L h (lkm (norm al)) := (lkm_norm al).symm ▸ F
theorem lkm_sel (al : List (Str × Option Value)) : ∀ (names : List Str) (x : Str), x ∈ names → lkm (names.map fun y => (y, lkm al y)) x = lkm al x
  | [], _, h => nomatch h
  | z :: r, x, h => by
    show (if x = z then lkm al z else lkm (r.map fun y => (y, lkm al y)) x) = _
    by_cases hz : x = z
    · rw [if_pos hz, hz]
    · rw [if_neg hz]
      exact lkm_sel al r x ((List.mem_cons.mp h).resolve_left hz)
theorem Fr_sel {g h : Heap} {L : Addr} (names : List Str) {al : List (Str × Option Value)} (F : Fr g L h (lkm al)) (e : (al.all fun p => decide (p.1 ∈ names)) = true) : Fr g L h (lkm (names.map fun y => (y, lkm al y))) := by
  refine (lkm_ext al _ (fun p hp => ?_) fun p hp => ?_) ▸ F
  · exact (lkm_sel al names p.1 (of_decide_eq_true (List.all_eq_true.mp e p hp))).symm
  · obtain ⟨y, hy, rfl⟩ := List.mem_map.mp hp
    exact (lkm_sel al names y hy).symm
theorem lkm_binds : ∀ (b : List (Str × Value)), lkm (b.map (fun p => (p.1, some p.2))) = fun y => b.lookup y
  | [] => rfl
  | (y, v) :: r => by
    funext x
    show (if x = y then some v else lkm (r.map (fun p => (p.1, some p.2))) x) = List.lookup x ((y, v) :: r)
    rw [lkm_binds r]
    by_cases h : x = y
    · subst h; simp [List.lookup]
    · have : (x == y) = false := by simp [h]
      simp [List.lookup, this, h]

noncomputable def DoesH (Hp : Heap → Prop) (w : World) (f : Addr) (vs : List Value) (lv : Nat) (mu rest : Led) (Post : Value → Led → Led → Prop) : Prop :=
  ∀ (mean : ExcName → Option Value) (mg mb : Str → Option Value) (dp un : Nat) (env : Env) (outer : List Env) (A₀ : Around) (base h₀ : Heap) (L : Addr) (m : Str → Option Value) (hh : Heap) (gs : Array GenState) (dr : Drawn) (tk : Tok) (os : OsState) (Q E : Value → Shared → Prop),
    Below A₀ base outer h₀ → Hp h₀ → Fr h₀ L hh m → (Kf w.params).In h₀ → News h₀ L hh (mu ++ rest) → (∀ q ∈ mu, ∀ p ∈ rest, p.1 ≠ q.1) → Top vw loo mean mg mb h₀ → env.frame = some L → env.scope.kind = .function →
    dp + 10 * lv < recursionLimit → un + 100 * lv < cLine →
    (∀ r mu' tl h' tk', Fr h₀ L h' m → News h₀ L h' (mu' ++ (tl ++ rest)) → mu'.map (·.1) = mu.map (·.1) → (∀ q ∈ mu ++ rest, ∀ p ∈ tl, q.1 ≠ p.1) → Post r mu' tl → Q r ⟨h', gs, dr, tk', os⟩) →
    wpAny (model prg w) (mkA dp un (env :: outer)) (call (.ref f) vs) Q E ⟨hh, gs, dr, tk, os⟩

/-- what a body's walk must end in -/
inductive BodyPost (g : Heap) (L : Addr) (mu rest : Led) (s : Shared) (Post : Value → Led → Led → Prop) (fl : Flow) (s' : Shared) : Prop
  | mk (m' : Str → Option Value) (mu' tl : Led) (h' : Heap) (tk' : Tok) (e : s' = { s with heap := h', toks := tk' }) (F : Fr g L h' m') (N : News g L h' (mu' ++ (tl ++ rest))) (hm : mu'.map (·.1) = mu.map (·.1)) (ho : ∀ q ∈ mu ++ rest, ∀ p ∈ tl, q.1 ≠ p.1)
    (hP : Post (match fl with | .ret v => v | _ => .none) mu' tl) : BodyPost g L mu rest s Post fl s'
theorem room1 {dp lv k : Nat} (h : dp + 10 * lv < recursionLimit + 9) (hk : Nat.ble (k + 1) lv = true) : dp + 1 + 10 * k < recursionLimit := by
  have := Nat.le_of_ble_eq_true hk; omega
theorem unit1 {un lv k : Nat} (h : un + 100 * lv < cLine + 97) (hk : Nat.ble (k + 1) lv = true) : un + 3 + 100 * k < cLine := by
  have := Nat.le_of_ble_eq_true hk; omega
theorem room2 {dp k : Nat} (h : dp + 600 < recursionLimit) (hk : Nat.ble k 59 = true) : dp + 1 + 10 * k < recursionLimit := by
  have := Nat.le_of_ble_eq_true hk; omega
theorem unit2 {un k : Nat} (h : un + 8000 < cLine) (hk : Nat.ble k 79 = true) : un + 3 + 100 * k < cLine := by
  have := Nat.le_of_ble_eq_true hk; omega

theorem Does.of {w : World} {f : Addr} {vs : List Value} {lv : Nat} {mu rest : Led} {Post : Value → Led → Led → Prop}
    {name qual : Str} {params : Arguments} {body body₀ : List Stmt} {scope scope₀ : Scope} {dV kV doc pm cdv ct oc : Value} {an od : Option Addr} {osl : Array (Option Value)} {binds : List (Str × Value)} {al : List (Str × Option Value)}
    (ho : (Kf w.params).lookup f = some ⟨oc, od, .func (fnOf name qual params body₀ scope₀ dV kV doc pm an cdv ct), osl⟩) (hb : body₀ = body) (hs : scope₀ = scope) (hcd : codeIn (Kf w.params) cdv qual = true)
    (hbind : bindArgs (fnOf name qual params body scope dV kV doc pm an cdv ct) ⟨vs, []⟩ = pure binds) (hloc : ∀ y ∈ binds, scope.names.lookup y.1 = some .local)
    (hcell : ∀ x ∈ scope.names, x.2 ≠ .cell) (hco : scope.isCoroutine = false) (hgen : scope.isGenerator = false) (hk : scope.kind = .function) (hlv : 1 ≤ lv) (hal : binds.reverse.map (fun p => (p.1, some p.2)) = al)
    (h : ∀ (mean : ExcName → Option Value) (mg mb : Str → Option Value) (dp un : Nat) (outer : List Env) (base g : Heap) (L : Addr) (s : Shared) (E : Value → Shared → Prop),
      Fr g L s.heap (lkm al) → News g L s.heap (mu ++ rest) → (∀ q ∈ mu, ∀ p ∈ rest, p.1 ≠ q.1) → Below (mkA dp un outer) base outer g → (Kf w.params).In g → Top vw loo mean mg mb g →
      (∀ p ∈ mu ++ rest, p.1 < L) → dp + 10 * lv < recursionLimit + 9 → un + 100 * lv < cLine + 97 →
      wpAny (model prg w) (mkA (dp + 1) (un + 3) (envOf qual scope L f cdv :: outer)) (execs body (envOf qual scope L f cdv)) (BodyPost g L mu rest s Post)
        (fun e s' => wpAny (model prg w) (mkA (dp + 1) (un + 3) (envOf qual scope L f cdv :: outer)) (leaving (envOf qual scope L f cdv) e) (fun _ s'' => E e s'') (fun e' s'' => E e' s'') s') s) :
    Does w f vs lv mu rest Post := by
  subst hb hs
  intro mean mg mb dp un env outer A₀ base h₀ L m hh gs dr tk os Q E B F X N hap T hf hke hdp hun hret
  obtain ⟨s, rfl, rfl, rfl, rfl, rfl⟩ : ∃ s : Shared, s.heap = hh ∧ s.gens = gs ∧ s.drawn = dr ∧ s.toks = tk ∧ s.os = os := ⟨⟨hh, gs, dr, tk, os⟩, rfl, rfl, rfl, rfl, rfl⟩
  refine wpAny_call (callX_plain (cl := []) B F N T.nolimit rfl hf hke ((X.keeps F.keep) _ _ ho) rfl (codeRec_of (X.keeps F.keep) hcd) (by show dp < recursionLimit; omega) (BindsTo.of_eq hbind) hloc (fun g L' h₁ FG F' N' B' st lt => ?_) hcell hco hgen hk)
  have K := h mean mg mb dp (un) (env :: outer) base g L' { s with heap := h₁, toks := s.toks + binds.length } (fun e s'' => E e s'') (by subst hal; rw [lkm_binds]; exact F') N' hap ⟨rfl, B'.stays, B'.frames⟩ (X.keeps st) (T.keeps st) lt (by omega) (by omega)
  refine wpAny_mono K (fun fl s' hp => ?_) (fun e s' he => he)
  obtain ⟨m', mu', tl, h', tk', rfl, F2, N2, hm, ho2, hP⟩ := hp
  exact ⟨L', m', _, F2, N2, fun F3 N3 => hret _ mu' tl h' tk' F3 N3 hm ho2 hP⟩
theorem DoesH.of {Hp : Heap → Prop} (hmono : ∀ h h' : Heap, h.StaysIn h' → Hp h → Hp h') {w : World} {f : Addr} {vs : List Value} {lv : Nat} {mu rest : Led} {Post : Value → Led → Led → Prop}
    {name qual : Str} {params : Arguments} {body body₀ : List Stmt} {scope scope₀ : Scope} {dV kV doc pm cdv ct oc : Value} {an od : Option Addr} {osl : Array (Option Value)} {binds : List (Str × Value)} {al : List (Str × Option Value)}
    (ho : (Kf w.params).lookup f = some ⟨oc, od, .func (fnOf name qual params body₀ scope₀ dV kV doc pm an cdv ct), osl⟩) (hb : body₀ = body) (hs : scope₀ = scope) (hcd : codeIn (Kf w.params) cdv qual = true)
    (hbind : bindArgs (fnOf name qual params body scope dV kV doc pm an cdv ct) ⟨vs, []⟩ = pure binds) (hloc : ∀ y ∈ binds, scope.names.lookup y.1 = some .local)
    (hcell : ∀ x ∈ scope.names, x.2 ≠ .cell) (hco : scope.isCoroutine = false) (hgen : scope.isGenerator = false) (hk : scope.kind = .function) (hlv : 1 ≤ lv) (hal : binds.reverse.map (fun p => (p.1, some p.2)) = al)
    (h : ∀ (mean : ExcName → Option Value) (mg mb : Str → Option Value) (dp un : Nat) (outer : List Env) (base g : Heap) (L : Addr) (s : Shared) (E : Value → Shared → Prop),
      Hp g → Fr g L s.heap (lkm al) → News g L s.heap (mu ++ rest) → (∀ q ∈ mu, ∀ p ∈ rest, p.1 ≠ q.1) → Below (mkA dp un outer) base outer g → (Kf w.params).In g → Top vw loo mean mg mb g →
      (∀ p ∈ mu ++ rest, p.1 < L) → dp + 10 * lv < recursionLimit + 9 → un + 100 * lv < cLine + 97 →
      wpAny (model prg w) (mkA (dp + 1) (un + 3) (envOf qual scope L f cdv :: outer)) (execs body (envOf qual scope L f cdv)) (BodyPost g L mu rest s Post)
        (fun e s' => wpAny (model prg w) (mkA (dp + 1) (un + 3) (envOf qual scope L f cdv :: outer)) (leaving (envOf qual scope L f cdv) e) (fun _ s'' => E e s'') (fun e' s'' => E e' s'') s') s) :
    DoesH Hp w f vs lv mu rest Post := by
  subst hb hs
  intro mean mg mb dp un env outer A₀ base h₀ L m hh gs dr tk os Q E B H F X N hap T hf hke hdp hun hret
  obtain ⟨s, rfl, rfl, rfl, rfl, rfl⟩ : ∃ s : Shared, s.heap = hh ∧ s.gens = gs ∧ s.drawn = dr ∧ s.toks = tk ∧ s.os = os := ⟨⟨hh, gs, dr, tk, os⟩, rfl, rfl, rfl, rfl, rfl⟩
  refine wpAny_call (callX_plain (cl := []) B F N T.nolimit rfl hf hke ((X.keeps F.keep) _ _ ho) rfl (codeRec_of (X.keeps F.keep) hcd) (by show dp < recursionLimit; omega) (BindsTo.of_eq hbind) hloc (fun g L' h₁ FG F' N' B' st lt => ?_) hcell hco hgen hk)
  have K := h mean mg mb dp (un) (env :: outer) base g L' { s with heap := h₁, toks := s.toks + binds.length } (fun e s'' => E e s'') (hmono _ _ st H) (by subst hal; rw [lkm_binds]; exact F') N' hap ⟨rfl, B'.stays, B'.frames⟩ (X.keeps st) (T.keeps st) lt (by omega) (by omega)
  refine wpAny_mono K (fun fl s' hp => ?_) (fun e s' he => he)
  obtain ⟨m', mu', tl, h', tk', rfl, F2, N2, hm, ho2, hP⟩ := hp
  exact ⟨L', m', _, F2, N2, fun F3 N3 => hret _ mu' tl h' tk' F3 N3 hm ho2 hP⟩
theorem Does.ofC {w : World} {f : Addr} {vs : List Value} {lv : Nat} {mu rest : Led} {Post : Value → Led → Led → Prop}
    {name qual : Str} {params : Arguments} {body body₀ : List Stmt} {scope scope₀ : Scope} {dV kV doc pm cdv ct oc : Value} {an od : Option Addr} {osl : Array (Option Value)} {binds : List (Str × Value)} {al : List (Str × Option Value)}
    (ho : (Kf w.params).lookup f = some ⟨oc, od, .func (fnOf name qual params body₀ scope₀ dV kV doc pm an cdv ct), osl⟩) (hb : body₀ = body) (hs : scope₀ = scope) (hcd : codeIn (Kf w.params) cdv qual = true)
    (hbind : bindArgs (fnOf name qual params body scope dV kV doc pm an cdv ct) ⟨vs, []⟩ = pure binds) (hkind : (binds.all fun y => scope.names.lookup y.1 == some .local || scope.names.lookup y.1 == some .cell) = true)
    (hnd : ((cellsFrom 0 scope.names []).map (·.1)).Nodup) (hco : scope.isCoroutine = false) (hgen : scope.isGenerator = false) (hk : scope.kind = .function) (hlv : 1 ≤ lv) {cm : Str → Option Value} {cf : Addr → List (Str × Addr)} (hal : ∀ L, bindL (envOfC qual scope L f cdv).kindOf binds (fun _ => none) = lkm al) (hcm : ∀ L, bindC (envOfC qual scope L f cdv).kindOf binds (fun _ => none) = cm) (hcf : ∀ L, cellsFrom (L + 1) scope.names [] = cf L)
    (h : ∀ (mean : ExcName → Option Value) (mg mb : Str → Option Value) (dp un : Nat) (outer : List Env) (base g : Heap) (L : Addr) (s : Shared) (cells : Led) (E : Value → Shared → Prop),
      Fr g L s.heap (lkm al) → News g L s.heap (cells ++ (mu ++ rest)) → CellsAre cm (cf L) cells → (∀ q ∈ mu, ∀ p ∈ rest, p.1 ≠ q.1) → Below (mkA dp un outer) base outer g → (Kf w.params).In g → Top vw loo mean mg mb g →
      (∀ p ∈ mu ++ rest, p.1 < L) → dp + 10 * lv < recursionLimit + 9 → un + 100 * lv < cLine + 97 →
      wpAny (model prg w) (mkA (dp + 1) (un + 3) (envOfC qual scope L f cdv :: outer)) (execs body (envOfC qual scope L f cdv)) (BodyPost g L mu rest s Post)
        (fun e s' => wpAny (model prg w) (mkA (dp + 1) (un + 3) (envOfC qual scope L f cdv :: outer)) (leaving (envOfC qual scope L f cdv) e) (fun _ s'' => E e s'') (fun e' s'' => E e' s'') s') s) :
    Does w f vs lv mu rest Post := by
  subst hb hs
  intro mean mg mb dp un env outer A₀ base h₀ L m hh gs dr tk os Q E B F X N hap T hf hke hdp hun hret
  obtain ⟨s, rfl, rfl, rfl, rfl, rfl⟩ : ∃ s : Shared, s.heap = hh ∧ s.gens = gs ∧ s.drawn = dr ∧ s.toks = tk ∧ s.os = os := ⟨⟨hh, gs, dr, tk, os⟩, rfl, rfl, rfl, rfl, rfl⟩
  refine wpAny_call (code_defC B F X N T rfl hf hke ho hcd (by show dp < recursionLimit; omega) (BindsTo.of_eq hbind) hkind hnd (fun g L' h₁ tk cells FG F' N' C' B' X' T' lt => ?_) hco hgen hk)
  have K := h mean mg mb dp (un) (env :: outer) base g L' { s with heap := h₁, toks := tk } cells (fun e s'' => E e s'') (by rw [← hal L']; exact F') N' (by rw [← hcm L', ← hcf L']; exact C') hap ⟨rfl, B'.stays, B'.frames⟩ X' T' lt (by omega) (by omega)
  refine wpAny_mono K (fun fl s' hp => ?_) (fun e s' he => he)
  obtain ⟨m', mu', tl, h', tk', rfl, F2, N2, hm, ho2, hP⟩ := hp
  exact ⟨L', m', _, F2, N2, fun F3 N3 => hret _ mu' tl h' tk' F3 N3 hm ho2 hP⟩
theorem Does.use {w : World} {f : Addr} {vs : List Value} {lv : Nat} {mu rest news : Led} {Post : Value → Led → Led → Prop} {mean : ExcName → Option Value} {mg mb : Str → Option Value} {dp un : Nat} {env : Env} {outer : List Env} {A₀ : Around} {base h₀ : Heap} {L : Addr} {m : Str → Option Value} {hh : Heap} {gs : Array GenState} {dr : Drawn} {tk : Tok} {os : OsState} {Q E : Value → Shared → Prop}
    (C : Does w f vs lv mu rest Post) (B : Below A₀ base outer h₀) (F : Fr h₀ L hh m) (X : (Kf w.params).In h₀) (N : News h₀ L hh news) (T : Top vw loo mean mg mb h₀)
    (hs : ∀ p ∈ mu ++ rest, p ∈ news) (hap : ∀ q ∈ mu, ∀ p ∈ rest, p.1 ≠ q.1) (hd : dp + 10 * lv < recursionLimit) (hu : un + 100 * lv < cLine)
    (ret : ∀ r mu' tl h' tk', Fr h₀ L h' m → News h₀ L h' (mu' ++ (tl ++ rest)) → mu'.map (·.1) = mu.map (·.1) → (∀ q ∈ mu ++ rest, ∀ p ∈ tl, q.1 ≠ p.1) → Post r mu' tl → Q r ⟨h', gs, dr, tk', os⟩)
    (hf : env.frame = some L := by rfl) (hke : env.scope.kind = .function := by rfl) :
    wpAny (model prg w) (mkA dp un (env :: outer)) (call (.ref f) vs) Q E ⟨hh, gs, dr, tk, os⟩ :=
  C _ _ _ _ _ _ _ _ _ _ _ _ _ _ _ _ _ _ _ B F X (fun p hp => N p (hs p hp)) hap T hf hke hd hu ret
theorem Does.useAt {w : World} {f : Addr} {vs : List Value} {lv : Nat} {mu : Led} {Post : Value → Led → Led → Prop} {mean : ExcName → Option Value} {mg mb : Str → Option Value} {dp un : Nat} {env : Env} {outer : List Env} {A₀ : Around} {base h₀ : Heap} {L : Addr} {m : Str → Option Value} {hh : Heap} {gs : Array GenState} {dr : Drawn} {tk : Tok} {os : OsState} {Q E : Value → Shared → Prop}
    (pre post : Led) (C : Does w f vs lv mu (pre ++ post) Post) (B : Below A₀ base outer h₀) (F : Fr h₀ L hh m) (X : (Kf w.params).In h₀) (N : News h₀ L hh (pre ++ (mu ++ post))) (T : Top vw loo mean mg mb h₀)
    (hap : ∀ q ∈ mu, ∀ p ∈ pre ++ post, p.1 ≠ q.1) (hd : dp + 10 * lv < recursionLimit) (hu : un + 100 * lv < cLine)
    (ret : ∀ r mu' tl h' tk', Fr h₀ L h' m → News h₀ L h' (mu' ++ (tl ++ (pre ++ post))) → mu'.map (·.1) = mu.map (·.1) → (∀ q ∈ mu ++ (pre ++ post), ∀ p ∈ tl, q.1 ≠ p.1) → Post r mu' tl → Q r ⟨h', gs, dr, tk', os⟩)
    (hf : env.frame = some L := by rfl) (hke : env.scope.kind = .function := by rfl) :
    wpAny (model prg w) (mkA dp un (env :: outer)) (call (.ref f) vs) Q E ⟨hh, gs, dr, tk, os⟩ :=
  C.use B F X N T (fun p hp => by
    rcases List.mem_append.mp hp with h | h
    · exact List.mem_append.mpr (.inr (List.mem_append.mpr (.inl h)))
    · rcases List.mem_append.mp h with h | h
      · exact List.mem_append.mpr (.inl h)
      · exact List.mem_append.mpr (.inr (List.mem_append.mpr (.inr h)))) hap hd hu ret hf hke
/-- a def that makes and turns nothing that is kept: the ledger stands whole -/
theorem Does.use0 {w : World} {f : Addr} {vs : List Value} {lv : Nat} {news : Led} {P : Value → Prop} {mean : ExcName → Option Value} {mg mb : Str → Option Value} {dp un : Nat} {env : Env} {outer : List Env} {A₀ : Around} {base h₀ : Heap} {L : Addr} {m : Str → Option Value} {hh : Heap} {gs : Array GenState} {dr : Drawn} {tk : Tok} {os : OsState} {Q E : Value → Shared → Prop}
    (C : Does w f vs lv [] news (fun r _ tl => tl = [] ∧ P r)) (B : Below A₀ base outer h₀) (F : Fr h₀ L hh m) (X : (Kf w.params).In h₀) (N : News h₀ L hh news) (T : Top vw loo mean mg mb h₀)
    (hd : dp + 10 * lv < recursionLimit) (hu : un + 100 * lv < cLine)
    (ret : ∀ r h' tk', Fr h₀ L h' m → News h₀ L h' news → P r → Q r ⟨h', gs, dr, tk', os⟩)
    (hf : env.frame = some L := by rfl) (hke : env.scope.kind = .function := by rfl) :
    wpAny (model prg w) (mkA dp un (env :: outer)) (call (.ref f) vs) Q E ⟨hh, gs, dr, tk, os⟩ :=
  C _ _ _ _ _ _ _ _ _ _ _ _ _ _ _ _ _ _ _ B F X N (fun _ h => nomatch h) T hf hke hd hu fun r mu' tl h' tk' F' N' hm _ hP => by
    obtain ⟨rfl, hP⟩ := hP
    cases mu' with
    | nil => exact ret r h' tk' F' N' hP
    | cons _ _ => cases hm
theorem Does.useT {w : World} {f : Addr} {vs : List Value} {lv : Nat} {news : Led} {Post : Value → Led → Led → Prop} {mean : ExcName → Option Value} {mg mb : Str → Option Value} {dp un : Nat} {env : Env} {outer : List Env} {A₀ : Around} {base h₀ : Heap} {L : Addr} {m : Str → Option Value} {hh : Heap} {gs : Array GenState} {dr : Drawn} {tk : Tok} {os : OsState} {Q E : Value → Shared → Prop}
    (C : Does w f vs lv [] news Post) (B : Below A₀ base outer h₀) (F : Fr h₀ L hh m) (X : (Kf w.params).In h₀) (N : News h₀ L hh news) (T : Top vw loo mean mg mb h₀)
    (hd : dp + 10 * lv < recursionLimit) (hu : un + 100 * lv < cLine)
    (ret : ∀ r tl h' tk', Fr h₀ L h' m → News h₀ L h' (tl ++ news) → (∀ q ∈ news, ∀ p ∈ tl, q.1 ≠ p.1) → Post r [] tl → Q r ⟨h', gs, dr, tk', os⟩)
    (hf : env.frame = some L := by rfl) (hke : env.scope.kind = .function := by rfl) :
    wpAny (model prg w) (mkA dp un (env :: outer)) (call (.ref f) vs) Q E ⟨hh, gs, dr, tk, os⟩ :=
  C _ _ _ _ _ _ _ _ _ _ _ _ _ _ _ _ _ _ _ B F X N (fun _ h => nomatch h) T hf hke hd hu fun r mu' tl h' tk' F' N' hm ho hP => by
    cases mu' with
    | nil => exact ret r tl h' tk' F' N' ho hP
    | cons _ _ => cases hm
/-- a law's body, by its function object -/
noncomputable def BodyOf (w : World) (f : Addr) (P : Str → List Stmt → Scope → Value → Prop) : Prop :=
  ∀ (name qual : Str) (params : Arguments) (body : List Stmt) (scope : Scope) (dV kV doc pm cdv ct oc : Value) (an od : Option Addr) (osl : Array (Option Value)),
    (Kf w.params).lookup f = some ⟨oc, od, .func (fnOf name qual params body scope dV kV doc pm an cdv ct), osl⟩ → P qual body scope cdv
theorem BodyOf.of {w : World} {f : Addr} {P : Str → List Stmt → Scope → Value → Prop} {name qual : Str} {params : Arguments} {body body₀ : List Stmt} {scope scope₀ : Scope} {dV kV doc pm cdv ct oc : Value} {an od : Option Addr} {osl : Array (Option Value)}
    (ho : (Kf w.params).lookup f = some ⟨oc, od, .func (fnOf name qual params body₀ scope₀ dV kV doc pm an cdv ct), osl⟩) (hb : body₀ = body) (hs : scope₀ = scope) (h : P qual body scope cdv) : BodyOf w f P := by
  subst hb hs
  intro name' qual' params' body' scope' dV' kV' doc' pm' cdv' ct' oc' an' od' osl' ho'
  have e := ho.symm.trans ho'
  simp only [Option.some.injEq, Obj.mk.injEq, Data.func.injEq, fnOf] at e
  obtain ⟨_, _, e, _⟩ := e
  injection e with _ e2 _ e4 e5 _ _ _ _ _ _ _ e9
  injection e4 with e4
  subst e2 e4 e5 e9
  exact h
theorem BodyOf.of2 {w : World} {f : Addr} {P P2 : Str → List Stmt → Scope → Value → Prop} {name qual : Str} {params : Arguments} {body body₀ : List Stmt} {scope scope₀ : Scope} {dV kV doc pm cdv ct oc : Value} {an od : Option Addr} {osl : Array (Option Value)} (c : BodyOf w f P2)
    (ho : (Kf w.params).lookup f = some ⟨oc, od, .func (fnOf name qual params body₀ scope₀ dV kV doc pm an cdv ct), osl⟩) (hb : body₀ = body) (hs : scope₀ = scope) (h : P2 qual body scope cdv → P qual body scope cdv) : BodyOf w f P := BodyOf.of ho hb hs (h (by subst hb hs; exact c _ _ _ _ _ _ _ _ _ _ _ _ _ _ _ ho))
theorem BodyOf.fin {w : World} {f : Addr} {P : Str → List Stmt → Scope → Value → Prop} {G : Prop} {name qual : Str} {params : Arguments} {body body₀ : List Stmt} {scope scope₀ : Scope} {dV kV doc pm cdv ct oc : Value} {an od : Option Addr} {osl : Array (Option Value)} (c : BodyOf w f P)
    (ho : (Kf w.params).lookup f = some ⟨oc, od, .func (fnOf name qual params body₀ scope₀ dV kV doc pm an cdv ct), osl⟩) (hb : body₀ = body) (hs : scope₀ = scope) (h : P qual body scope cdv → G) : G := h (by subst hb hs; exact c _ _ _ _ _ _ _ _ _ _ _ _ _ _ _ ho)
/-- leaf data -/
inductive Lf where
  | null
  | truth (b : Bool)
  | int (i : Int)
  | real (a b : Int)
  | name (x : Str)
  | str (o : Array UInt8) (hex : Bool)
  | ref (n g : Int)
inductive LfIn (news : Led) : Value → Lf → Prop
  | null : LfIn news .none .null
  | truth (b : Bool) : LfIn news (.bool b) (.truth b)
  | int (i : Int) (t : Tok) : LfIn news (.int i t) (.int i)
  | real {x dx : Addr} {n : Nat} {k1 k2 : Int} {t1 t2 ta tb : Tok} {a b : Int} : (x, instObj 155 dx) ∈ news → (dx, dictOf [⟨k1, .str (Str.ofString "top") t1, .int a ta⟩, ⟨k2, .str (Str.ofString "places") t2, .int b tb⟩] n) ∈ news → LfIn news (.ref x) (.real a b)
  | name {x dx : Addr} {n : Nat} {k1 : Int} {t1 ta : Tok} {a : Str} : (x, instObj 183 dx) ∈ news → (dx, dictOf [⟨k1, .str (Str.ofString "text") t1, .str a ta⟩] n) ∈ news → LfIn news (.ref x) (.name a)
  | str {x dx : Addr} {n : Nat} {k1 k2 : Int} {t1 t2 ta : Tok} {a : Array UInt8} {b : Bool} : (x, instObj 205 dx) ∈ news → (dx, dictOf [⟨k1, .str (Str.ofString "octets") t1, .bytes a ta⟩, ⟨k2, .str (Str.ofString "is_hex") t2, .bool b⟩] n) ∈ news → LfIn news (.ref x) (.str a b)
  | ref {x dx : Addr} {n : Nat} {k1 k2 : Int} {t1 t2 ta tb : Tok} {a b : Int} : (x, instObj 254 dx) ∈ news → (dx, dictOf [⟨k1, .str (Str.ofString "number") t1, .int a ta⟩, ⟨k2, .str (Str.ofString "generation") t2, .int b tb⟩] n) ∈ news → LfIn news (.ref x) (.ref a b)
theorem LfIn.mono {news news' : Led} (hs : ∀ p ∈ news, p ∈ news') {v : Value} {l : Lf} (h : LfIn news v l) : LfIn news' v l := by
  cases h with
  | null => exact .null
  | truth b => exact .truth b
  | int i t => exact .int i t
  | real h1 h2 => exact .real (hs _ h1) (hs _ h2)
  | name h1 h2 => exact .name (hs _ h1) (hs _ h2)
  | str h1 h2 => exact .str (hs _ h1) (hs _ h2)
  | ref h1 h2 => exact .ref (hs _ h1) (hs _ h2)
inductive All2 {α β : Type} (R : α → β → Prop) : List α → List β → Prop
  | nil : All2 R [] []
  | cons {a : α} {b : β} {as : List α} {bs : List β} : R a b → All2 R as bs → All2 R (a :: as) (b :: bs)
theorem All2.mono {α β : Type} {R S : α → β → Prop} (hs : ∀ a b, R a b → S a b) {as : List α} {bs : List β} (h : All2 R as bs) : All2 S as bs := by
  induction h with
  | nil => exact .nil
  | cons h _ ih => exact .cons (hs _ _ h) ih
theorem All2.length {α β : Type} {R : α → β → Prop} {as : List α} {bs : List β} (h : All2 R as bs) : as.length = bs.length := by
  induction h with
  | nil => rfl
  | cons _ _ ih => simp [ih]
theorem All2.snoc {α β : Type} {R : α → β → Prop} {as : List α} {bs : List β} {a : α} {b : β} (h : All2 R as bs) (hb : R a b) : All2 R (as ++ [a]) (bs ++ [b]) := by
  induction h with
  | nil => exact .cons hb .nil
  | cons h _ ih => exact .cons h ih
theorem All2.get {α β : Type} {R : α → β → Prop} {as : List α} {bs : List β} (h : All2 R as bs) {i : Nat} {a : α} (ha : as[i]? = some a) : ∃ b, bs[i]? = some b ∧ R a b := by
  induction h generalizing i with
  | nil => simp at ha
  | cons h _ ih =>
    cases i with
    | zero => simp at ha; subst ha; exact ⟨_, by simp, h⟩
    | succ i => exact ih (by simpa using ha)
/-- data one deep -/
inductive Dt where
  | leaf (l : Lf)
  | arr (ls : List Lf)
  | dict (es : List (Str × Lf))
noncomputable def EntIn (news : Led) (kv : Str × Value) (p : Str × Lf) : Prop := kv.1 = p.1 ∧ LfIn news kv.2 p.2
inductive DtIn (w : World) (news : Led) : Value → Dt → Prop
  | leaf {v : Value} {l : Lf} : LfIn news v l → DtIn w news v (.leaf l)
  | arr {x : Addr} {vs : List Value} {n : Nat} {ls : List Lf} : (x, listOf vs.toArray n) ∈ news → All2 (LfIn news) vs ls → DtIn w news (.ref x) (.arr ls)
  | dict {x : Addr} {od : Obj} {kvs : List (Str × Value)} {ps : List (Str × Lf)} : (x, od) ∈ news → (x == sysModules) = false → od.IsDictOf (PySem.strKind prg w) kvs → All2 (EntIn news) kvs ps → DtIn w news (.ref x) (.dict ps)
theorem EntIn.mono {news news' : Led} (hs : ∀ p ∈ news, p ∈ news') {e : Str × Value} {p : Str × Lf} (h : EntIn news e p) : EntIn news' e p := ⟨h.1, h.2.mono hs⟩
theorem DtIn.mono {w : World} {news news' : Led} (hs : ∀ p ∈ news, p ∈ news') {v : Value} {d : Dt} (h : DtIn w news v d) : DtIn w news' v d := by
  cases h with
  | leaf h => exact .leaf (h.mono hs)
  | arr h1 h2 => exact .arr (hs _ h1) (h2.mono fun _ _ => LfIn.mono hs)
  | dict h1 h2 h3 h4 => exact .dict (hs _ h1) h2 h3 (h4.mono fun _ _ => EntIn.mono hs)
noncomputable def Lf.kind : Lf → Str
  | .null => Str.ofString "null"
  | .truth _ => Str.ofString "truth"
  | .int _ => Str.ofString "int"
  | .real .. => Str.ofString "real"
  | .name _ => Str.ofString "name"
  | .str .. => Str.ofString "string"
  | .ref .. => Str.ofString "ref"
noncomputable def Dt.kind : Dt → Str
  | .leaf l => l.kind
  | .arr _ => Str.ofString "array"
  | .dict _ => Str.ofString "dict"
theorem fill_all : Fill PySem.Challenge.rw_nn0145_01 Kf := by
  k_fill
  trivial
local macro_rules | `(tactic| k_room) => `(tactic| ((try simp only [depth_under_make, depth_under_kw, depth_in1, depth_deeper]); (try dsimp only); omega))
local macro_rules | `(tactic| k_units) => `(tactic| ((try simp only [units_in1, units_deeper, Around.mark_units]); (try dsimp only); (try simp only [cLine_is] at *); omega))
local macro_rules | `(tactic| k_all) => `(tactic| with_reducible assumption)
local macro_rules | `(tactic| k_mem) => `(tactic| assumption)
local macro_rules | `(tactic| omega) => `(tactic| first | with_reducible assumption | exact Nat.le_trans (by with_reducible assumption) (by decide) | exact Int.le_trans (by with_reducible assumption) (by decide) | k_extra "x lia" | omega (config := {}))
local macro_rules | `(tactic| walk_at $s:str) => `(tactic| k_extra $s)
section
variable {w : World} {dp un : Nat} {fr : List Env} {E : Value → Shared → Prop} {s : Shared} {g : Heap} {L f : Addr} {m : Str → Option Value} {mean : ExcName → Option Value} {mg mb : Str → Option Value} {qual cn : Str} {scope : Scope} {cdv v cv t : Value} {H : Heap → Prop} {b : Bool}
  {k : Str} {kk : Nat} {rest : List Stmt} {p1 p2 p3 p4 p5 p6 p7 : Pos} {Q : Flow → Shared → Prop}
theorem ko_step
    (F : Fr g L s.heap m) (X : (Kf w.params).In g) (T : Top vw loo mean mg mb g) (hv : m (Str.ofString "value") = some v) (hk : scope.kind = .function) (h1 : (envOf qual scope L f cdv).kindOf (Str.ofString "isinstance") = some .globalImplicit) (h2 : (envOf qual scope L f cdv).kindOf (Str.ofString "value") = some .local)
    (hc : ∀ {M : Model} {A : Around} {E : Value → Shared → Prop} {Q : Value → Shared → Prop} {s' : Shared}, s'.heap = s.heap → Q cv s' → wpAny M A (eval (.Name cn p3) (envOf qual scope L f cdv)) Q E s')
    (Z : KitX (Kf w.params) v t H) (hH : H s.heap) (e : kitOne (Kf w.params) t cv = some b) (hx : v ≠ .builtin "__main__.__loader__#opaque")
    (hb : ∀ tk, b = false → wpAny (model prg w) (mkA dp un fr) (execs rest (envOf qual scope L f cdv)) Q E { s with toks := tk })
    (hrs : ∀ tk tk', b = true → Q (.ret (.str k tk')) { s with toks := tk }) :
    wpAny (model prg w) (mkA dp un fr) (execs (.If (.Call (.Name (Str.ofString "isinstance") p1) [.Name (Str.ofString "value") p2, .Name cn p3] [] p4) [.Return (some (.Constant (.str k) kk p5)) p6] [] p7 :: rest) (envOf qual scope L f cdv)) Q E s := by
  refine wpAny_execs_cons (wpAny_If (isTrue_plain (Call_ ?_)))
  refine' name_B F X (topRead_of T) ?k3 ?k4 ?k5 ?_ hk h1 (by decide); (case k3 => k_dflt k_is); (case k4 => boot_by_name); (case k5 => decide)
  refine PyProof.Rows.callWith_builtin1 (args_cons (ld F hv (args_cons (hc rfl (args_nil ?_))) hk h2)) (by rfl) (by rfl)
  refine kia_one Z (X.keeps F.keep) hH e hx fun tk => ?_
  refine wpAny_truthy_bool ?_
  cases b with
  | true => exact ite_tt (wpAny_execs_cons (wpAny_Return_some (Constant_str (hrs _ _ rfl))))
  | false => exact ite_ff (wpAny_execs_nil (hb tk rfl))
theorem ko_none {p0 : Pos} (F : Fr g L s.heap m) (hv : m (Str.ofString "value") = some v) (hk : scope.kind = .function) (h2 : (envOf qual scope L f cdv).kindOf (Str.ofString "value") = some .local) (hn : (v == Value.none) = b)
    (hb : ∀ tk, b = false → wpAny (model prg w) (mkA dp un fr) (execs rest (envOf qual scope L f cdv)) Q E { s with toks := tk })
    (hrs : ∀ tk tk', b = true → Q (.ret (.str k tk')) { s with toks := tk }) :
    wpAny (model prg w) (mkA dp un fr) (execs (.If (.Compare (.Name (Str.ofString "value") p2) [.Is] [.Constant .none kk p0] p4) [.Return (some (.Constant (.str k) kk p5)) p6] [] p7 :: rest) (envOf qual scope L f cdv)) Q E s := by
  refine wpAny_execs_cons (wpAny_If (wpAny_isTrue_Compare1 (ld F hv (wpAny_Constant_none ?_) hk h2)))
  have hi : wpAny (model prg w) (mkA dp un fr) (compareOp .Is v .none) (fun r s' => r = .bool b ∧ s' = s) E s := by
    cases v <;> subst hn <;> exact fun _ _ _ => ⟨rfl, rfl⟩
  refine wpAny_mono hi (fun r s' hr => ?_) fun _ _ x => x
  obtain ⟨rfl, rfl⟩ := hr
  refine wpAny_truthy_bool ?_
  cases b with
  | true => exact ite_tt (wpAny_execs_cons (wpAny_Return_some (Constant_str (hrs _ _ rfl))))
  | false => exact ite_ff (wpAny_execs_nil (hb _ rfl))
end
noncomputable def kindName (b0 b1 b2 b3 b4 b5 b6 b7 b8 b9 : Bool) : Str :=
  if b0 then Str.ofString "null" else if b1 then Str.ofString "truth" else if b2 then Str.ofString "int" else if b3 then Str.ofString "real" else if b4 then Str.ofString "name" else if b5 then Str.ofString "string" else if b6 then Str.ofString "array" else if b7 then Str.ofString "dict" else if b8 then Str.ofString "stream" else Str.ofString "ref"
theorem kind_gen {w : World} {v t : Value} {H : Heap → Prop} {rest : Led} {b0 b1 b2 b3 b4 b5 b6 b7 b8 b9 : Bool} (Z : KitX (Kf w.params) v t H) (hH : ∀ g L h, News g L h rest → H h) (hx : v ≠ .builtin "__main__.__loader__#opaque")
    (e0 : (v == Value.none) = b0)
    (e1 : kitOne (Kf w.params) t (.type "bool") = some b1) (e2 : kitOne (Kf w.params) t (.type "int") = some b2) (e3 : kitOne (Kf w.params) t (.ref 155) = some b3) (e4 : kitOne (Kf w.params) t (.ref 183) = some b4)
    (e5 : kitOne (Kf w.params) t (.ref 205) = some b5) (e6 : kitOne (Kf w.params) t (.type "list") = some b6) (e7 : kitOne (Kf w.params) t (.type "dict") = some b7) (e8 : kitOne (Kf w.params) t (.ref 226) = some b8) (e9 : kitOne (Kf w.params) t (.ref 254) = some b9)
    (hone : (b0 || b1 || b2 || b3 || b4 || b5 || b6 || b7 || b8 || b9) = true) :
    Does w 265 [v] 1 [] rest (fun r _ tl => tl = [] ∧ ∃ tk, r = .str (kindName b0 b1 b2 b3 b4 b5 b6 b7 b8 b9) tk) := by
  refine' Does.of (binds := [(Str.ofString "value", v)]) (al := [(Str.ofString "value", some (v))]) ?k6 ?kb ?ks ?k7 ?k9 ?kB ?c5 ?c2 ?c3 ?c4 ?lv ?kal ?_
  (case k6 => k_dflt k_is); (case kb => conv => lhs; whnf); (case ks => conv => lhs; whnf); (case k7 => k_dflt k_is); (case k9 => exact rfl); (case kB => exact locs rfl); (case c5 => decide); (case c2 => exact rfl); (case c3 => exact rfl); (case c4 => exact rfl); (case lv => decide); (case kal => exact rfl)
  intro mean mg mb dp un outer base g L s E F N hap B X T hlt hdp hun
  (try simp only [List.nil_append, List.cons_append] at N hlt)
  k_fold
  have hH' := hH _ _ _ N
  refine ko_none F rfl rfl rfl e0 (fun tk h0 => ?_) fun tk tk' h => by subst h; refine ⟨_, [], [], _, _, rfl, by with_reducible assumption, by first | with_reducible assumption | assumption, rfl, (fun _ _ _ h => nomatch h), ?_⟩; exact ⟨rfl, _, rfl⟩
  refine ko_step F X T rfl rfl rfl rfl (fun {M A E Q s'} hs h => by refine' name_B (hs ▸ F) X (topRead_of T) ?k3 ?k4 ?k5 h; (case k3 => k_dflt k_is); (case k4 => boot_by_name); (case k5 => decide)) Z hH' e1 hx (fun tk h1 => ?_) fun tk tk' h => by subst h0 h; refine ⟨_, [], [], _, _, rfl, by with_reducible assumption, by first | with_reducible assumption | assumption, rfl, (fun _ _ _ h => nomatch h), ?_⟩; exact ⟨rfl, _, rfl⟩
  refine ko_step F X T rfl rfl rfl rfl (fun {M A E Q s'} hs h => by refine' name_B (hs ▸ F) X (topRead_of T) ?k3 ?k4 ?k5 h; (case k3 => k_dflt k_is); (case k4 => boot_by_name); (case k5 => decide)) Z hH' e2 hx (fun tk h2 => ?_) fun tk tk' h => by subst h0 h1 h; refine ⟨_, [], [], _, _, rfl, by with_reducible assumption, by first | with_reducible assumption | assumption, rfl, (fun _ _ _ h => nomatch h), ?_⟩; exact ⟨rfl, _, rfl⟩
  refine ko_step F X T rfl rfl rfl rfl (fun {M A E Q s'} hs h => by refine' name_K (hs ▸ F) X (topRead_of T) ?k3 h; (case k3 => k_dflt k_is)) Z hH' e3 hx (fun tk h3 => ?_) fun tk tk' h => by subst h0 h1 h2 h; refine ⟨_, [], [], _, _, rfl, by with_reducible assumption, by first | with_reducible assumption | assumption, rfl, (fun _ _ _ h => nomatch h), ?_⟩; exact ⟨rfl, _, rfl⟩
  refine ko_step F X T rfl rfl rfl rfl (fun {M A E Q s'} hs h => by refine' name_K (hs ▸ F) X (topRead_of T) ?k3 h; (case k3 => k_dflt k_is)) Z hH' e4 hx (fun tk h4 => ?_) fun tk tk' h => by subst h0 h1 h2 h3 h; refine ⟨_, [], [], _, _, rfl, by with_reducible assumption, by first | with_reducible assumption | assumption, rfl, (fun _ _ _ h => nomatch h), ?_⟩; exact ⟨rfl, _, rfl⟩
  refine ko_step F X T rfl rfl rfl rfl (fun {M A E Q s'} hs h => by refine' name_K (hs ▸ F) X (topRead_of T) ?k3 h; (case k3 => k_dflt k_is)) Z hH' e5 hx (fun tk h5 => ?_) fun tk tk' h => by subst h0 h1 h2 h3 h4 h; refine ⟨_, [], [], _, _, rfl, by with_reducible assumption, by first | with_reducible assumption | assumption, rfl, (fun _ _ _ h => nomatch h), ?_⟩; exact ⟨rfl, _, rfl⟩
  refine ko_step F X T rfl rfl rfl rfl (fun {M A E Q s'} hs h => by refine' name_B (hs ▸ F) X (topRead_of T) ?k3 ?k4 ?k5 h; (case k3 => k_dflt k_is); (case k4 => boot_by_name); (case k5 => decide)) Z hH' e6 hx (fun tk h6 => ?_) fun tk tk' h => by subst h0 h1 h2 h3 h4 h5 h; refine ⟨_, [], [], _, _, rfl, by with_reducible assumption, by first | with_reducible assumption | assumption, rfl, (fun _ _ _ h => nomatch h), ?_⟩; exact ⟨rfl, _, rfl⟩
  refine ko_step F X T rfl rfl rfl rfl (fun {M A E Q s'} hs h => by refine' name_B (hs ▸ F) X (topRead_of T) ?k3 ?k4 ?k5 h; (case k3 => k_dflt k_is); (case k4 => boot_by_name); (case k5 => decide)) Z hH' e7 hx (fun tk h7 => ?_) fun tk tk' h => by subst h0 h1 h2 h3 h4 h5 h6 h; refine ⟨_, [], [], _, _, rfl, by with_reducible assumption, by first | with_reducible assumption | assumption, rfl, (fun _ _ _ h => nomatch h), ?_⟩; exact ⟨rfl, _, rfl⟩
  refine ko_step F X T rfl rfl rfl rfl (fun {M A E Q s'} hs h => by refine' name_K (hs ▸ F) X (topRead_of T) ?k3 h; (case k3 => k_dflt k_is)) Z hH' e8 hx (fun tk h8 => ?_) fun tk tk' h => by subst h0 h1 h2 h3 h4 h5 h6 h7 h; refine ⟨_, [], [], _, _, rfl, by with_reducible assumption, by first | with_reducible assumption | assumption, rfl, (fun _ _ _ h => nomatch h), ?_⟩; exact ⟨rfl, _, rfl⟩
  refine ko_step F X T rfl rfl rfl rfl (fun {M A E Q s'} hs h => by refine' name_K (hs ▸ F) X (topRead_of T) ?k3 h; (case k3 => k_dflt k_is)) Z hH' e9 hx (fun tk h9 => ?_) fun tk tk' h => by subst h0 h1 h2 h3 h4 h5 h6 h7 h8 h; refine ⟨_, [], [], _, _, rfl, by with_reducible assumption, by first | with_reducible assumption | assumption, rfl, (fun _ _ _ h => nomatch h), ?_⟩; exact ⟨rfl, _, rfl⟩
  subst h0 h1 h2 h3 h4 h5 h6 h7 h8 h9
  cases hone
theorem inst_of_news {g h : Heap} {L x dx C : Addr} {news : Led} {es : List DictEntry} {n : Nat} (N : News g L h news) (h1 : (x, instObj C dx) ∈ news) (h2 : (dx, dictOf es n) ∈ news) : PySem.W.InstAt h x (instObj C dx) C (some (dictOf es n)) :=
  InstAt.of_news N h1 h2
theorem ln_A1_1 : True := by
  (k_with "own" => exact kitx_own (by k_dflt k_is) (by k_dflt k_is) (by k_dflt k_is) (by k_dflt k_is) (by k_dflt k_is) (by k_dflt k_is))
  trivial
theorem ln_A1_2 : True := by
  (k_with "kit" => kit_is)
  trivial
theorem kind_lf {w : World} {v : Value} {l : Lf} {rest : Led} (R : LfIn rest v l) : Does w 265 [v] 1 [] rest (fun r _ tl => tl = [] ∧ ∃ tk, r = .str l.kind tk) := by
  cases R with
  | null => exact kind_gen kitx_none (fun _ _ _ _ => trivial) (by intro q; cases q) rfl (by kit_is) (by kit_is) (by kit_is) (by kit_is) (by kit_is) (by kit_is) (by kit_is) (by kit_is) (by kit_is) rfl
  | truth b => exact kind_gen kitx_bool (fun _ _ _ _ => trivial) (by intro q; cases q) rfl (by kit_is) (by kit_is) (by kit_is) (by kit_is) (by kit_is) (by kit_is) (by kit_is) (by kit_is) (by kit_is) rfl
  | int i t => exact kind_gen kitx_int (fun _ _ _ _ => trivial) (by intro q; cases q) rfl (by kit_is) (by kit_is) (by kit_is) (by kit_is) (by kit_is) (by kit_is) (by kit_is) (by kit_is) (by kit_is) rfl
  | real h1 h2 => exact kind_gen (by walk_at "own") (fun _ _ _ N => inst_of_news N h1 h2) (by intro q; cases q) rfl (by kit_is) (by kit_is) (by kit_is) (by kit_is) (by kit_is) (by kit_is) (by kit_is) (by kit_is) (by kit_is) rfl
  | name h1 h2 => exact kind_gen (by walk_at "own") (fun _ _ _ N => inst_of_news N h1 h2) (by intro q; cases q) rfl (by kit_is) (by kit_is) (by kit_is) (by kit_is) (by kit_is) (by kit_is) (by kit_is) (by kit_is) (by kit_is) rfl
  | str h1 h2 => exact kind_gen (by walk_at "own") (fun _ _ _ N => inst_of_news N h1 h2) (by intro q; cases q) rfl (by kit_is) (by kit_is) (by kit_is) (by kit_is) (by kit_is) (by kit_is) (by kit_is) (by kit_is) (by kit_is) rfl
  | ref h1 h2 => exact kind_gen (by walk_at "own") (fun _ _ _ N => inst_of_news N h1 h2) (by intro q; cases q) rfl (by kit_is) (by kit_is) (by kit_is) (by kit_is) (by kit_is) (by kit_is) (by kit_is) (by kit_is) (by kit_is) rfl
theorem kind_dt {w : World} {v : Value} {d : Dt} {rest : Led} (R : DtIn w rest v d) : Does w 265 [v] 1 [] rest (fun r _ tl => tl = [] ∧ ∃ tk, r = .str d.kind tk) := by
  cases R with
  | leaf h => exact kind_lf h
  | arr h1 h2 => exact kind_gen kitx_list (fun _ _ _ N => ⟨_, N.get h1, rfl⟩) (by intro q; cases q) rfl (by kit_is) (by kit_is) (by kit_is) (by kit_is) (by kit_is) (by kit_is) (by kit_is) (by kit_is) (by kit_is) rfl
  | dict h1 h2 h3 h4 => exact kind_gen kitx_dict (fun _ _ _ N => ⟨_, N.get h1, (let ⟨_, _, x, _⟩ := h3; x.1)⟩) (by intro q; cases q) rfl (by kit_is) (by kit_is) (by kit_is) (by kit_is) (by kit_is) (by kit_is) (by kit_is) (by kit_is) (by kit_is) rfl

theorem ln_A2 : True := by
  k_with_none
  (k_with "ite" => first | with_reducible refine ite_tt ?_ | with_reducible refine ite_ff ?_)
  (k_with "execs nil" => (with_reducible refine wpAny_execs_nil ?_; (try dsimp only)))
  (k_with "execs cons" => (k_here; k_dflt (refine seqK ?_; (try dsimp only))))
  (k_with "x lia" => ((try clear cc); (try clear c2); (try clear lf); lia))
  (k_with "x n7" => ((rename News _ _ _ _ => N7); exact N7))
  (k_with "x room" => (first | exact room1 (by assumption) (by rfl) | exact room2 (by assumption) (by rfl) | omega))
  (k_with "x unit" => (first | exact unit1 (by assumption) (by rfl) | exact unit2 (by assumption) (by rfl) | omega))
  (k_with "x got" => ((first | ((with_reducible intro r9 h9 tk9 F9 N9 P9); (first | (obtain ⟨t9, e9⟩ := P9; subst e9) | (subst P9) | skip)) | (with_reducible intro t9 h9 tk9 F9 N9) | (with_reducible intro h9 tk9 F9 N9)); (try k_sweep)))
  (k_with "x one" => (first | (k_unfold; (try dsimp only)) | walk1 | (dsimp only; walk1)))
  (k_with "x g" => ((fail_if_success plain_pass); k_here))
  (k_with "x k" => (k_asm; k_extra "x n7"; k_extra "x ix"))
  (k_with "x c" => (k_extra "x k"; k_extra "x ev"; k_extra "x ev"))
  (k_with "x if" => (k_dflt (k_here; (with_reducible show wpAny _ _ (execs (Stmt.If (PySem.Expr.Compare (PySem.Expr.Name _ _) [CmpOp.Eq] [PySem.Expr.Constant (Const.str _) _ _] _) _ _ _ :: _) _) _ _ _); first | (apply xif_f; k_extra "x c"; exact rfl) | (apply xif_t; k_extra "x c"; exact rfl))))
  (k_with "x stmt" => ((first | k_extra "x if" | refine seqK ?_ | refine wpAny_execs_cons ?_); (repeat' ((fail_if_success (with_reducible refine mark_execs ?_)); k_extra "x one"))))
  (k_with "x steps" => (repeat' k_extra "x one"))
  (k_with "x ix" => (first | exact isX1 rfl | exact isX2 rfl | exact isX3 rfl))
  (k_with "x ev" => (first | exact Ev.str | exact Ev.int | exact Ev.none | exact Ev.bool | (apply Ev.name; exact rfl; exact rfl; exact rfl) | (apply Ev.cell; exact rfl; exact rfl; exact rfl; (first | k_mem | (repeat (first | exact List.mem_cons_self .. | refine List.mem_cons_of_mem _ ?_))); k_asm)))
  (k_with "x evs" => (focus ((repeat' (first | exact Evs.nil | apply Evs.int | (apply Evs.name; exact rfl; exact rfl; exact rfl) | (apply Evs.cell; exact rfl; exact rfl; exact rfl; (first | k_mem | (repeat (first | exact List.mem_cons_self .. | refine List.mem_cons_of_mem _ ?_))); k_asm) | exact Ev.str | exact Ev.none | exact Ev.bool | apply Evs.cons)); done)))
  (k_with "execs cons If" => ((fail_if_success plain_pass); k_extra "x if"))
  (k_with "isTrue Compare" => (k_extra "x g"; (with_reducible show wpAny _ _ (PySem.isTrue (PySem.Expr.Compare _ [_] [_] _) _ _) _ _ _); k_dflt (first | ((with_reducible show wpAny _ _ (PySem.isTrue (PySem.Expr.Compare _ [CmpOp.Eq] [_] _) _ _) _ _ _); apply ist_strL; k_extra "x c") | (apply ist_int; k_extra "x c"; exact rfl))))
  (k_with "eval Call Name" => (k_extra "x g"; k_dflt (first | (apply call_ev; exact rfl; exact rfl; exact rfl; k_extra "x k"; k_extra "x evs"; k_asm; k_asm; k_is; k_is) | (apply bcall_ev; exact rfl; exact rfl; exact rfl; exact rfl; k_extra "x k"; k_extra "x evs"; k_asm; k_asm; k_is; boot_fast; decide))))
  (k_with "callWith" => (k_extra "x g"; k_dflt (apply meth_ev; exact rfl; k_extra "x k"; k_extra "x evs")))
  (k_with "spliced" => (k_extra "x g"; k_dflt (apply args_ev; exact rfl; k_extra "x k"; k_extra "x evs")))
  (k_with "eval Attribute Name" => (k_extra "x g"; k_dflt (apply attr_ev; k_extra "x k"; k_extra "x ev")))
  trivial
theorem sign_text_d {w : World} {i : Int} {t : Tok} {rest : Led} : Does w 166 [.int i t] 1 [] rest (fun r _ tl => tl = [] ∧ ∃ tk, r = .str (if i < 0 then Str.ofString "-" else Str.ofString "") tk) := by
  refine' Does.of (binds := [(Str.ofString "number", .int i t)]) (al := [(Str.ofString "number", some (.int i t))]) ?k6 ?kb ?ks ?k7 ?k9 ?kB ?c5 ?c2 ?c3 ?c4 ?lv ?kal ?_
  (case k6 => k_dflt k_is); (case kb => conv => lhs; whnf); (case ks => conv => lhs; whnf); (case k7 => k_dflt k_is); (case k9 => exact rfl); (case kB => exact locs rfl); (case c5 => decide); (case c2 => exact rfl); (case c3 => exact rfl); (case c4 => exact rfl); (case lv => decide); (case kal => exact rfl)
  intro mean mg mb dp un outer base g L s E F N hap B X T hlt hdp hun
  (try simp only [List.nil_append, List.cons_append] at N hlt)
  k_fold
  k_extra "x steps"
  · refine ⟨_, [], [], _, _, rfl, by with_reducible assumption, by first | with_reducible assumption | assumption, rfl, (fun _ _ _ h => nomatch h), ?_⟩; exact ⟨rfl, _, by rw [if_pos (by assumption)]⟩
  · refine ⟨_, [], [], _, _, rfl, by with_reducible assumption, by first | with_reducible assumption | assumption, rfl, (fun _ _ _ h => nomatch h), ?_⟩; exact ⟨rfl, _, by rw [if_neg (by assumption)]⟩
noncomputable def white : List Int := [0, 9, 10, 12, 13, 32]
noncomputable def delim : List Int := [40, 41, 60, 62, 91, 93, 123, 125, 47, 37]
theorem notin_tupK {prog : Program} {w : World} {K : Frag} {t : Addr} {items : Array Value} {n : Nat} {d : Option Addr} {sl : Array (Option Value)} {ns : List Int} {A : Around} {E : Value → Shared → Prop} {s : Shared} {x : Int} {u : Tok} {Q : Value → Shared → Prop} (X : K.In s.heap)
    (ho : K.lookup t = some ⟨.type "tuple", d, .seq items n, sl⟩) (hi : PyProof.Rows.IntsAre items.toList ns) (h : Q (.bool (!(ns.any (· == x)))) s) : wpAny (model prog w) A (compareOp .NotIn (.int x u) (.ref t)) Q E s :=
  notin_tuple_ints ⟨_, X _ _ ho, rfl, _, rfl⟩ hi h
theorem notin_white {w : World} {A : Around} {E : Value → Shared → Prop} {s : Shared} {x : Int} {u : Tok} {Q : Value → Shared → Prop} (X : (Kf w.params).In s.heap) (h : Q (.bool (!(white.any (· == x)))) s) : wpAny (model prg w) A (compareOp .NotIn (.int x u) (.ref 378)) Q E s := by
  refine' notin_tupK X ?a ?d h
  case a => k_dflt k_is
  case d => exact .cons _ _ (.cons _ _ (.cons _ _ (.cons _ _ (.cons _ _ (.cons _ _ .nil)))))
theorem notin_delim {w : World} {A : Around} {E : Value → Shared → Prop} {s : Shared} {x : Int} {u : Tok} {Q : Value → Shared → Prop} (X : (Kf w.params).In s.heap) (h : Q (.bool (!(delim.any (· == x)))) s) : wpAny (model prg w) A (compareOp .NotIn (.int x u) (.ref 379)) Q E s := by
  refine' notin_tupK X ?a ?d h
  case a => k_dflt k_is
  case d => exact .cons _ _ (.cons _ _ (.cons _ _ (.cons _ _ (.cons _ _ (.cons _ _ (.cons _ _ (.cons _ _ (.cons _ _ (.cons _ _ .nil)))))))))
noncomputable def regular (i : Int) : Bool := decide (0 ≤ i) && !(white.any (· == i)) && !(delim.any (· == i))
theorem ln_A2_1 : True := by
  (k_with "compareOp NotIn int ref" => first | refine notin_white (Frag.In.keeps (by assumption) (Fr.keep (by assumption))) ?_ | refine notin_delim (Frag.In.keeps (by assumption) (Fr.keep (by assumption))) ?_)
  trivial
theorem is_regular_d {w : World} {i : Int} {t : Tok} {rest : Led} : Does w 386 [.int i t] 1 [] rest (fun r _ tl => tl = [] ∧ r = .bool (regular i)) := by
  refine' Does.of (binds := [(Str.ofString "code", .int i t)]) (al := [(Str.ofString "code", some (.int i t))]) ?k6 ?kb ?ks ?k7 ?k9 ?kB ?c5 ?c2 ?c3 ?c4 ?lv ?kal ?_
  (case k6 => k_dflt k_is); (case kb => conv => lhs; whnf); (case ks => conv => lhs; whnf); (case k7 => k_dflt k_is); (case k9 => exact rfl); (case kB => exact locs rfl); (case c5 => decide); (case c2 => exact rfl); (case c3 => exact rfl); (case c4 => exact rfl); (case lv => decide); (case kal => exact rfl)
  intro mean mg mb dp un outer base g L s E F N hap B X T hlt hdp hun
  (try simp only [List.nil_append, List.cons_append] at N hlt)
  k_fold
  k_extra "x steps"
  · rename_i h1 h2; refine ⟨_, [], [], _, _, rfl, by with_reducible assumption, by first | with_reducible assumption | assumption, rfl, (fun _ _ _ h => nomatch h), ?_⟩; exact ⟨rfl, congrArg Value.bool (by unfold regular; rw [h2, decide_eq_true h1]; rfl)⟩
  · rename_i h1 h2; refine ⟨_, [], [], _, _, rfl, by with_reducible assumption, by first | with_reducible assumption | assumption, rfl, (fun _ _ _ h => nomatch h), ?_⟩; exact ⟨rfl, congrArg Value.bool (by unfold regular; rw [h2, decide_eq_true h1]; rfl)⟩
  · rename_i h1; refine ⟨_, [], [], _, _, rfl, by with_reducible assumption, by first | with_reducible assumption | assumption, rfl, (fun _ _ _ h => nomatch h), ?_⟩; exact ⟨rfl, congrArg Value.bool (by unfold regular; rw [decide_eq_false h1]; rfl)⟩
noncomputable def hexd (i : Int) : UInt8 := [48, 49, 50, 51, 52, 53, 54, 55, 56, 57, 65, 66, 67, 68, 69, 70].getD i.toNat 0
theorem hex_pair_d {w : World} {i : Int} {t : Tok} {rest : Led} (h0 : 0 ≤ i) (h1 : i < 256) : Does w 398 [.int i t] 1 [] rest (fun r _ tl => Ex4 fun x n t1 t2 => An2 (r = .ref x) (tl = [(x, W.listOf #[.int (hexd (i.fdiv 16)).toNat t1, .int (hexd (i.fmod 16)).toNat t2] n)])) := by
  refine' Does.of (binds := [(Str.ofString "code", .int i t)]) (al := [(Str.ofString "code", some (.int i t))]) ?k6 ?kb ?ks ?k7 ?k9 ?kB ?c5 ?c2 ?c3 ?c4 ?lv ?kal ?_
  (case k6 => k_dflt k_is); (case kb => conv => lhs; whnf); (case ks => conv => lhs; whnf); (case k7 => k_dflt k_is); (case k9 => exact rfl); (case kB => exact locs rfl); (case c5 => decide); (case c2 => exact rfl); (case c3 => exact rfl); (case c4 => exact rfl); (case lv => decide); (case kal => exact rfl)
  intro mean mg mb dp un outer base g L s E F N hap B X T hlt hdp hun
  (try simp only [List.nil_append, List.cons_append] at N hlt)
  k_fold
  k_extra "x steps"
  rename_i l1
  refine ⟨_, [], [(_, _)], _, _, rfl, by with_reducible assumption, by first | with_reducible assumption | assumption, rfl, ?_, _, _, _, _, rfl, rfl⟩
  intro q hq p hp
  rw [List.mem_singleton.mp hp]; exact Nat.ne_of_lt (l1 q hq)

noncomputable abbrev SeqK (M : Model) (A : Around) (rest : List Stmt) (env : Env) (Q : Flow → Shared → Prop) (E : Value → Shared → Prop) : Flow → Shared → Prop := fun f s' => match f with | .next => wpAny M A (execs rest env) Q E s' | f => Q f s'
theorem seqK {M : Model} {A : Around} {E : Value → Shared → Prop} {s : Shared} {env : Env} {st : Stmt} {rest : List Stmt} {Q : Flow → Shared → Prop} (h : wpAny M A (exec st env) (SeqK M A rest env Q E) E s) : wpAny M A (execs (st :: rest) env) Q E s := wpAny_execs_cons h
/-- the env of a def's body -/
noncomputable def IsX (env : Env) (L : Addr) : Prop := ∃ cn cs a ccd cl, env = envX cn cs L a ccd cl ∧ cs.kind = .function
theorem isX1 {cn : Str} {cs : Scope} {L a : Addr} {ccd : Value} (h : cs.kind = .function) : IsX (envOf cn cs L a ccd) L := ⟨_, _, _, _, [], rfl, h⟩
theorem isX2 {cn : Str} {cs : Scope} {L a : Addr} {ccd : Value} (h : cs.kind = .function) : IsX (envOfC cn cs L a ccd) L := ⟨_, _, _, _, _, rfl, h⟩
theorem isX3 {cn : Str} {cs : Scope} {L a : Addr} {ccd : Value} {cl : List (Str × Addr)} (h : cs.kind = .function) : IsX (envX cn cs L a ccd cl) L := ⟨_, _, _, _, _, rfl, h⟩
/-- expressions that neither call nor look into the heap beyond the frame -/
inductive Ev (env : Env) (m : Str → Option Value) (news : Led) : PySem.Expr → Tok → Value → Tok → Prop
  | name {x : Str} {pos : Pos} {t : Tok} {v : Value} (hx : env.kindOf x = some .local) (hd : (x == Str.ofString "__debug__") = false) (hv : m x = some v) : Ev env m news (.Name x pos) t v t
  | cell {x : Str} {pos : Pos} {t : Tok} {v : Value} {c : Addr} {o : Obj} (hx : env.kindOf x = some .cell) (hd : (x == Str.ofString "__debug__") = false) (hl : env.cells.lookup x = some c) (hm : (c, o) ∈ news) (ho : o.data = .cell (some v)) : Ev env m news (.Name x pos) t v t
  | int {i : Int} {k : Nat} {pos : Pos} {t : Tok} : Ev env m news (.Constant (.int i) k pos) t (.int i t) (t + 1)
  | str {x : Str} {k : Nat} {pos : Pos} {t : Tok} : Ev env m news (.Constant (.str x) k pos) t (.str x t) (t + 1)
  | none {k : Nat} {pos : Pos} {t : Tok} : Ev env m news (.Constant .none k pos) t .none t
  | bool {b : Bool} {k : Nat} {pos : Pos} {t : Tok} : Ev env m news (.Constant (.bool b) k pos) t (.bool b) t
inductive Evs (env : Env) (m : Str → Option Value) (news : Led) : List PySem.Expr → Tok → List Value → Tok → Prop
  | nil {t : Tok} : Evs env m news [] t [] t
  | name {es : List PySem.Expr} {vs : List Value} {t2 : Tok} {x : Str} {pos : Pos} {t : Tok} {v : Value} (hx : env.kindOf x = some .local) (hd : (x == Str.ofString "__debug__") = false) (hv : m x = some v) (hs : Evs env m news es t vs t2) : Evs env m news (.Name x pos :: es) t (v :: vs) t2
  | cell {es : List PySem.Expr} {vs : List Value} {t2 : Tok} {x : Str} {pos : Pos} {t : Tok} {v : Value} {c : Addr} {o : Obj} (hx : env.kindOf x = some .cell) (hd : (x == Str.ofString "__debug__") = false) (hl : env.cells.lookup x = some c) (hm : (c, o) ∈ news) (ho : o.data = .cell (some v)) (hs : Evs env m news es t vs t2) : Evs env m news (.Name x pos :: es) t (v :: vs) t2
  | int {es : List PySem.Expr} {vs : List Value} {t2 : Tok} {i : Int} {k : Nat} {pos : Pos} {t : Tok} (hs : Evs env m news es (t + 1) vs t2) : Evs env m news (.Constant (.int i) k pos :: es) t (.int i t :: vs) t2
  | cons {e : PySem.Expr} {es : List PySem.Expr} {t t1 t2 : Tok} {v : Value} {vs : List Value} (h : Ev env m news e t v t1) (hs : Evs env m news es t1 vs t2) : Evs env m news (e :: es) t (v :: vs) t2
noncomputable def plainL : List PySem.Expr → Bool
  | [] => true
  | .Name _ _ :: r => plainL r
  | .Constant (.bytes _) _ _ :: _ => false
  | .Constant _ _ _ :: r => plainL r
  | _ => false
section
variable {prog : Program} {w : World} {A : Around} {E : Value → Shared → Prop} {s : Shared} {env : Env} {h₀ : Heap} {L : Addr} {m : Str → Option Value} {news : Led}
theorem Ev.sound {e : PySem.Expr} {t : Tok} {v : Value} {t' : Tok} (H : Ev env m news e t v t') (F : Fr h₀ L s.heap m) (N : News h₀ L s.heap news) (he : IsX env L) (ht : s.toks = t) {Q : Value → Shared → Prop} (h : Q v { s with toks := t' }) : wpAny (model prog w) A (eval e env) Q E s := by
  obtain ⟨cn, cs, a, ccd, cl, rfl, hk⟩ := he
  subst ht
  cases H with
  | name hx hd hv => exact nameX_L F hv h hk hx hd
  | cell hx hd hl hm ho => exact nameX_C N hl hm ho h hk hx hd
  | int => exact wpAny_Constant_int h
  | str => exact Constant_str h
  | none => exact wpAny_Constant_none h
  | bool => exact wpAny_Constant_bool h
theorem Ev.star {e : PySem.Expr} {es : List PySem.Expr} {t : Tok} {v : Value} {t' : Tok} (H : Ev env m news e t v t') : starEach (e :: es) env = (false, eval e env) :: starEach es env := by cases H <;> rfl
theorem Ev.marks {e : PySem.Expr} {op : CmpOp} {t : Tok} {v : Value} {t' : Tok} (H : Ev env m news e t v t') : behindInMarks op e = false := by cases H <;> rfl
theorem ev_cons {e : PySem.Expr} {es : List PySem.Expr} {t t1 t' : Tok} {v : Value} {vs : List Value} {pos : Pos} (H1 : Ev env m news e t v t1) (he : IsX env L) (hst : starEach (e :: es) env = (false, eval e env) :: starEach es env) (ih : ∀ {s : Shared} {Q : List Value → Shared → Prop}, Fr h₀ L s.heap m → News h₀ L s.heap news → s.toks = t1 → Q vs { s with toks := t' } → wpAny (model prog w) A (spliced (backTo pos (starEach es env))) Q E s)
    {s : Shared} {Q : List Value → Shared → Prop} (F : Fr h₀ L s.heap m) (N : News h₀ L s.heap news) (ht : s.toks = t) (h : Q (v :: vs) { s with toks := t' }) : wpAny (model prog w) A (spliced (backTo pos (starEach (e :: es) env))) Q E s :=
  args_cons (H1.sound F N he ht (ih F N rfl h)) hst
theorem Evs.sound {es : List PySem.Expr} {t : Tok} {vs : List Value} {t' : Tok} {pos : Pos} (H : Evs env m news es t vs t') (he : IsX env L) : ∀ {s : Shared} {Q : List Value → Shared → Prop}, Fr h₀ L s.heap m → News h₀ L s.heap news → s.toks = t → Q vs { s with toks := t' } → wpAny (model prog w) A (spliced (backTo pos (starEach es env))) Q E s := by
  induction H with
  | nil => intro s Q F N ht h; subst ht; exact args_nil h
  | name hx hd hv _ ih => exact fun F N ht h => ev_cons (.name hx hd hv) he rfl ih F N ht h
  | cell hx hd hl hm ho _ ih => exact fun F N ht h => ev_cons (.cell hx hd hl hm ho) he rfl ih F N ht h
  | int _ ih => exact fun F N ht h => ev_cons .int he rfl ih F N ht h
  | cons h1 _ ih => exact fun F N ht h => ev_cons h1 he h1.star ih F N ht h
noncomputable def StarL (env : Env) : List PySem.Expr → Prop
  | [] => True
  | e :: es => starEach (e :: es) env = (false, eval e env) :: starEach es env ∧ StarL env es
theorem Evs.starL {es : List PySem.Expr} {t : Tok} {vs : List Value} {t' : Tok} (H : Evs env m news es t vs t') : StarL env es := by
  induction H with
  | nil => exact trivial
  | name _ _ _ _ ih => exact ⟨rfl, ih⟩
  | cell _ _ _ _ _ _ ih => exact ⟨rfl, ih⟩
  | int _ ih => exact ⟨rfl, ih⟩
  | cons h1 _ ih => exact ⟨h1.star, ih⟩
theorem StarL.none : ∀ {es : List PySem.Expr} {pos : Pos}, StarL env es → ((backTo pos (starEach es env)).any fun x => x.fst) = false
  | [], _, _ => rfl
  | e :: es, pos, h => by
    have ih := StarL.none (pos := pos) h.2
    rw [h.1]
    exact ih
theorem Evs.star {e : PySem.Expr} {es : List PySem.Expr} {t : Tok} {vs : List Value} {t' : Tok} (H : Evs env m news (e :: es) t vs t') : starEach (e :: es) env = (false, eval e env) :: starEach es env := H.starL.1
theorem Evs.tailNoStar {e : PySem.Expr} {es : List PySem.Expr} {t : Tok} {vs : List Value} {t' : Tok} {pos : Pos} (H : Evs env m news (e :: es) t vs t') : ((backTo pos (starEach es env)).any fun x => x.fst) = false := StarL.none H.starL.2
variable {hh : Heap} {gs : Array GenState} {dr : Drawn} {tk : Tok} {os : OsState}
theorem args_ev {es : List PySem.Expr} {vs : List Value} {t' : Tok} {pos : Pos} {Q : List Value → Shared → Prop} (_hp : plainL es = true) (F : Fr h₀ L hh m) (N : News h₀ L hh news) (he : IsX env L) (H : Evs env m news es tk vs t') (h : Q vs ⟨hh, gs, dr, t', os⟩) : wpAny (model prog w) A (spliced (backTo pos (starEach es env))) Q E ⟨hh, gs, dr, tk, os⟩ := H.sound he F N rfl h
/-- a call of an own def by its name, its arguments plain -/
theorem call_ev {fn : Str} {p1 p2 : Pos} {e : PySem.Expr} {es : List PySem.Expr} {f : Value} {vs : List Value} {t' : Tok} {Q : Value → Shared → Prop} {K : Frag} {mg mb : Str → Option Value} {p : Program} {loose : List Str}
    (_hp : plainL (e :: es) = true) (hx : env.kindOf fn = some .globalImplicit) (hd : (fn == Str.ofString "__debug__") = false) (F : Fr h₀ L hh m) (N : News h₀ L hh news) (he : IsX env L) (H : Evs env m news (e :: es) tk vs t') (X : K.In h₀) (T : TopRead p loose mg mb h₀) (hn : nsIn K mainGlobals fn = some (some f)) (hf : keepIn K f = true) (h : wpAny (model prog w) A (call f vs) Q E ⟨hh, gs, dr, t', os⟩) : wpAny (model prog w) A (eval (.Call (.Name fn p1) (e :: es) [] p2) env) Q E ⟨hh, gs, dr, tk, os⟩ := by
  have hs := he
  obtain ⟨cn, cs, a, ccd, cl, rfl, hk⟩ := hs
  refine Call_ (nameX_K F X T hn ?_ hk hx hd)
  exact callWith_K (X.keeps F.keep) hf (H.sound he F N rfl ⟨X.keeps F.keep, h⟩) H.star H.tailNoStar
noncomputable def bname (x : Str) : Bool := x == Str.ofString "len" || x == Str.ofString "abs" || x == Str.ofString "sorted" || x == Str.ofString "ord" || x == Str.ofString "max"
/-- a call of a builtin by its name, its arguments plain -/
theorem bcall_ev {fn : Str} {p1 p2 : Pos} {e : PySem.Expr} {es : List PySem.Expr} {id : String} {vs : List Value} {t' : Tok} {Q : Value → Shared → Prop} {K : Frag} {mg mb : Str → Option Value} {p : Program} {loose : List Str}
    (_hb : bname fn = true) (_hp : plainL (e :: es) = true) (hx : env.kindOf fn = some .globalImplicit) (hd : (fn == Str.ofString "__debug__") = false) (F : Fr h₀ L hh m) (N : News h₀ L hh news) (he : IsX env L) (H : Evs env m news (e :: es) tk vs t') (X : K.In h₀) (T : TopRead p loose mg mb h₀) (hn : nsIn K mainGlobals fn = some none) (hv : bootBuiltins fn = some (.builtin id)) (hm : fn ≠ Str.ofString "__name__") (h : wpAny (model prog w) A (call (.builtin id) vs) Q E ⟨hh, gs, dr, t', os⟩) : wpAny (model prog w) A (eval (.Call (.Name fn p1) (e :: es) [] p2) env) Q E ⟨hh, gs, dr, tk, os⟩ := by
  have hs := he
  obtain ⟨cn, cs, a, ccd, cl, rfl, hk⟩ := hs
  refine Call_ (nameX_B F X T hn hv hm ?_ hk hx hd)
  exact PyProof.Rows.callWith_builtin1 (H.sound he F N rfl h) H.star H.tailNoStar
/-- a builtin's or a method's arguments, all plain -/
theorem meth_ev {p2 : Pos} {e : PySem.Expr} {es : List PySem.Expr} {id : String} {first vs : List Value} {t' : Tok} {Q : Value → Shared → Prop} (_hp : plainL (e :: es) = true) (F : Fr h₀ L hh m) (N : News h₀ L hh news) (he : IsX env L) (H : Evs env m news (e :: es) tk vs t') (h : wpAny (model prog w) A (call (.builtin id) (first ++ vs)) Q E ⟨hh, gs, dr, t', os⟩) :
    wpAny (model prog w) A (callWith p2 (.builtin id) first (backTo p2 (starEach (e :: es) env)) []) Q E ⟨hh, gs, dr, tk, os⟩ := PyProof.Rows.callWith_method1 (H.sound he F N rfl h) H.star H.tailNoStar
theorem attr_ev {x attr : Str} {p1 p2 : Pos} {v : Value} {t' : Tok} {Q : Value → Shared → Prop} (F : Fr h₀ L hh m) (N : News h₀ L hh news) (he : IsX env L) (H : Ev env m news (.Name x p1) tk v t') (h : wpAny (model prog w) A (getAttr v attr true) Q E ⟨hh, gs, dr, t', os⟩) : wpAny (model prog w) A (eval (.Attribute (.Name x p1) attr p2) env) Q E ⟨hh, gs, dr, tk, os⟩ := Attribute_Name_ (H.sound F N he rfl h)
noncomputable def icmp : CmpOp → Int → Int → Option Bool
  | .Eq, a, b => some (a == b)
  | .NotEq, a, b => some (a != b)
  | .Lt, a, b => some (decide (a < b))
  | .LtE, a, b => some (decide (a ≤ b))
  | .Gt, a, b => some (decide (b < a))
  | .GtE, a, b => some (decide (b ≤ a))
  | _, _, _ => none
theorem ist_int {l r : PySem.Expr} {op : CmpOp} {pos : Pos} {whole : Sem Value} {a b : Int} {u1 u2 t1 t2 : Tok} {c : Bool} {Q : Bool → Shared → Prop} (F : Fr h₀ L hh m) (N : News h₀ L hh news) (he : IsX env L) (H1 : Ev env m news l tk (.int a u1) t1) (H2 : Ev env m news r t1 (.int b u2) t2) (ho : icmp op a b = some c) (h : Q c ⟨hh, gs, dr, t2, os⟩) :
    wpAny (model prog w) A (isTrue (.Compare l [op] [r] pos) env whole) Q E ⟨hh, gs, dr, tk, os⟩ := by
  refine wpAny_isTrue_Compare1 (H1.sound F N he rfl (H2.sound (s := ⟨hh, gs, dr, t1, os⟩) F N he rfl ?_)) H2.marks
  cases op <;> first | cases ho | skip
  · exact eq_int (wpAny_truthy_bool h)
  · exact ne_int (wpAny_truthy_bool h)
  · exact lt_int (wpAny_truthy_bool h)
  · exact le_int (wpAny_truthy_bool h)
  · exact gt_int (wpAny_truthy_bool h)
  · exact ge_int (wpAny_truthy_bool h)
theorem ist_str {l r : PySem.Expr} {pos : Pos} {whole : Sem Value} {a b : Str} {u1 u2 t1 t2 : Tok} {Q : Bool → Shared → Prop} (F : Fr h₀ L hh m) (N : News h₀ L hh news) (he : IsX env L) (H1 : Ev env m news l tk (.str a u1) t1) (H2 : Ev env m news r t1 (.str b u2) t2) (h : Q (a == b) ⟨hh, gs, dr, t2, os⟩) :
    wpAny (model prog w) A (isTrue (.Compare l [.Eq] [r] pos) env whole) Q E ⟨hh, gs, dr, tk, os⟩ :=
  wpAny_isTrue_Compare1 (H1.sound F N he rfl (H2.sound (s := ⟨hh, gs, dr, t1, os⟩) F N he rfl (eq_str (wpAny_truthy_bool h)))) H2.marks
theorem ist_strL {l r : PySem.Expr} {pos : Pos} {whole : Sem Value} {a b : String} {u1 u2 t1 t2 : Tok} {Q : Bool → Shared → Prop} (F : Fr h₀ L hh m) (N : News h₀ L hh news) (he : IsX env L) (H1 : Ev env m news l tk (.str (Str.ofString a) u1) t1) (H2 : Ev env m news r t1 (.str (Str.ofString b) u2) t2) (h : Q (Str.ofString a == Str.ofString b) ⟨hh, gs, dr, t2, os⟩) :
    wpAny (model prog w) A (isTrue (.Compare l [.Eq] [r] pos) env whole) Q E ⟨hh, gs, dr, tk, os⟩ := ist_str F N he H1 H2 h
/-- an if without an else whose test is two texts -/
theorem xif_f {l r : PySem.Expr} {p1 p2 : Pos} {body rest : List Stmt} {a b : Str} {u1 u2 t1 t2 : Tok} {Q : Flow → Shared → Prop} (F : Fr h₀ L hh m) (N : News h₀ L hh news) (he : IsX env L) (H1 : Ev env m news l tk (.str a u1) t1) (H2 : Ev env m news r t1 (.str b u2) t2) (hc : (a == b) = false) (h : wpAny (model prog w) A (execs rest env) Q E ⟨hh, gs, dr, t2, os⟩) :
    wpAny (model prog w) A (execs (.If (.Compare l [.Eq] [r] p1) body [] p2 :: rest) env) Q E ⟨hh, gs, dr, tk, os⟩ :=
  wpAny_execs_cons (wpAny_If (ist_str F N he H1 H2 (ite_neg (by rw [hc]; exact Bool.false_ne_true) (wpAny_execs_nil h))))
theorem xif_t {l r : PySem.Expr} {p1 p2 : Pos} {body els rest : List Stmt} {a b : Str} {u1 u2 t1 t2 : Tok} {Q : Flow → Shared → Prop} (F : Fr h₀ L hh m) (N : News h₀ L hh news) (he : IsX env L) (H1 : Ev env m news l tk (.str a u1) t1) (H2 : Ev env m news r t1 (.str b u2) t2) (hc : (a == b) = true) (h : wpAny (model prog w) A (execs body env) (SeqK (model prog w) A rest env Q E) E ⟨hh, gs, dr, t2, os⟩) :
    wpAny (model prog w) A (execs (.If (.Compare l [.Eq] [r] p1) body els p2 :: rest) env) Q E ⟨hh, gs, dr, tk, os⟩ :=
  wpAny_execs_cons (wpAny_If (ist_str F N he H1 H2 (ite_pos hc h)))
end
/-- uses of contracts whose value is told: nothing to take apart behind the call -/
theorem Does.use0E {w : World} {f : Addr} {vs : List Value} {lv : Nat} {news : Led} {fv : Tok → Value} {mean : ExcName → Option Value} {mg mb : Str → Option Value} {dp un : Nat} {env : Env} {outer : List Env} {A₀ : Around} {base h₀ : Heap} {L : Addr} {m : Str → Option Value} {hh : Heap} {gs : Array GenState} {dr : Drawn} {tk : Tok} {os : OsState} {Q E : Value → Shared → Prop}
    (C : Does w f vs lv [] news (fun r _ tl => tl = [] ∧ ∃ t, r = fv t)) (B : Below A₀ base outer h₀) (F : Fr h₀ L hh m) (X : (Kf w.params).In h₀) (N : News h₀ L hh news) (T : Top vw loo mean mg mb h₀)
    (hd : dp + 10 * lv < recursionLimit) (hu : un + 100 * lv < cLine)
    (ret : ∀ t h' tk', Fr h₀ L h' m → News h₀ L h' news → Q (fv t) ⟨h', gs, dr, tk', os⟩)
    (hf : env.frame = some L := by rfl) (hke : env.scope.kind = .function := by rfl) :
    wpAny (model prg w) (mkA dp un (env :: outer)) (call (.ref f) vs) Q E ⟨hh, gs, dr, tk, os⟩ :=
  Does.use0 C B F X N T hd hu (fun r h' tk' F' N' P => by obtain ⟨t, rfl⟩ := P; exact ret t h' tk' F' N') hf hke
theorem Does.use0V {w : World} {f : Addr} {vs : List Value} {lv : Nat} {news : Led} {v : Value} {mean : ExcName → Option Value} {mg mb : Str → Option Value} {dp un : Nat} {env : Env} {outer : List Env} {A₀ : Around} {base h₀ : Heap} {L : Addr} {m : Str → Option Value} {hh : Heap} {gs : Array GenState} {dr : Drawn} {tk : Tok} {os : OsState} {Q E : Value → Shared → Prop}
    (C : Does w f vs lv [] news (fun r _ tl => tl = [] ∧ r = v)) (B : Below A₀ base outer h₀) (F : Fr h₀ L hh m) (X : (Kf w.params).In h₀) (N : News h₀ L hh news) (T : Top vw loo mean mg mb h₀)
    (hd : dp + 10 * lv < recursionLimit) (hu : un + 100 * lv < cLine)
    (ret : ∀ h' tk', Fr h₀ L h' m → News h₀ L h' news → Q v ⟨h', gs, dr, tk', os⟩)
    (hf : env.frame = some L := by rfl) (hke : env.scope.kind = .function := by rfl) :
    wpAny (model prg w) (mkA dp un (env :: outer)) (call (.ref f) vs) Q E ⟨hh, gs, dr, tk, os⟩ :=
  Does.use0 C B F X N T hd hu (fun r h' tk' F' N' P => by subst P; exact ret h' tk' F' N') hf hke

open PyProof.Rows.LCg PyProof.Rows.LCt PySem.Spec
section
variable {prog : Program} {w : World} {A : Around} {E : Value → Shared → Prop} {s : Shared} {h₀ : Heap} {L : Addr} {m : Str → Option Value} {env : Env}
noncomputable def StrSrc (prog : Program) (w : World) (A : Around) (h₀ : Heap) (L : Addr) (m : Str → Option Value) (s₁ : Shared) (R : Str → Shared → Led → Prop) (xv : Value) : Prop :=
  ∃ y t news, xv = .str y t ∧ A.handled = none ∧ Fr h₀ L s₁.heap m ∧ News h₀ L s₁.heap news ∧ y.cps.size ≤ sizeLine ∧ ∀ s₂ : Shared, (∃ h, s₂ = { s₁ with heap := h }) → R y s₂ news
theorem ListComp_S {elt iter : Expr} {x : Str} {px : Pos} {scope : Scope} {cl : List (Str × Addr)} {pos : Pos} {Q : Value → Shared → Prop} (F₀ : Fr h₀ L s.heap m)
    (hclos : closureFor scope env = pure cl) (hcell : ∀ y ∈ scope.names, y.2 ≠ .cell) (hkind : scope.kind = .function)
    (hnames : ∀ y ∈ scope.names, y.2 = .local → scope.names.lookup y.1 = some .local) (hx : scope.names.lookup x = some .local)
    (h : wpAny (model prog w) A (eval iter env) (fun xv s₁ => StrSrc prog w A h₀ L m s₁ (fun y s₂ news => CompRest prog w A h₀ L m env elt x scope cl s₂ (fun _ => True) (SignAt y) (FinE h₀ L m s₂ Q) y.cps.size 0 [] news) xv) E s)
    (hs : ∀ x, foldedSetIterable iter env x = pure x := by intro _; rfl) :
    wpAny (model prog w) A (eval (.ListComp elt [⟨.Name x px, iter, [], 0⟩] scope pos) env) Q E s := by
  rw [eval_ListComp]
  refine wpAny_comprehension_free (use := none) rfl hs hclos hkind hnames (wpAny_mono h (fun xv s₁ h₁ => ?_) fun _ _ e => e)
  obtain ⟨y, t, news, rfl, hh, F, N, hsz, R⟩ := h₁
  refine wpAny_pyIter_strU ?_
  have W : Walks prog w A s₁.heap.objs.size [s₁.heap.objs.size] [s₁.heap.objs.size] y.cps.size (SignAt y) (fun i h => h.IsStrIter s₁.heap.objs.size (strIterType y) y t i) := by
    unfold strIterType
    split
    · exact Walks.strAscii hh _ y t
    · exact Walks.strWide hh _ y t
  refine block_U W hsz (fun i h st => by obtain ⟨o, e, _⟩ := st; exact ⟨o, e⟩) (fun i h h' o nw st e e' _ _ _ => by obtain ⟨o', q, r⟩ := st; rw [e] at q; cases q; exact ⟨o, e', r⟩) hcell hkind hx ⟨_, Heap.get?_push_size _ rfl, rfl, rfl⟩ (fun b hb => ?_)
    (F.keeps fun _ _ e => Heap.get?_push_of_some _ e) (N.grown fun _ _ e => Heap.get?_push_of_some _ e) (Nat.ne_of_lt F.ns.lt) (next_is_new F) (fun p hp => Nat.ne_of_lt (Heap.lt_size (N p hp).1)) trivial (R _ ⟨_, rfl⟩) ?_
  · rw [List.mem_singleton.mp hb]
    show s₁.heap.objs.size < (s₁.heap.push _).objs.size
    rw [Heap.size_push]; exact Nat.lt_succ_self _
  · intro D C h' tk m' ys news' F' N' o1 hn hC₀ hD₀ hCL hDL hCD offC fin
    refine ⟨m', hn, fun h'' hs'' => fin D h'' tk (F'.change hs'' hCL hC₀) (fun p hp => ?_) o1⟩
    refine ⟨hs''.extBut _ _ ?_ (N' p hp).1, (N' p hp).2⟩
    rcases List.mem_cons.mp hp with rfl | hp
    · exact Ne.symm hCD
    · exact offC p hp
theorem ListComp_ST {ct elt iter : Expr} {x : Str} {px : Pos} {scope : Scope} {cl : List (Str × Addr)} {pos : Pos} {Q : Value → Shared → Prop} (F₀ : Fr h₀ L s.heap m)
    (hclos : closureFor scope env = pure cl) (hcell : ∀ y ∈ scope.names, y.2 ≠ .cell) (hkind : scope.kind = .function)
    (hnames : ∀ y ∈ scope.names, y.2 = .local → scope.names.lookup y.1 = some .local) (hx : scope.names.lookup x = some .local)
    (h : wpAny (model prog w) A (eval iter env) (fun xv s₁ => StrSrc prog w A h₀ L m s₁ (fun y s₂ news => CompRestT prog w A h₀ L m env ct elt x scope cl s₂ (fun _ => True) (SignAt y) (FinE h₀ L m s₂ Q) y.cps.size 0 [] news) xv) E s)
    (hs : ∀ x, foldedSetIterable iter env x = pure x := by intro _; rfl) :
    wpAny (model prog w) A (eval (.ListComp elt [⟨.Name x px, iter, [ct], 0⟩] scope pos) env) Q E s := by
  rw [eval_ListComp]
  refine wpAny_comprehension_free (use := none) rfl hs hclos hkind hnames (wpAny_mono h (fun xv s₁ h₁ => ?_) fun _ _ e => e)
  obtain ⟨y, t, news, rfl, hh, F, N, hsz, R⟩ := h₁
  refine wpAny_pyIter_strU ?_
  have W : Walks prog w A s₁.heap.objs.size [s₁.heap.objs.size] [s₁.heap.objs.size] y.cps.size (SignAt y) (fun i h => h.IsStrIter s₁.heap.objs.size (strIterType y) y t i) := by
    unfold strIterType
    split
    · exact Walks.strAscii hh _ y t
    · exact Walks.strWide hh _ y t
  refine block_T W hsz (fun i h st => by obtain ⟨o, e, _⟩ := st; exact ⟨o, e⟩) (fun i h h' o nw st e e' _ _ _ => by obtain ⟨o', q, r⟩ := st; rw [e] at q; cases q; exact ⟨o, e', r⟩) hcell hkind hx ⟨_, Heap.get?_push_size _ rfl, rfl, rfl⟩ (fun b hb => ?_)
    (F.keeps fun _ _ e => Heap.get?_push_of_some _ e) (N.grown fun _ _ e => Heap.get?_push_of_some _ e) (Nat.ne_of_lt F.ns.lt) (next_is_new F) (fun p hp => Nat.ne_of_lt (Heap.lt_size (N p hp).1)) trivial (R _ ⟨_, rfl⟩) ?_
  · rw [List.mem_singleton.mp hb]
    show s₁.heap.objs.size < (s₁.heap.push _).objs.size
    rw [Heap.size_push]; exact Nat.lt_succ_self _
  · intro D C h' tk m' ys news' F' N' o1 hn hC₀ hD₀ hCL hDL hCD offC fin
    refine ⟨m', hn, fun h'' hs'' => fin D h'' tk (F'.change hs'' hCL hC₀) (fun p hp => ?_) o1⟩
    refine ⟨hs''.extBut _ _ ?_ (N' p hp).1, (N' p hp).2⟩
    rcases List.mem_cons.mp hp with rfl | hp
    · exact Ne.symm hCD
    · exact offC p hp
/-- a comprehension by what holds behind i items -/
theorem comp_rule {elt : Expr} {x : Str} {scope : Scope} {cl : List (Str × Addr)} {S : Led → Prop} {P : Nat → Value → Prop} {Fin : List Value → Led → Prop} {n : Nat} {news : Led} (J : Nat → List Value → Led → Prop)
    (hj : J 0 [] news) (fin : ∀ ys news', J n ys news' → Fin ys news')
    (turn : ∀ i v I oI C oC D m₂ h tk (E' : Value → Shared → Prop) ys news', i < n → P i v → J i ys news' → NsObj oC m₂ → m₂ x = some v → Fr h₀ L h m → News h₀ L h ((I, oI) :: (C, oC) :: (D, lst ys) :: news') → Off3 I C D news' → ((@Ne Nat I C) ∧ (@Ne Nat I D) ∧ (@Ne Nat C D)) →
      wpAny (model prog w) A (eval elt (compEnvC scope cl C env)) (CompEnd h₀ L m { s with heap := h, toks := tk } I oI C oC D (lst ys) S (fun y news'' => J (i + 1) (ys ++ [y]) news'')) E' { s with heap := h, toks := tk }) :
    CompRest prog w A h₀ L m env elt x scope cl s S P Fin n 0 [] news := by
  have all : ∀ k i ys news', k + i = n → J i ys news' → CompRest prog w A h₀ L m env elt x scope cl s S P Fin k i ys news' := by
    intro k
    induction k with
    | zero => intro i ys news' hi hJ; exact .zero (fin ys news' (by rw [← hi, Nat.zero_add]; exact hJ))
    | succ k ih =>
      intro i ys news' hi hJ
      refine .succ fun v I oI C oC D m₂ h tk E' hP hC hx F N off ne => ?_
      refine wpAny_mono (turn i v I oI C oC D m₂ h tk E' ys news' (by omega) hP hJ hC hx F N off ne) (fun y s' he => ?_) fun _ _ e => e
      obtain ⟨h', tk', nw, e1, F', N', off', hS, hJ'⟩ := he
      exact ⟨h', tk', nw, e1, F', N', off', hS, ih (i + 1) _ _ (by omega) hJ'⟩
  exact all n 0 [] news (by omega) hj
theorem comp_ruleT {ct elt : Expr} {x : Str} {scope : Scope} {cl : List (Str × Addr)} {S : Led → Prop} {P : Nat → Value → Prop} {Fin : List Value → Led → Prop} {n : Nat} {news : Led} (J : Nat → List Value → Led → Prop)
    (hj : J 0 [] news) (fin : ∀ ys news', J n ys news' → Fin ys news')
    (turn : ∀ i v I oI C oC D m₂ h tk (E' : Value → Shared → Prop) ys news', i < n → P i v → J i ys news' → NsObj oC m₂ → m₂ x = some v → Fr h₀ L h m → News h₀ L h ((I, oI) :: (C, oC) :: (D, lst ys) :: news') → Off3 I C D news' → ((@Ne Nat I C) ∧ (@Ne Nat I D) ∧ (@Ne Nat C D)) →
      wpAny (model prog w) A (isTrue ct (compEnvC scope cl C env) (eval ct (compEnvC scope cl C env))) (fun ok s' => if ok = true then
        wpAny (model prog w) A (eval elt (compEnvC scope cl C env)) (CompEnd h₀ L m { s with heap := h, toks := tk } I oI C oC D (lst ys) S (fun y news'' => J (i + 1) (ys ++ [y]) news'')) E' s'
        else CompEnd h₀ L m { s with heap := h, toks := tk } I oI C oC D (lst ys) S (fun _ news'' => J (i + 1) ys news'') Value.none s') E' { s with heap := h, toks := tk }) :
    CompRestT prog w A h₀ L m env ct elt x scope cl s S P Fin n 0 [] news := by
  have all : ∀ k i ys news', k + i = n → J i ys news' → CompRestT prog w A h₀ L m env ct elt x scope cl s S P Fin k i ys news' := by
    intro k
    induction k with
    | zero => intro i ys news' hi hJ; exact .zero (fin ys news' (by rw [← hi, Nat.zero_add]; exact hJ))
    | succ k ih =>
      intro i ys news' hi hJ
      refine .succ fun v I oI C oC D m₂ h tk E' hP hC hx F N off ne => ?_
      refine wpAny_mono (turn i v I oI C oC D m₂ h tk E' ys news' (by omega) hP hJ hC hx F N off ne) (fun ok s' he => ?_) fun _ _ e => e
      cases ok with
      | true =>
        rw [if_pos rfl] at he ⊢
        refine wpAny_mono he (fun y s' he => ?_) fun _ _ e => e
        obtain ⟨h', tk', nw, e1, F', N', off', hS, hJ'⟩ := he
        exact ⟨h', tk', nw, e1, F', N', off', hS, ih (i + 1) _ _ (by omega) hJ'⟩
      | false =>
        rw [if_neg (by decide)] at he ⊢
        obtain ⟨h', tk', nw, e1, F', N', off', hS, hJ'⟩ := he
        exact ⟨h', tk', nw, e1, F', N', off', hS, ih (i + 1) _ _ (by omega) hJ'⟩
  exact all n 0 [] news (by omega) hj
end

theorem ln_B1 : True := by
  k_with_none
  (k_with "ite" => first | with_reducible refine ite_tt ?_ | with_reducible refine ite_ff ?_)
  (k_with "execs nil" => (with_reducible refine wpAny_execs_nil ?_; (try dsimp only)))
  (k_with "execs cons" => (k_here; k_dflt (refine seqK ?_; (try dsimp only))))
  (k_with "x lia" => ((try clear cc); (try clear c2); (try clear lf); lia))
  (k_with "x n7" => ((rename News _ _ _ _ => N7); exact N7))
  (k_with "x room" => (first | exact room1 (by assumption) (by rfl) | exact room2 (by assumption) (by rfl) | omega))
  (k_with "x unit" => (first | exact unit1 (by assumption) (by rfl) | exact unit2 (by assumption) (by rfl) | omega))
  (k_with "x got" => ((first | ((with_reducible intro r9 h9 tk9 F9 N9 P9); (first | (obtain ⟨t9, e9⟩ := P9; subst e9) | (subst P9) | skip)) | (with_reducible intro t9 h9 tk9 F9 N9) | (with_reducible intro h9 tk9 F9 N9)); (try k_sweep)))
  (k_with "x one" => (first | (k_unfold; (try dsimp only)) | walk1 | (dsimp only; walk1)))
  (k_with "x g" => ((fail_if_success plain_pass); k_here))
  (k_with "x k" => (k_asm; k_extra "x n7"; k_extra "x ix"))
  (k_with "x c" => (k_extra "x k"; k_extra "x ev"; k_extra "x ev"))
  (k_with "x if" => (k_dflt (k_here; (with_reducible show wpAny _ _ (execs (Stmt.If (PySem.Expr.Compare (PySem.Expr.Name _ _) [CmpOp.Eq] [PySem.Expr.Constant (Const.str _) _ _] _) _ _ _ :: _) _) _ _ _); first | (apply xif_f; k_extra "x c"; exact rfl) | (apply xif_t; k_extra "x c"; exact rfl))))
  (k_with "x stmt" => ((first | k_extra "x if" | refine seqK ?_ | refine wpAny_execs_cons ?_); (repeat' ((fail_if_success (with_reducible refine mark_execs ?_)); k_extra "x one"))))
  (k_with "x steps" => (repeat' k_extra "x one"))
  (k_with "x ix" => (first | exact isX1 rfl | exact isX2 rfl | exact isX3 rfl))
  (k_with "x ev" => (first | exact Ev.str | exact Ev.int | exact Ev.none | exact Ev.bool | (apply Ev.name; exact rfl; exact rfl; exact rfl) | (apply Ev.cell; exact rfl; exact rfl; exact rfl; (first | k_mem | (repeat (first | exact List.mem_cons_self .. | refine List.mem_cons_of_mem _ ?_))); k_asm)))
  (k_with "x evs" => (focus ((repeat' (first | exact Evs.nil | apply Evs.int | (apply Evs.name; exact rfl; exact rfl; exact rfl) | (apply Evs.cell; exact rfl; exact rfl; exact rfl; (first | k_mem | (repeat (first | exact List.mem_cons_self .. | refine List.mem_cons_of_mem _ ?_))); k_asm) | exact Ev.str | exact Ev.none | exact Ev.bool | apply Evs.cons)); done)))
  (k_with "execs cons If" => ((fail_if_success plain_pass); k_extra "x if"))
  (k_with "isTrue Compare" => (k_extra "x g"; (with_reducible show wpAny _ _ (PySem.isTrue (PySem.Expr.Compare _ [_] [_] _) _ _) _ _ _); k_dflt (first | ((with_reducible show wpAny _ _ (PySem.isTrue (PySem.Expr.Compare _ [CmpOp.Eq] [_] _) _ _) _ _ _); apply ist_strL; k_extra "x c") | (apply ist_int; k_extra "x c"; exact rfl))))
  (k_with "eval Call Name" => (k_extra "x g"; k_dflt (first | (apply call_ev; exact rfl; exact rfl; exact rfl; k_extra "x k"; k_extra "x evs"; k_asm; k_asm; k_is; k_is) | (apply bcall_ev; exact rfl; exact rfl; exact rfl; exact rfl; k_extra "x k"; k_extra "x evs"; k_asm; k_asm; k_is; boot_fast; decide))))
  (k_with "callWith" => (k_extra "x g"; k_dflt (apply meth_ev; exact rfl; k_extra "x k"; k_extra "x evs")))
  (k_with "spliced" => (k_extra "x g"; k_dflt (apply args_ev; exact rfl; k_extra "x k"; k_extra "x evs")))
  (k_with "eval Attribute Name" => (k_extra "x g"; k_dflt (apply attr_ev; k_extra "x k"; k_extra "x ev")))
  trivial
theorem IA_snoc {n : Int} {t : Tok} {vs : List Value} {ns : List Int} (h : PyProof.Rows.IntsAre vs ns) : PyProof.Rows.IntsAre (vs ++ [.int n t]) (ns ++ [n]) := by
  induction h with
  | nil => exact .cons _ _ .nil
  | cons k u _ ih => exact .cons _ _ ih
theorem take_snoc {α : Type} {l : List α} {i : Nat} {c : α} (h : l[i]? = some c) : l.take (i + 1) = l.take i ++ [c] := by
  rw [List.take_add_one, h]; rfl
/-- the codes of a text -/
noncomputable def codes (x : Str) : List Int := x.cps.toList.map fun (c : Nat) => (c : Int)
theorem codes_get {x : Str} {i c : Nat} (h : x.cps[i]? = some c) : (codes x)[i]? = some (c : Int) := by
  unfold codes; rw [List.getElem?_map, Array.getElem?_toList, h]; rfl
theorem codes_len (x : Str) : (codes x).length = x.cps.size := by simp [codes]
theorem text_octets_d {w : World} {x : Str} {t : Tok} {rest : Led} (hx : ∀ c ∈ codes x, 0 ≤ c ∧ c < 256) (hz : x.cps.size ≤ 1000) : Does w 391 [.str x t] 1 [] rest (fun r _ tl => tl = [] ∧ ∃ tk, r = .bytes (byteArr (codes x)) tk) := by
  refine' Does.of (binds := [(Str.ofString "text", .str x t)]) (al := [(Str.ofString "text", some (.str x t))]) ?k6 ?kb ?ks ?k7 ?k9 ?kB ?c5 ?c2 ?c3 ?c4 ?lv ?kal ?_
  (case k6 => k_dflt k_is); (case kb => conv => lhs; whnf); (case ks => conv => lhs; whnf); (case k7 => k_dflt k_is); (case k9 => exact rfl); (case kB => exact locs rfl); (case c5 => decide); (case c2 => exact rfl); (case c3 => exact rfl); (case c4 => exact rfl); (case lv => decide); (case kal => exact rfl)
  intro mean mg mb dp un outer base g L s E F N hap B X T hlt hdp hun
  (try simp only [List.nil_append, List.cons_append] at N hlt)
  k_fold
  iterate 6 walk1
  refine ListComp_S (cl := []) F rfl (by decide) rfl (by decide) rfl ?_
  refine ld F rfl ⟨_, _, _, rfl, rfl, F, N, by rw [sizeLine_eq]; omega, fun s₂ ⟨h9, e9⟩ => ?_⟩
  subst e9
  refine comp_rule (fun i ys nw => nw = rest ∧ PyProof.Rows.IntsAre ys ((codes x).take i)) ⟨rfl, .nil⟩ (fun ys nw hj => ?_) (fun i v I oI C oC D m₂ h tk E' ys nw hi hP hj hC hv F1 N1 off ne => ?_)
  · obtain ⟨rfl, hj⟩ := hj
    rw [← codes_len, List.take_length] at hj
    intro D h' tk F2 N2 o1
    refine args_nil ?_
    refine call_bytes_ints ⟨_, N2.get (.head _), rfl, _, rfl⟩ hj hx (by rw [hj.length, codes_len, sizeLine_eq]; omega) rfl fun h3 t3 k3 hk => ?_
    exact ⟨_, [], [], _, _, rfl, F2.keeps hk, (fun p hp => (N2.grown hk) p (.tail _ hp)), rfl, (fun _ _ _ h => nomatch h), rfl, _, rfl⟩
  · obtain ⟨c, u, hc, rfl⟩ := hP
    k_extra "x steps"
    exact ⟨_, _, nw, rfl, F1, N1, off, trivial, hj.1, by rw [take_snoc (codes_get hc)]; exact IA_snoc hj.2⟩

theorem big40 {a : Int} (h : 10 ^ Int.toNat 40 ≤ a) (h1 : a ≤ 1000000) : False := by
  have e : (10 : Int) ^ Int.toNat 40 = 10000000000000000000000000000000000000000 := by decide
  omega
theorem int_signs (i : Int) : ∀ c ∈ (Str.ofString (toString i)).cps.toList, c = 45 ∨ (48 ≤ c ∧ c ≤ 57) := by
  intro c hc
  by_cases h : c ≠ 45 ∧ (c < 48 ∨ 57 < c)
  · exact absurd hc (int_text_free' c h i)
  · omega
theorem int_codes (i : Int) : ∀ c ∈ codes (Str.ofString (toString i)), 0 ≤ c ∧ c < 256 := by
  intro c hc
  obtain ⟨k, hk, rfl⟩ := List.mem_map.mp hc
  have := int_signs i k hk
  omega
theorem int_len {i : Int} (h0 : -1000000 ≤ i) (h1 : i ≤ 1000000) : (Str.ofString (toString i)).cps.size ≤ 8 := by
  have h := int_text_length_le10 (a := i) (k := 7) (by decide) (by omega)
  have e : (Str.ofString (toString i)).cps.size = (toString i).length := PySem.ofString_length _
  omega
theorem ln_B2_1 : True := by
  (k_with "call ref" => (k_here; k_dflt ((first | refine' Does.use0E (text_octets_d ?zp0 ?zp1) ?zcB ?zcF ?zcX ?zcN ?zcT ?zchd ?zchu ?_ | refine' Does.use0V (text_octets_d ?zp0 ?zp1) ?zcB ?zcF ?zcX ?zcN ?zcT ?zchd ?zchu ?_ | refine' Does.use0 (text_octets_d ?zp0 ?zp1) ?zcB ?zcF ?zcX ?zcN ?zcT ?zchd ?zchu ?_); (case zcB => assumption); (case zcF => k_asm); (case zcX => assumption); (case zcN => k_asm); (case zcT => assumption); (case zchd => k_extra "x room"); (case zchu => k_extra "x unit"); (case zp0 => first | exact int_codes _ | (have hl9 := int_len (by assumption) (by assumption); omega)); (case zp1 => first | exact int_codes _ | (have hl9 := int_len (by assumption) (by assumption); omega)); (k_extra "x got"))))
  trivial
theorem ln_B2_2 : True := by
  (k_with "exec Raise some none" => (exfalso; exact big40 (by assumption) (by first | omega | (split <;> omega))))
  trivial
theorem whole_octets_d {w : World} {i : Int} {t : Tok} {rest : Led} (h0 : -1000000 ≤ i) (h1 : i ≤ 1000000) : Does w 412 [.int i t] 3 [] rest (fun r _ tl => tl = [] ∧ ∃ tk, r = .bytes (byteArr (codes (Str.ofString (toString i)))) tk) := by
  refine' Does.of (binds := [(Str.ofString "number", .int i t)]) (al := [(Str.ofString "number", some (.int i t))]) ?k6 ?kb ?ks ?k7 ?k9 ?kB ?c5 ?c2 ?c3 ?c4 ?lv ?kal ?_
  (case k6 => k_dflt k_is); (case kb => conv => lhs; whnf); (case ks => conv => lhs; whnf); (case k7 => k_dflt k_is); (case k9 => exact rfl); (case kB => exact locs rfl); (case c5 => decide); (case c2 => exact rfl); (case c3 => exact rfl); (case c4 => exact rfl); (case lv => decide); (case kal => exact rfl)
  intro mean mg mb dp un outer base g L s E F N hap B X T hlt hdp hun
  (try simp only [List.nil_append, List.cons_append] at N hlt)
  k_fold
  k_extra "x steps"
  refine ⟨_, [], [], _, _, rfl, by with_reducible assumption, by first | with_reducible assumption | assumption, rfl, (fun _ _ _ h => nomatch h), ?_⟩; exact ⟨rfl, _, rfl⟩


noncomputable def TurnEnd (h₀ : Heap) (L : Addr) (J : List (Str × Option Value) → Led → Prop) (own : Led) (s₁ : Shared) (Q : Flow → Shared → Prop) (f : Flow) (s₂ : Shared) : Prop :=
  match f with
  | .ret v => Q (.ret v) s₂
  | .brk => Q .next s₂
  | _ => ∃ h' tk al nx, s₂ = { s₁ with heap := h', toks := tk } ∧ Fr h₀ L h' (lkm al) ∧ News h₀ L h' (nx ++ own) ∧ OwnOff own (nx.map (·.1)) ∧ J al nx
theorem TurnEnd.up {h₀ : Heap} {L : Addr} {J : List (Str × Option Value) → Led → Prop} {own : Led} {s₁ s₂ : Shared} {Q : Flow → Shared → Prop} {f : Flow} (h : TurnEnd h₀ L J own s₁ Q f s₂) : InvPostG h₀ L (fun m nx => ∃ al, m = lkm al ∧ J al nx) own s₁ Q f s₂ := by
  have fin : (∃ h' tk al nx, s₂ = { s₁ with heap := h', toks := tk } ∧ Fr h₀ L h' (lkm al) ∧ News h₀ L h' (nx ++ own) ∧ OwnOff own (nx.map (·.1)) ∧ J al nx) → InvEndG h₀ L (fun m nx => ∃ al, m = lkm al ∧ J al nx) own s₁ s₂ := by
    rintro ⟨h', tk, al, nx, rfl, F, N, o, j⟩
    exact ⟨h', tk, _, _, nx, rfl, F, N, fun p hp => List.mem_append.mpr (.inl hp), fun p hp => List.mem_append.mpr (.inr hp), o, al, rfl, j⟩
  cases f with
  | ret v => exact h
  | brk => exact h
  | next => exact fin h
  | cont => exact fin h
section
variable {prog : Program} {w : World} {A : Around} {E : Value → Shared → Prop} {s : Shared} {env : Env} {h₀ : Heap} {L : Addr} {x : Str} {body : List Stmt} {Q : Flow → Shared → Prop} {al : List (Str × Option Value)} {news : Led}
theorem list_loop {l : Addr} {vs : List Value} {nn : Nat} (J : Nat → List (Str × Option Value) → Led → Prop)
    (F : Fr h₀ L s.heap (lkm al)) (N : News h₀ L s.heap news) (hl : (l, W.listOf vs.toArray nn) ∈ news) (hj : J 0 al news)
    (turn : ∀ i v al₁ news₁ h tk own, vs[i]? = some v → OwnOff own (news₁.map (·.1)) → (l, W.listOf vs.toArray nn) ∈ news₁ → J i al₁ news₁ → Fr h₀ L h (lkm ((x, some v) :: al₁)) → News h₀ L h (news₁ ++ own) →
      wpAny (model prog w) A (execs body env) (TurnEnd h₀ L (fun al' nx => (l, W.listOf vs.toArray nn) ∈ nx ∧ J (i + 1) al' nx) own { s with heap := h, toks := tk } Q) E { s with heap := h, toks := tk })
    (done : ∀ al₁ news₁ h tk, J vs.length al₁ news₁ → Fr h₀ L h (lkm al₁) → News h₀ L h news₁ → Q .next { s with heap := h, toks := tk })
    (hh : A.handled = none := by rfl) (hLe : env.locals = L := by rfl) :
    wpAny (model prog w) A (pyIter (.ref l)) (fun it s₂ => LoopAtV prog w A h₀ env x body Q E it s₂) E s := by
  subst hLe
  refine kdl_iter (fun i m nx => ∃ al', m = lkm al' ∧ J i al' nx) hh hl F N ⟨al, rfl, hj⟩ ?_ ?_
  · rintro i v m₁ news₁ h tk own hv ho hm ⟨al₁, rfl, hJ⟩ F₁ N₁
    refine wpAny_mono (turn i v al₁ news₁ h tk own hv ho hm hJ F₁ N₁) (fun f s₂ p => ?_) fun _ _ e => e
    have p := p.up
    have fin : InvEndG h₀ env.locals (fun m nx => ∃ al', m = lkm al' ∧ (l, W.listOf vs.toArray nn) ∈ nx ∧ J (i + 1) al' nx) own { s with heap := h, toks := tk } s₂ → InvEndG h₀ env.locals (fun m nx => (l, W.listOf vs.toArray nn) ∈ nx ∧ ∃ al', m = lkm al' ∧ J (i + 1) al' nx) own { s with heap := h, toks := tk } s₂ := by
      rintro ⟨h', tk', m', n', nx, e, F', N', a, b, c, al', e', d, j⟩
      exact ⟨h', tk', m', n', nx, e, F', N', a, b, c, d, al', e', j⟩
    cases f with
    | ret v => exact p
    | brk => exact p
    | next => exact fin p
    | cont => exact fin p
  · rintro m₁ news₁ h tk ⟨al₁, rfl, hJ⟩ F₁ N₁
    exact done al₁ news₁ h tk hJ F₁ N₁
theorem walk_loop {xv : Value} {o : Obj} {n : Nat} {P : Nat → Value → Prop} {St : Nat → Heap → Prop} (J : Nat → List (Str × Option Value) → Led → Prop)
    (W : Walks prog w A s.heap.objs.size [s.heap.objs.size] [s.heap.objs.size] n P St) (hob : ∀ i h, St i h → ∃ o, h.get? s.heap.objs.size = some o)
    (hpy : ∀ Q : Value → Shared → Prop, Q (.ref s.heap.objs.size) { s with heap := s.heap.push o } → wpAny (model prog w) A (pyIter xv) Q E s) (hst : St 0 (s.heap.push o))
    (F : Fr h₀ L s.heap (lkm al)) (N : News h₀ L s.heap news) (hj : J 0 al news)
    (turn : ∀ i v al₁ news₁ h tk own, i < n → P i v → OwnOff own (news₁.map (·.1)) → J i al₁ news₁ → Fr h₀ L h (lkm ((x, some v) :: al₁)) → News h₀ L h (news₁ ++ own) →
      wpAny (model prog w) A (execs body env) (TurnEnd h₀ L (fun al' nx => J (i + 1) al' nx) own { s with heap := h, toks := tk } Q) E { s with heap := h, toks := tk })
    (done : ∀ al₁ news₁ h tk, J n al₁ news₁ → Fr h₀ L h (lkm al₁) → News h₀ L h news₁ → Q .next { s with heap := h, toks := tk })
    (hLe : env.locals = L := by rfl) :
    wpAny (model prog w) A (pyIter xv) (fun it s₂ => LoopAtV prog w A h₀ env x body Q E it s₂) E s := by
  subst hLe
  refine hpy _ ?_
  refine kdr_loop (s := { s with heap := s.heap.push o }) (fun i m nx => ∃ al', m = lkm al' ∧ J i al' nx) W (fun _ h => h) (fun _ h => h) ?_ ?_ ?_ ?_ hst (F.push _) (fun p hp => ⟨Heap.get?_push_of_some _ (N p hp).1, (N p hp).2⟩) ⟨al, rfl, hj⟩ ?_ ?_
  · intro i h hi b hb
    rw [List.mem_singleton.mp hb]
    exact hob i h hi
  · intro hm
    exact absurd F.ns.lt ((List.mem_singleton.mp hm) ▸ Nat.lt_irrefl _)
  · intro b hb
    rw [List.mem_singleton.mp hb]
    exact next_is_new F
  · intro p hp hI
    exact absurd (Heap.lt_size (N p hp).1) ((List.mem_singleton.mp hI) ▸ Nat.lt_irrefl _)
  · rintro i v m₁ news₁ h tk own hi hv ho ⟨al₁, rfl, hJ⟩ F₁ N₁
    exact wpAny_mono (turn i v al₁ news₁ h tk own hi hv ho hJ F₁ N₁) (fun f s₂ p => p.up) fun _ _ e => e
  · rintro m₁ news₁ h tk ⟨al₁, rfl, hJ⟩ F₁ N₁
    exact done al₁ news₁ h tk hJ F₁ N₁
theorem str_loop {y : Str} {t : Tok} (J : Nat → List (Str × Option Value) → Led → Prop)
    (F : Fr h₀ L s.heap (lkm al)) (N : News h₀ L s.heap news) (hj : J 0 al news)
    (turn : ∀ i v al₁ news₁ h tk own, i < y.cps.size → SignAt y i v → OwnOff own (news₁.map (·.1)) → J i al₁ news₁ → Fr h₀ L h (lkm ((x, some v) :: al₁)) → News h₀ L h (news₁ ++ own) →
      wpAny (model prog w) A (execs body env) (TurnEnd h₀ L (fun al' nx => J (i + 1) al' nx) own { s with heap := h, toks := tk } Q) E { s with heap := h, toks := tk })
    (done : ∀ al₁ news₁ h tk, J y.cps.size al₁ news₁ → Fr h₀ L h (lkm al₁) → News h₀ L h news₁ → Q .next { s with heap := h, toks := tk })
    (hh : A.handled = none := by rfl) (hLe : env.locals = L := by rfl) :
    wpAny (model prog w) A (pyIter (.str y t)) (fun it s₂ => LoopAtV prog w A h₀ env x body Q E it s₂) E s := by
  have W : Walks prog w A s.heap.objs.size [s.heap.objs.size] [s.heap.objs.size] y.cps.size (SignAt y) (fun i h => h.IsStrIter s.heap.objs.size (strIterType y) y t i) := by
    unfold strIterType
    split
    · exact Walks.strAscii hh _ y t
    · exact Walks.strWide hh _ y t
  exact walk_loop J W (fun i h st => by obtain ⟨o, e, _⟩ := st; exact ⟨o, e⟩) (fun Q hq => wpAny_pyIter_strU hq) ⟨_, Heap.get?_push_size _ rfl, rfl, rfl⟩ F N hj turn done hLe
theorem bytes_loop {b : Array UInt8} {t : Tok} (J : Nat → List (Str × Option Value) → Led → Prop)
    (F : Fr h₀ L s.heap (lkm al)) (N : News h₀ L s.heap news) (hj : J 0 al news)
    (turn : ∀ i v al₁ news₁ h tk own, i < b.size → (∃ c u, b[i]? = some c ∧ v = .int (c.toNat : Int) u) → OwnOff own (news₁.map (·.1)) → J i al₁ news₁ → Fr h₀ L h (lkm ((x, some v) :: al₁)) → News h₀ L h (news₁ ++ own) →
      wpAny (model prog w) A (execs body env) (TurnEnd h₀ L (fun al' nx => J (i + 1) al' nx) own { s with heap := h, toks := tk } Q) E { s with heap := h, toks := tk })
    (done : ∀ al₁ news₁ h tk, J b.size al₁ news₁ → Fr h₀ L h (lkm al₁) → News h₀ L h news₁ → Q .next { s with heap := h, toks := tk })
    (hh : A.handled = none := by rfl) (hLe : env.locals = L := by rfl) :
    wpAny (model prog w) A (pyIter (.bytes b t)) (fun it s₂ => LoopAtV prog w A h₀ env x body Q E it s₂) E s :=
  walk_loop J (KBw.walks hh _ b t) (fun i h st => by obtain ⟨o, e, _⟩ := st; exact ⟨o, e⟩) (fun Q hq => KBw.pyIter_bytes hq) ⟨_, Heap.get?_push_size _ rfl, rfl, rfl⟩ F N hj turn done hLe
theorem range_loop {r : Addr} {a b : Int} {n : Nat} {t u v : Tok} (J : Nat → List (Str × Option Value) → Led → Prop)
    (hr : IsRange s.heap r a b 1 t u v) (hsmall : Builtin.Range.small a b 1 = true) (hsz : Builtin.Range.rangeSize a b 1 = (n : Int))
    (F : Fr h₀ L s.heap (lkm al)) (N : News h₀ L s.heap news) (hj : J 0 al news)
    (turn : ∀ (i : Nat) v al₁ news₁ h tk own, i < n → (∃ t, v = .int (a + (i : Int)) t) → OwnOff own (news₁.map (·.1)) → J i al₁ news₁ → Fr h₀ L h (lkm ((x, some v) :: al₁)) → News h₀ L h (news₁ ++ own) →
      wpAny (model prog w) A (execs body env) (TurnEnd h₀ L (fun al' nx => J (i + 1) al' nx) own { s with heap := h, toks := tk } Q) E { s with heap := h, toks := tk })
    (done : ∀ al₁ news₁ h tk, J n al₁ news₁ → Fr h₀ L h (lkm al₁) → News h₀ L h news₁ → Q .next { s with heap := h, toks := tk })
    (hh : A.handled = none := by rfl) (hLe : env.locals = L := by rfl) :
    wpAny (model prog w) A (pyIter (.ref r)) (fun it s₂ => LoopAtV prog w A h₀ env x body Q E it s₂) E s := by
  refine walk_loop J (PyProof.Rows.LCg.range_walks hh a n) (fun i h st => ⟨_, st⟩) (fun Q hq => wpAny_pyIter_range hr hsmall hq) (by show IsRangeIter _ _ _ _ _; rw [hsz]; simpa using Heap.get?_push_size _ rfl) F N hj turn done hLe
end
theorem off1_mem {D : Addr} {l : Led} (h : PyProof.Rows.LCg.Off1 D l) : ∀ p ∈ l, p.1 ≠ D := by
  induction l with
  | nil => intro p hp; cases hp
  | cons a r ih =>
    intro p hp
    cases hp with
    | head => exact h.1
    | tail _ hp => exact ih h.2 p hp
theorem allLt_mem {d : Addr} {l : Led} (h : AllLt d l) : ∀ p ∈ l, p.1 < d := by
  induction l with
  | nil => intro p hp; cases hp
  | cons a r ih =>
    intro p hp
    cases hp with
    | head => exact h.1
    | tail _ hp => exact ih h.2 p hp
theorem allLt_ne {d : Addr} {l : Led} (h : AllLt d l) : ∀ p ∈ l, p.1 ≠ d := fun p hp => Nat.ne_of_lt (allLt_mem h p hp)
theorem news_ret {g h : Heap} {L : Addr} (tl mu cells rest : Led) (N : News g L h (tl ++ (mu ++ (cells ++ rest)))) : News g L h (mu ++ (tl ++ rest)) := fun p hp => N p (by
  simp only [List.mem_append] at hp ⊢
  rcases hp with h | h | h
  · exact .inr (.inl h)
  · exact .inl h
  · exact .inr (.inr (.inr h)))
theorem off2 {a : Addr × Obj} {rest : Led} {x d : Addr} {ox od : Obj} (h1 : a.1 < d) (h2 : AllLt d rest) (h3 : d < x) : ∀ q ∈ [a] ++ rest, ∀ p ∈ [(x, ox), (d, od)], q.1 ≠ p.1 := by
  intro q hq p hp
  have hq' : q.1 < d := by
    rcases List.mem_append.mp hq with h | h
    · rw [List.mem_singleton.mp h]; exact h1
    · exact allLt_mem h2 q h
  rcases List.mem_cons.mp hp with rfl | hp
  · exact Nat.ne_of_lt (Nat.lt_trans hq' h3)
  · rw [List.mem_singleton.mp hp]; exact Nat.ne_of_lt hq'
theorem range_src {prog : Program} {w : World} {A : Around} {h₀ : Heap} {L : Addr} {m : Str → Option Value} {env : Env} {elt : PySem.Expr} {x : Str} {scope : Scope} {cl : List (Str × Addr)} {Fin : Shared → List Value → Led → Prop} {r : Addr} {k : Int} {t u v : Tok} {news : Led} {s₁ : Shared}
    (F : Fr h₀ L s₁.heap m) (N : News h₀ L s₁.heap news) (hr : IsRange s₁.heap r 0 k 1 t u v) (h0 : 0 ≤ k) (h1 : k ≤ 10000)
    (h : ∀ g, PyProof.Rows.LCg.CompRest prog w A h₀ L m env elt x scope cl { s₁ with heap := g } (fun _ => True) (fun i v => ∃ t, v = .int (0 + (i : Int)) t) (Fin { s₁ with heap := g }) k.toNat 0 [] news) (hh : A.handled = none := by rfl) :
    PyProof.Rows.LCg.CompSrc prog w A h₀ L m env elt x scope cl Fin (.ref r) s₁ :=
  PyProof.Rows.LCg.CompSrc.range hh F N hr (small_one (by decide) (by decide) (by omega) (by omega)) (by rw [rangeSize_nat]; congr 2; omega) (by rw [sizeLine_eq]; omega) h
theorem off1_of {D : Addr} {l : Led} (h : ∀ p ∈ l, p.1 ≠ D) : PyProof.Rows.LCg.Off1 D l := by
  induction l with
  | nil => exact trivial
  | cons a r ih => exact ⟨h a (.head _), ih fun p hp => h p (.tail _ hp)⟩
theorem off1_app {D : Addr} {l r : Led} (h1 : PyProof.Rows.LCg.Off1 D l) (h2 : PyProof.Rows.LCg.Off1 D r) : PyProof.Rows.LCg.Off1 D (l ++ r) := off1_of fun p hp => (List.mem_append.mp hp).elim (off1_mem h1 p) (off1_mem h2 p)
theorem apart1 {a : Addr × Obj} {l : Led} (h : PyProof.Rows.LCg.Off1 a.1 l) : ∀ q ∈ [a], ∀ p ∈ l, p.1 ≠ q.1 := by
  intro q hq p hp
  rw [List.mem_singleton.mp hq]
  exact off1_mem h p hp

theorem off1_lt {D : Addr} {l : Led} (h : ∀ p ∈ l, p.1 < D) : PyProof.Rows.LCg.Off1 D l := off1_of fun p hp => Nat.ne_of_lt (h p hp)
theorem off1_all {D : Addr} {l : Led} (h : AllLt D l) : PyProof.Rows.LCg.Off1 D l := off1_lt (allLt_mem h)
theorem upd_at {D : Addr} {o o' : Obj} : ∀ (pre post : Led), PyProof.Rows.LCg.Off1 D (pre ++ post) → Upd D o o' (pre ++ ((D, o) :: post)) (pre ++ ((D, o') :: post))
  | [], post, h => .head (off1_mem h)
  | a :: pre, post, h => .tail h.1 (upd_at pre post h.2)
section
variable {prog : Program} {w : World} {A : Around} {E : Value → Shared → Prop} {s : Shared} {h₀ : Heap} {L D : Addr} {m : Str → Option Value} {its : Array Value} {n : Nat} {x : Value} {Q : Value → Shared → Prop}
theorem append_at (pre post : Led) (F : Fr h₀ L s.heap m) (N : News h₀ L s.heap (pre ++ ((D, W.listOf its n) :: post))) (ho : PyProof.Rows.LCg.Off1 D (pre ++ post)) (hz : its.size ≤ 100000)
    (h : ∀ h', Fr h₀ L h' m → News h₀ L h' (pre ++ ((D, W.listOf (its.push x) (n + 1)) :: post)) → Q .none { s with heap := h' }) : wpAny (model prog w) A (call (.builtin "list.append") [.ref D, x]) Q E s :=
  append_K F N (upd_at pre post ho) h (by rw [sizeLine_eq]; omega)
theorem extend_at (pre post : Led) {b : Addr} {its2 : Array Value} {n2 : Nat} (F : Fr h₀ L s.heap m) (N : News h₀ L s.heap (pre ++ ((D, W.listOf its n) :: post))) (hb : (b, W.listOf its2 n2) ∈ pre ++ ((D, W.listOf its n) :: post)) (ho : PyProof.Rows.LCg.Off1 D (pre ++ post)) (hne : 0 < its2.size) (hz : its.size + its2.size ≤ 100000)
    (h : ∀ h', Fr h₀ L h' m → News h₀ L h' (pre ++ ((D, W.listOf (its.toList ++ its2.toList).toArray (n + 1)) :: post)) → Q .none { s with heap := h' }) : wpAny (model prog w) A (call (.builtin "list.extend") [.ref D, .ref b]) Q E s := by
  refine kl_extend F N hb rfl (by rw [Array.length_toList]; omega) (upd_at pre post ho) ?_ (by rw [sizeLine_eq, Array.length_toList]; omega) (by rw [sizeLine_eq]; omega) h
  have : Builtin.List.listTooLong (its.size + its2.size) = false := by
    unfold Builtin.List.listTooLong
    rw [decide_eq_false_iff_not, sizeLine_eq]
    omega
  rw [this]; simp
end
theorem news_tail {g h : Heap} {L : Addr} {a : Addr × Obj} {l : Led} (N : News g L h (a :: l)) : News g L h l := fun p hp => N p (.tail _ hp)
theorem IA_app {a b : List Value} {x y : List Int} (h : PyProof.Rows.IntsAre a x) (h2 : PyProof.Rows.IntsAre b y) : PyProof.Rows.IntsAre (a ++ b) (x ++ y) := by
  induction h with
  | nil => exact h2
  | cons k u _ ih => exact .cons _ _ ih
theorem IA_push {vs : Array Value} {A : List Int} {c : Int} {t : Tok} (h : PyProof.Rows.IntsAre vs.toList A) : PyProof.Rows.IntsAre (vs.push (.int c t)).toList (A ++ [c]) := by
  rw [Array.toList_push]; exact IA_app h (.cons _ _ .nil)
theorem IA_ext {vs us : Array Value} {A B : List Int} (h : PyProof.Rows.IntsAre vs.toList A) (h2 : PyProof.Rows.IntsAre us.toList B) : PyProof.Rows.IntsAre ((vs.toList ++ us.toList).toArray).toList (A ++ B) := IA_app h h2
theorem bytes_at {prog : Program} {w : World} {A : Around} {E : Value → Shared → Prop} {s : Shared} {h₀ : Heap} {L D : Addr} {m : Str → Option Value} {news : Led} {vs : Array Value} {n : Nat} {ns : List Int} {Q : Value → Shared → Prop} (F : Fr h₀ L s.heap m) (N : News h₀ L s.heap news) (hm : (D, W.listOf vs n) ∈ news) (hI : PyProof.Rows.IntsAre vs.toList ns) (hr : ∀ n ∈ ns, 0 ≤ n ∧ n < 256) (hz : ns.length ≤ 100000)
    (h : ∀ h' t k, Fr h₀ L h' m → News h₀ L h' news → Q (.bytes (byteArr ns) t) { s with heap := h', toks := k }) (hh : A.handled = none := by rfl) : wpAny (model prog w) A (call (.type "bytes") [.ref D]) Q E s :=
  call_bytes_ints (vs := vs.toList) ⟨_, N.get hm, rfl, n, by rw [Array.toArray_toList]⟩ hI hr (by rw [hI.length, sizeLine_eq]; omega) hh fun h' t k hk => h h' t k (F.keeps hk) (N.grown hk)

theorem nH {g h : Heap} {L : Addr} {a : Addr × Obj} {l : Led} (N : News g L h (a :: l)) : News g L h [a] := fun p hp => N p (List.mem_singleton.mp hp ▸ .head _)
theorem nT {g h : Heap} {L : Addr} {a : Addr × Obj} {l : Led} (N : News g L h (a :: l)) : News g L h l := fun p hp => N p (.tail _ hp)
theorem nL {g h : Heap} {L : Addr} {l r : Led} (N : News g L h (l ++ r)) : News g L h l := fun p hp => N p (List.mem_append.mpr (.inl hp))
theorem nR {g h : Heap} {L : Addr} {l r : Led} (N : News g L h (l ++ r)) : News g L h r := fun p hp => N p (List.mem_append.mpr (.inr hp))
theorem nA {g h : Heap} {L : Addr} {l r : Led} (N : News g L h l) (M : News g L h r) : News g L h (l ++ r) := fun p hp => (List.mem_append.mp hp).elim (N p) (M p)
theorem nC {g h : Heap} {L : Addr} {a : Addr × Obj} {l : Led} (N : News g L h [a]) (M : News g L h l) : News g L h (a :: l) := nA N M
theorem nN {g h : Heap} {L : Addr} : News g L h [] := fun _ h => nomatch h
theorem updF_at {D : Addr} {o : Obj} : ∀ (pre post : Led), PyProof.Rows.LCg.Off1 D (pre ++ post) → UpdF D o (pre ++ ((D, o) :: post)) (fun o' => pre ++ ((D, o') :: post))
  | [], post, h => .head (off1_mem h)
  | a :: pre, post, h => .tail h.1 (updF_at pre post h.2)
section
variable {prog : Program} {w : World} {A : Around} {E : Value → Shared → Prop} {s : Shared} {h₀ : Heap} {L D : Addr} {m : Str → Option Value}
theorem dset_at {K : Type} [DecidableEq K] {knd : KeyKind prog w K} {o : Obj} {kvs : List (K × Value)} {k : K} {key v : Value} {Q : Unit → Shared → Prop} (pre post : Led) (F : Fr h₀ L s.heap m) (N : News h₀ L s.heap (pre ++ ((D, o) :: post))) (hd : o.IsDictOf knd kvs) (hkey : knd.is k key = true) (ho : PyProof.Rows.LCg.Off1 D (pre ++ post)) (hsz : kvs.length ≤ 100000)
    (h : ∀ h' o', Fr h₀ L h' m → News h₀ L h' (pre ++ ((D, o') :: post)) → o'.IsDictOf knd (stored kvs k v) → Q () { s with heap := h', toks := s.toks + 1 }) : wpAny (model prog w) A (setItem (.ref D) key v) Q E s :=
  kda_set F N (updF_at pre post ho) hd hkey (by rw [sizeLine_eq]; omega) h
theorem pop_at {n : Nat} {us : Array Value} {l : List Int} {Q : Value → Shared → Prop} (pre post : Led) (F : Fr h₀ L s.heap m) (N : News h₀ L s.heap (pre ++ ((D, W.listOf us n) :: post))) (hi : PyProof.Rows.IntsAre us.toList l) (ho : PyProof.Rows.LCg.Off1 D (pre ++ post)) (hne : 0 < us.size) (hsz : us.size ≤ 100000)
    (h : ∀ h' t (us' : Array Value) (n' : Nat), Fr h₀ L h' m → News h₀ L h' (pre ++ ((D, W.listOf us' n') :: post)) → PyProof.Rows.IntsAre us'.toList l.dropLast → us'.size < us.size → Q (.int (l.getLastD 0) t) { s with heap := h' }) : wpAny (model prog w) A (call (.builtin "list.pop") [.ref D]) Q E s := by
  refine kpa_pop (us := us.toList) (n := n) F (by rw [Array.toArray_toList]; exact N) (upd_at pre post ho) hi (by rw [Array.length_toList]; omega) (by rw [Array.length_toList, sizeLine_eq]; omega) fun h' t F' N' hi' => h h' t _ _ F' N' hi' ?_
  simp; omega
end
theorem stored_isSome {K : Type} [DecidableEq K] (kvs : List (K × Value)) (k : K) (v : Value) (j : K) : (valueAt (stored kvs k v) j).isSome = ((valueAt kvs j).isSome || decide (j = k)) := by
  rw [valueAt_isSome_eq_any, valueAt_isSome_eq_any]
  unfold stored
  split
  · rename_i h
    rw [List.any_map]
    by_cases hj : j = k
    · subst hj
      simp only [decide_true, Bool.or_true]
      obtain ⟨a, ha, e⟩ := List.any_eq_true.mp h
      refine List.any_eq_true.mpr ⟨a, ha, ?_⟩
      simp only [decide_eq_true_eq] at e
      simp [e]
    · simp only [hj, decide_false, Bool.or_false]
      congr 1
      funext a
      by_cases ha : a.1 = k
      · simp [ha]
      · simp [ha]
  · rw [List.any_append]
    congr 1
    simp only [List.any_cons, List.any_nil, Bool.or_false]
    congr 1
    exact propext ⟨fun e => e.symm, fun e => e.symm⟩
theorem truthy_at {prog : Program} {w : World} {A : Around} {E : Value → Shared → Prop} {s : Shared} {h₀ : Heap} {L D : Addr} {news : Led} {us : Array Value} {n : Nat} {Q : Bool → Shared → Prop} (N : News h₀ L s.heap news) (hm : (D, W.listOf us n) ∈ news) (hz : us.size ≤ 100000)
    (hy : 0 < us.size → Q true { s with toks := s.toks + 1 + 1 }) (hn : us.size = 0 → Q false { s with toks := s.toks + 1 + 1 }) : wpAny (model prog w) A (truthy (.ref D)) Q E s := by
  refine wpAny_truthy_list (items := us) ⟨_, N.get hm, rfl, n, rfl⟩ (by omega) ?_
  by_cases h : 0 < us.size
  · rw [show (!us.isEmpty) = true by unfold Array.isEmpty; rw [decide_eq_false (by omega)]; rfl]; exact hy h
  · rw [show (!us.isEmpty) = false by unfold Array.isEmpty; rw [decide_eq_true (by omega)]; rfl]; exact hn (by omega)
theorem is_int {prog : Program} {w : World} {i : Int} {t : Tok} : (intKind prog w).is i (.int i t) = true := by simp [intKind, Value.isInt]
theorem off3_of {I C D : Addr} {l : Led} (h : ∀ p ∈ l, p.1 ≠ I ∧ p.1 ≠ C ∧ p.1 ≠ D) : PyProof.Rows.LCg.Off3 I C D l := by
  induction l with
  | nil => exact trivial
  | cons a r ih => exact ⟨h a (.head _), ih fun p hp => h p (.tail _ hp)⟩
theorem news_p4 {g h : Heap} {L : Addr} {a i c d : Addr × Obj} {r : Led} (N : News g L h (i :: c :: d :: a :: r)) : News g L h (a :: i :: c :: d :: r) := (nC (nH (nT (nT (nT N)))) (nC (nH N) (nC (nH (nT N)) (nC (nH (nT (nT N))) (nT (nT (nT (nT N))))))))
theorem news_c6 {g h : Heap} {L : Addr} {a i c d x y : Addr × Obj} {t acc r : Led} (N : News g L h (a :: (t ++ (i :: c :: d :: x :: y :: (acc ++ r))))) : News g L h (i :: c :: d :: a :: x :: y :: ((t ++ acc) ++ r)) := (nC (nH (nR (nT N))) (nC (nH (nT (nR (nT N)))) (nC (nH (nT (nT (nR (nT N))))) (nC (nH N) (nC (nH (nT (nT (nT (nR (nT N)))))) (nC (nH (nT (nT (nT (nT (nR (nT N))))))) (nA (nA (nL (nT N)) (nL (nT (nT (nT (nT (nT (nR (nT N))))))))) (nR (nT (nT (nT (nT (nT (nR (nT N)))))))))))))))
theorem off3_ins {I C D : Addr} {a a' x y : Addr × Obj} {t acc r : Led} (h : PyProof.Rows.LCg.Off3 I C D (a :: x :: y :: (acc ++ r))) (e : a'.1 = a.1) (ht : ∀ p ∈ t, p.1 ≠ I ∧ p.1 ≠ C ∧ p.1 ≠ D) : PyProof.Rows.LCg.Off3 I C D (a' :: x :: y :: ((t ++ acc) ++ r)) := by
  refine ⟨e ▸ h.1, h.2.1, h.2.2.1, off3_of fun p hp => ?_⟩
  have hm := PyProof.Rows.LCg.Off3.mem h.2.2.2
  simp only [List.mem_append] at hp
  rcases hp with (hp | hp) | hp
  · exact ht p hp
  · exact hm p (List.mem_append.mpr (.inl hp))
  · exact hm p (List.mem_append.mpr (.inr hp))
theorem new_off {a i c d x y : Addr × Obj} {t acc r : Led} (o : ∀ q ∈ a :: i :: c :: d :: x :: y :: (acc ++ r), ∀ p ∈ t, q.1 ≠ p.1) : (∀ p ∈ t, p.1 ≠ i.1 ∧ p.1 ≠ c.1 ∧ p.1 ≠ d.1) ∧ (∀ p ∈ t, p.1 ≠ a.1) ∧ (∀ q ∈ r, ∀ p ∈ t, q.1 ≠ p.1) :=
  ⟨fun p hp => ⟨(o _ (.tail _ (.head _)) p hp).symm, (o _ (.tail _ (.tail _ (.head _))) p hp).symm, (o _ (.tail _ (.tail _ (.tail _ (.head _)))) p hp).symm⟩, fun p hp => (o _ (.head _) p hp).symm,
   fun q hq p hp => o _ (.tail _ (.tail _ (.tail _ (.tail _ (.tail _ (.tail _ (List.mem_append.mpr (.inr hq)))))))) p hp⟩

theorem list_no_keys : typeLookup (.type "list") "keys" = pure none := by rw [typeLookup_type, builtinLookup_eq_fast]; kernel_rfl
theorem keys_miss_list {prog : Program} {w : World} {A : Around} {E : Value → Shared → Prop} {s : Shared} {a : Addr} {xs : Array Value} {k : Nat} {Q : Option Value → Shared → Prop}
    (hx : s.heap.get? a = some { cls := .type "list", data := .seq xs k }) (hA : A.handled = none)
    (h : ∀ h' tk, (∀ b o, s.heap.get? b = some o → h'.get? b = some o) → Q none { s with heap := h', toks := tk }) :
    wpAny (model prog w) A (getAttr? (.ref a) "keys") Q E s := by
  obtain ⟨hp, g, d, tk, os⟩ := s
  have hT : ∀ tk', (⟨hp, g, d, tk', os⟩ : Shared).TypeIs (.ref a) "list" := fun _ => ⟨_, hx, rfl⟩
  have f1 := sub_AttributeError
  have f3 := PySem.F.slot_list_getattribute.lookup
  have f4 := PySem.F.slot_list_getattribute.bind (.ref a)
  have f5 := am_list_getattr_none
  unfold getAttr? getAttrBy? getAttrBy
  repeat (any_goals (first | assumption | exact hT _ | ((with_reducible show wpAny _ _ (call (Value.builtin "list.__getattribute__") _ _) _ _ _); refine call_meets PySem.F.slot_list_getattribute (hT _) am_entry_list_getattribute (PySem.F.args_list_getattribute_2 _ _) (meets_getattribute_miss_list a xs k #[] _ _ list_no_keys (by decide +kernel)) ⟨hx, hA, fun h' tk' e hx' => ?_⟩) | wp_step))
  obtain ⟨t', u', he⟩ := hx'.there
  show wpAny _ _ (getattributeRaised _ _ _ _ _ _ _) _ _ _
  unfold getattributeRaised
  repeat (any_goals (first | assumption | wp_step))
  exact h _ _ hx'.keeps

theorem entry_upd_loop : entryFor table "dict.update.loop" = some Builtin.«dict.update.loop» := entryFor_of_fast (by kernel_rfl)
theorem plain_upd_loop : plainId "dict.update.loop" = true := by decide +kernel
noncomputable def storedAll {K : Type} [DecidableEq K] (kvs : List (K × Value)) : List (K × Value) := kvs.foldl (fun a p => stored a p.1 p.2) []
theorem storedAll_snoc {K : Type} [DecidableEq K] {kvs : List (K × Value)} {i : Nat} {p : K × Value} (h : kvs[i]? = some p) : storedAll (kvs.take (i + 1)) = stored (storedAll (kvs.take i)) p.1 p.2 := by
  unfold storedAll
  rw [take_snoc h, List.foldl_append]; rfl
theorem storedAll_len {K : Type} [DecidableEq K] (kvs : List (K × Value)) : ∀ i, (storedAll (kvs.take i)).length ≤ i := by
  intro i
  induction i with
  | zero => simp [storedAll]
  | succ i ih =>
    by_cases h : i < kvs.length
    · rw [storedAll_snoc (List.getElem?_eq_getElem h)]
      have := stored_length_le (storedAll (kvs.take i)) (kvs[i]).1 (kvs[i]).2
      omega
    · rw [List.take_of_length_le (by omega)]
      rw [List.take_of_length_le (by omega)] at ih
      omega
section
variable {prog : Program} {w : World} {K : Type} [DecidableEq K] {knd : KeyKind prog w K} {A : Around} {s : Shared} {R : Result → Shared → Prop} {kvs : List (K × Value)} {I d : Addr} {fp : List Addr} {P : Nat → Value → Prop} {St : Nat → Heap → Prop} {h₁ : Heap}
theorem upd_loop (W : Walks prog w A.in1 I fp [I] kvs.length P St) (hdf : d ∉ fp) (hn : kvs.length ≤ 100000)
    (hP : ∀ i v, P i v → ∃ T key k x n, v = .ref T ∧ kvs[i]? = some (k, x) ∧ knd.is k key = true ∧ h₁.get? T = some { cls := .type "tuple", data := .seq #[key, x] n } ∧ T ≠ d ∧ T ≠ I)
    (hR : ∀ h' tk, (∀ b o, b ≠ d → b ≠ I → h₁.get? b = some o → h'.get? b = some o) → h'.DictOf knd d (storedAll kvs) → R (.ok (.ret .none)) { s with heap := h', toks := tk }) :
    ∀ (k i : Nat) (h : Heap) (tk : Nat), kvs.length - i = k → i ≤ kvs.length → St i h → h.DictOf knd d (storedAll (kvs.take i)) → (∀ b o, b ≠ d → b ≠ I → h₁.get? b = some o → h.get? b = some o) →
      codeAny (model prog w) A (.builtin "dict.update.loop" ⟨[.ref d, .ref I, rawInt i, .none], []⟩) R { s with heap := h, toks := tk } := by
  have hdI : d ≠ I := fun e => hdf (e ▸ W.sub _ (List.mem_singleton_self _))
  intro k
  induction k with
  | zero =>
    intro i h tk hk hi hst hD hkeep
    have hin : i = kvs.length := by omega
    subst hin
    refine codeAny_builtin entry_upd_loop ?_
    rw [Around.under_plainId plain_upd_loop _]
    show wpAny _ A.in1 (pyNext (.ref I) >>= _) _ _ _
    refine wpAny_bind (W.done { s with heap := h, toks := tk } _ _ hst fun h' tk' he => ?_)
    rw [List.take_length] at hD
    show wpAny _ A.in1 (Builtin.Dict.addKeywords d [] >>= _) _ _ _
    refine wpAny_bind (wpAny_pure (wpAny_pure ?_))
    obtain ⟨o, ho, hd⟩ := Heap.dictOf_iff.mp hD
    exact hR h' tk' (fun b o h1 h2 e => he b o (by simpa using h2) (hkeep b o h1 h2 e)) (Heap.dictOf_iff.mpr ⟨o, he d o (by simpa using hdI) ho, hd⟩)
  | succ k ih =>
    intro i h tk hk hi hst hD hkeep
    have hlt : i < kvs.length := by omega
    refine codeAny_builtin entry_upd_loop ?_
    rw [Around.under_plainId plain_upd_loop _]
    show wpAny _ A.in1 (pyNext (.ref I) >>= _) _ _ _
    refine wpAny_bind (W.item i { s with heap := h, toks := tk } _ _ hlt hst fun v h' tk' hp hst' hkp => ?_)
    obtain ⟨T, key, kk, x, n, rfl, hx, hkey, hT, hTd, hTI⟩ := hP i v hp
    have hT' : h'.get? T = some { cls := .type "tuple", data := .seq #[key, x] n } := hkp T _ (by simpa using hTI) (hkeep T _ hTd hTI hT)
    have hD' : h'.DictOf knd d (storedAll (kvs.take i)) := by
      obtain ⟨o, ho, hd⟩ := Heap.dictOf_iff.mp hD
      exact Heap.dictOf_iff.mpr ⟨o, hkp d o (by simpa using hdI) ho, hd⟩
    try dsimp only
    refine wpAny_bind (wpAny_holding ?_)
    refine wpAny_bind (wpAny_tryCatch ?_)
    unfold Builtin.Dict.pairItems
    refine wpAny_bind (wpAny_typeOf (T := "tuple") ⟨_, hT', rfl⟩ ?_)
    rw [if_pos (by decide)]
    refine wpAny_bind (wpAny_seqItems hT' rfl (wpAny_pure ?_))
    refine wpAny_holding (wpAny_dictSet_pairs hkey hD' (fun h'' hD'' hs => ?_) (by have := storedAll_len kvs i; rw [sizeLine_eq]; omega))
    refine wpAny_pure ⟨plainId_quiet plain_upd_loop _, ?_⟩
    refine ih (i + 1) h'' (tk' + 1) (by omega) (by omega) ?_ ?_ ?_
    · exact W.frame (i + 1) h' h'' hst' fun b hb o e => (hs.2 b (fun e' => hdf (e' ▸ hb))).trans e
    · rw [storedAll_snoc hx]; exact hD''
    · exact fun b o h1 h2 e => (hs.2 b h1).trans (hkp b o (by simpa using h2) (hkeep b o h1 h2 e))
end

section
variable {prog : Program} {w : World} {K : Type} [DecidableEq K] {knd : KeyKind prog w K} {A : Around} {E : Value → Shared → Prop} {s : Shared} {kvs : List (K × Value)}
theorem dict_pairs {l : Addr} {vs : List Value} {nn : Nat} {Q : Value → Shared → Prop} (hh : A.handled = none) (hl : s.heap.get? l = some { cls := .type "list", data := .seq vs.toArray nn }) (hlen : vs.length = kvs.length) (hn : kvs.length ≤ 100000)
    (hP : ∀ (i : Nat) v, vs[i]? = some v → ∃ T key k x n, v = .ref T ∧ kvs[i]? = some (k, x) ∧ knd.is k key = true ∧ s.heap.get? T = some { cls := .type "tuple", data := .seq #[key, x] n })
    (h : ∀ h' tk o, (∀ b o, s.heap.get? b = some o → h'.get? b = some o) → h'.get? s.heap.objs.size = some o → o.IsDictOf knd (storedAll kvs) → Q (.ref s.heap.objs.size) { s with heap := h', toks := tk }) :
    wpAny (model prog w) A (call (.type "dict") [.ref l]) Q E s := by
  refine callType_codes (Q₁ := fun obj s₁ => obj = .ref s.heap.objs.size ∧ s₁ = { s with heap := s.heap.push { cls := .type "dict", data := .dict #[] } }) PySem.F.kt_called_dict (PySem.F.kt_typeCall_dict_1 _) PySem.F.entry_dict_init (kt_code_dict_new _ ⟨rfl, rfl⟩) ?_
  rintro obj s₁ ⟨rfl, rfl⟩
  have hnew : (s.heap.push { cls := .type "dict", data := .dict #[] }).DictOf knd s.heap.objs.size [] := Heap.DictOf.new s.heap
  have hl' : (s.heap.push { cls := .type "dict", data := .dict #[] }).get? l = some { cls := .type "list", data := .seq vs.toArray nn } := Heap.get?_push_of_some _ hl
  refine ⟨hnew.typeIs, PySem.F.args_dict_init_2 _ _, ?_⟩
  unfold Builtin.«dict.__init__»
  refine wpAny_bind ?_
  unfold Builtin.Dict.selfAndRest
  refine wpAny_bind (wpAny_notOrdered_dict hnew.typeIs ?_)
  show wpAny _ _ (pure (s.heap.objs.size, [Value.ref l])) _ _ _
  refine wpAny_pure ?_
  show wpAny _ _ (Builtin.Dict.updateFrom "dict.__init__" s.heap.objs.size (.ref l) [] .none) _ _ _
  unfold Builtin.Dict.updateFrom
  refine wpAny_bind (wpAny_typeOf (T := "list") ⟨_, hl', rfl⟩ ?_)
  rw [if_pos (by decide)]
  refine wpAny_bind (keys_miss_list hl' hh fun h2 tk2 hk2 => ?_)
  rw [if_pos (show (none : Option Value).isNone = true from rfl)]
  refine wpAny_bind (wpAny_rule ?_)
  have hl2 := hk2 _ _ hl'
  have hls : h2.IsList l vs.toArray := ⟨_, hl2, rfl, nn, rfl⟩
  refine wpAny_bind (wpAny_pyIter_list hls ?_)
  refine wpAny_pure ⟨plainId_quiet plain_upd_loop _, ?_⟩
  have hlI : l ≠ h2.objs.size := Nat.ne_of_lt (Heap.lt_size hl2)
  obtain ⟨od, hod, hdd⟩ := Heap.dictOf_iff.mp hnew
  have hod2 := hk2 _ _ hod
  have hdI : s.heap.objs.size ≠ h2.objs.size := Nat.ne_of_lt (Heap.lt_size hod2)
  have hld : l ≠ s.heap.objs.size := Nat.ne_of_lt (Heap.lt_size hl)
  have hsz : vs.toArray.size = kvs.length := by rw [List.size_toArray, hlen]
  have W := Walks.list (prog := prog) (w := w) (A := A.in1.in1) hh h2.objs.size l hlI vs.toArray
  rw [hsz] at W
  have up : ∀ b o, s.heap.get? b = some o → h2.get? b = some o := fun b o e => hk2 b o (Heap.get?_push_of_some _ e)
  refine upd_loop (knd := knd) (kvs := kvs) (h₁ := h2) W ?_ hn ?_ ?_ kvs.length 0 _ _ (Nat.sub_zero _) (Nat.zero_le _) ?_ ?_ ?_
  · simp only [List.mem_cons, List.not_mem_nil, or_false, not_or]
    exact ⟨hdI, fun e => hld e.symm⟩
  · intro i v hv
    obtain ⟨T, key, k, x, n, e1, e2, e3, e4⟩ := hP i v (by simpa using hv)
    exact ⟨T, key, k, x, n, e1, e2, e3, up _ _ e4, Nat.ne_of_lt (Heap.lt_size e4), Nat.ne_of_lt (Heap.lt_size (up _ _ e4))⟩
  · intro h3 tk3 hk3 hD3
    obtain ⟨o3, ho3, hd3⟩ := Heap.dictOf_iff.mp hD3
    exact ⟨rfl, h h3 tk3 o3 (fun b o e => hk3 b o (Nat.ne_of_lt (Heap.lt_size e)) (Nat.ne_of_lt (Heap.lt_size (up b o e))) (up b o e)) ho3 hd3⟩
  · exact ⟨⟨_, Heap.get?_push_size _ rfl, rfl, rfl⟩, hls.at fun o e => Heap.get?_push_of_some _ e⟩
  · exact Heap.dictOf_iff.mpr ⟨od, Heap.get?_push_of_some _ hod2, hdd⟩
  · exact fun b o _ _ e => Heap.get?_push_of_some _ e
end

theorem slice3 {a b c : Value} {k : Int} (h0 : 0 ≤ k) (h1 : k < 4) : slicePick #[a, b, c] none (some k) none = ([a, b, c].take k.toNat).toArray := by
  have : k = 0 ∨ k = 1 ∨ k = 2 ∨ k = 3 := by omega
  rcases this with rfl | rfl | rfl | rfl <;> rfl
theorem news_c8 {g h : Heap} {L : Addr} {T a i c d : Addr × Obj} {t acc r : Led} (fx : Led) (N : News g L h (T :: a :: (t ++ (i :: c :: d :: (fx ++ (acc ++ r)))))) : News g L h (i :: c :: d :: a :: (fx ++ ((T :: (t ++ acc)) ++ r))) := (nC (nH (nR (nT (nT N)))) (nC (nH (nT (nR (nT (nT N))))) (nC (nH (nT (nT (nR (nT (nT N)))))) (nC (nH (nT N)) (nA (nL (nT (nT (nT (nR (nT (nT N))))))) (nA (nC (nH N) (nA (nL (nT (nT N))) (nL (nR (nT (nT (nT (nR (nT (nT N)))))))))) (nR (nR (nT (nT (nT (nR (nT (nT N))))))))))))))
theorem off3_ins' {I C D : Addr} {a a' : Addr × Obj} {t acc r : Led} (fx : Led) (h : PyProof.Rows.LCg.Off3 I C D (a :: (fx ++ (acc ++ r)))) (e : a'.1 = a.1) (ht : ∀ p ∈ t, p.1 ≠ I ∧ p.1 ≠ C ∧ p.1 ≠ D) : PyProof.Rows.LCg.Off3 I C D (a' :: (fx ++ ((t ++ acc) ++ r))) := by
  refine ⟨e ▸ h.1, off3_of fun p hp => ?_⟩
  have hm := PyProof.Rows.LCg.Off3.mem h.2
  simp only [List.mem_append] at hp hm
  rcases hp with hp | (hp | hp) | hp
  · exact hm p (.inl hp)
  · exact ht p hp
  · exact hm p (.inr (.inl hp))
  · exact hm p (.inr (.inr hp))
theorem new_off' {a i c d : Addr × Obj} {t acc r : Led} (fx : Led) (o : ∀ q ∈ a :: i :: c :: d :: (fx ++ (acc ++ r)), ∀ p ∈ t, q.1 ≠ p.1) : (∀ p ∈ t, p.1 ≠ i.1 ∧ p.1 ≠ c.1 ∧ p.1 ≠ d.1) ∧ (∀ p ∈ t, p.1 ≠ a.1) ∧ (∀ q ∈ r, ∀ p ∈ t, q.1 ≠ p.1) :=
  ⟨fun p hp => ⟨(o _ (.tail _ (.head _)) p hp).symm, (o _ (.tail _ (.tail _ (.head _))) p hp).symm, (o _ (.tail _ (.tail _ (.tail _ (.head _)))) p hp).symm⟩, fun p hp => (o _ (.head _) p hp).symm,
   fun q hq p hp => o _ (.tail _ (.tail _ (.tail _ (.tail _ (List.mem_append.mpr (.inr (List.mem_append.mpr (.inr hq)))))))) p hp⟩
theorem storedAll_nodup {K : Type} [DecidableEq K] (kvs : List (K × Value)) (hn : (kvs.map (·.1)).Nodup) : ∀ i, i ≤ kvs.length → storedAll (kvs.take i) = kvs.take i := by
  intro i
  induction i with
  | zero => intro _; rfl
  | succ i ih =>
    intro hi
    have hx := List.getElem?_eq_getElem (l := kvs) (i := i) (by omega)
    rw [storedAll_snoc hx, ih (by omega), take_snoc hx]
    refine stored_absent (valueAt_none_of_not_mem ?_) _
    intro hm
    obtain ⟨p, hp, e⟩ := List.mem_map.mp hm
    obtain ⟨j, hj⟩ := List.mem_iff_getElem?.mp hp
    have hji : j < i := by
      have := (List.getElem?_eq_some_iff.mp hj).1
      rw [List.length_take] at this; omega
    rw [List.getElem?_take_of_lt hji] at hj
    have h1 : (kvs.map (·.1))[j]? = some p.1 := by rw [List.getElem?_map, hj]; rfl
    have h2 : (kvs.map (·.1))[i]? = some p.1 := by rw [List.getElem?_map, hx, e]; rfl
    have := (List.getElem?_inj (by rw [List.length_map]; omega) hn).mp (h1.trans h2.symm)
    omega
theorem dict_pairs_at {prog : Program} {w : World} {A : Around} {E : Value → Shared → Prop} {s : Shared} {h₀ : Heap} {L l : Addr} {m : Str → Option Value} {news : Led} {vs : List Value} {nn : Nat} {kvs : List (Str × Value)} {Q : Value → Shared → Prop} (F : Fr h₀ L s.heap m) (N : News h₀ L s.heap news) (hbig : h₀.NoLimit) (hl : (l, W.listOf vs.toArray nn) ∈ news) (hn : kvs.length ≤ 1000) (hnd : (kvs.map (·.1)).Nodup)
    (hA : All2 (fun v kv => ∃ T t n, v = Value.ref T ∧ (T, ({ cls := .type "tuple", data := .seq #[.str kv.1 t, kv.2] n } : Obj)) ∈ news) vs kvs)
    (h : ∀ h' tk d o, Fr h₀ L h' m → News h₀ L h' ((d, o) :: news) → (d == sysModules) = false → o.IsDictOf (PySem.strKind prog w) kvs → (∀ p ∈ news, p.1 < d) → Q (.ref d) { s with heap := h', toks := tk }) (hh : A.handled = none := by rfl) :
    wpAny (model prog w) A (call (.type "dict") [.ref l]) Q E s := by
  refine dict_pairs (knd := PySem.strKind prog w) (kvs := kvs) hh (N.get hl) hA.length (by omega) (fun i v hv => ?_) fun h' tk o hk ho hd => ?_
  · obtain ⟨kv, hkv, T, t, n, rfl, hT⟩ := hA.get hv
    exact ⟨T, _, kv.1, kv.2, n, rfl, hkv, PySem.strKind_is _ _ _ _, N.get hT⟩
  · have e := storedAll_nodup kvs hnd kvs.length (Nat.le_refl _)
    rw [List.take_length] at e
    rw [e] at hd
    have N1 := News.push F N { cls := .type "dict", data := .dict #[] }
    refine h h' tk _ o (F.keeps hk) ?_ (F.notModules (modules_low hbig)) hd fun p hp => Heap.lt_size (N p hp).1
    intro p hp
    rcases List.mem_cons.mp hp with rfl | hp
    · exact ⟨ho, (N1 _ (.head _)).2⟩
    · exact (N.grown hk) p hp
theorem head_ex {a : Addr × Obj} {l : Led} {g h : Heap} {L : Addr} (N : News g L h (a :: l)) : ∃ e, e = a ∧ News g L h (e :: l) := ⟨a, rfl, N⟩
theorem news_d {g h : Heap} {L : Addr} {e a b : Addr × Obj} {l : Led} (N : News g L h (e :: a :: b :: l)) : News g L h (a :: e :: l) := (nC (nH (nT N)) (nC (nH N) (nT (nT (nT N)))))
theorem keys3 {t1 t2 t3 : Tok} {k i : Nat} {v : Value} (h : ([Value.str (Str.ofString "A") t1, .str (Str.ofString "Key") t2, .str (Str.ofString "x y") t3].take k)[i]? = some v) : ∃ x t, v = .str x t ∧ [Str.ofString "A", Str.ofString "Key", Str.ofString "x y"][i]? = some x := by
  have h2 : [Value.str (Str.ofString "A") t1, .str (Str.ofString "Key") t2, .str (Str.ofString "x y") t3][i]? = some v := by
    rw [List.getElem?_take] at h
    split at h
    · exact h
    · cases h
  match i, h2 with
  | 0, h2 => exact ⟨_, _, (Option.some.inj h2).symm, rfl⟩
  | 1, h2 => exact ⟨_, _, (Option.some.inj h2).symm, rfl⟩
  | 2, h2 => exact ⟨_, _, (Option.some.inj h2).symm, rfl⟩
theorem keys3_nodup (i : Nat) : ([Str.ofString "A", Str.ofString "Key", Str.ofString "x y"].take i).Nodup := List.Sublist.nodup (List.take_sublist _ _) (by decide)
theorem ents_keys {news : Led} {kvs : List (Str × Value)} {ps : List (Str × Lf)} (h : All2 (EntIn news) kvs ps) : kvs.map (·.1) = ps.map (·.1) := by
  induction h with
  | nil => rfl
  | cons a _ ih => rw [List.map_cons, List.map_cons, ih, a.1]

open PySem.Builtin
theorem take_eq {b : Array UInt8} {t : Tok} {id : String} : Bytes.takeBufferQuiet? id (.bytes b t) 0 = pure (some (b, none)) := by
  unfold Bytes.takeBufferQuiet? Bytes.takeBuffer?
  rw [PySem.W.KBy.special_eq PySem.W.KBy.look_buffer, PySem.W.KBy.own_buffer]
  have e : Bytes.buffer? id (.bytes b t) (full := ((0 : Int) == Bytes.fullReadOnly)) = pure (some b) := by
    have : ((0 : Int) == Bytes.fullReadOnly) = false := by decide
    rw [this]; exact PySem.W.KBy.buffer_eq
  rw [e]
  kernel_rfl
theorem slot_bytes_join : Slot "bytes" "join" "bytes.join" :=
  .of (owner := "bytes") (n := "join") (by rw [typeLookup_type, builtinLookup_eq_fast]; kernel_rfl) (by decide +kernel) (by decide +kernel) (by decide +kernel)
    (by first | exact .inl (by decide +kernel) | exact .inr (by decide +kernel)) (by rw [isSubtype_type]; kernel_rfl)
theorem entry_bytes_join : entryFor table "bytes.join" = some Builtin.«bytes.join» := entryFor_of_tree (by kernel_rfl)
theorem args_bytes_join (a b : Value) : argsOk "bytes.join" ⟨[a, b], []⟩ := by unfold argsOk; kernel_rfl
theorem type_bytes_join : typeOf (.builtin "bytes.join") = pure (.type "method_descriptor") := by show builtinType _ = _; rw [builtinType_eq_fast]; kernel_rfl
section
variable {prog : Program} {w : World} {A : Around} {E : Value → Shared → Prop} {s : Shared}
theorem bytes_method_join {M : Model} {b : Array UInt8} {t : Tok} {pl : Sem Bool} {Q : Value × List Value → Shared → Prop} (h : Q (.builtin "bytes.join", [.bytes b t]) s) :
    wpAny M A (getMethod (.bytes b t) (PySem.Str.ofString "join") pl) Q E s :=
  getMethod_value (T := "bytes") (name := PySem.Str.ofString "join") (ga := "bytes.__getattribute__") (id := "bytes.join") (PySem.W.typeIs_bytes s b t) (by intro _ x; cases x) (PySem.F.slot_bytes_getattribute.lookup) (by decide +kernel) (by rw [typeLookup_type, builtinLookup_eq_fast]; kernel_rfl) slot_bytes_join.lookup type_bytes_join h
theorem all_bytes {vs : List Value} {bs : List (Array UInt8)} (h : All2 (fun v b => ∃ t, v = Value.bytes b t) vs bs) : ∀ v ∈ vs, ∃ b t, v = Value.bytes b t := by
  induction h with
  | nil => intro v hv; cases hv
  | cons a _ ih =>
    intro v hv
    cases hv with
    | head => obtain ⟨t, e⟩ := a; exact ⟨_, t, e⟩
    | tail _ hv => exact ih v hv
theorem wp_joinLetGo {M : Model} {A : Around} {E : Value → Shared → Prop} {s : Shared} {Q : Unit → Shared → Prop} : ∀ (taken : List (Value × Option Value)) (keep : List Value), (∀ p ∈ taken, p.2 = none) → Q () s → wpAny M A (Bytes.joinLetGo taken keep) Q E s
  | [], keep, _, h => wpAny_pure h
  | (x, w) :: rest, keep, hn, h => by
    have : w = none := hn _ (.head _)
    subst this
    unfold Bytes.joinLetGo
    refine wpAny_bind (wpAny_letGo ?_)
    exact wp_joinLetGo rest keep (fun p hp => hn p (.tail _ hp)) h
theorem join_bytes {sep : Array UInt8} {t : Tok} {l : Addr} {vs : List Value} {bs : List (Array UInt8)} {nn : Nat} {Q : Value → Shared → Prop} (hl : s.heap.get? l = some { cls := .type "list", data := .seq vs.toArray nn }) (hv : All2 (fun v b => ∃ t, v = Value.bytes b t) vs bs)
    (hsz : (bs.toArray.foldl (· + ·.size) (sep.size * (bs.toArray.size - 1))) ≤ 16777216) (hj : (Bytes.joined sep bs).size ≤ 16777216) (hne : bs ≠ [])
    (h : ∀ t' k, Q (.bytes (Bytes.joined sep bs) t') { s with toks := k }) : wpAny (model prog w) A (call (.builtin "bytes.join") [.bytes sep t, .ref l]) Q E s := by
  refine wpAny_call (codeAny_call_builtin slot_bytes_join.plain entry_bytes_join (slot_bytes_join.check _ _ _ _ _ _ _ _ (PySem.W.typeIs_bytes _ _ _) (args_bytes_join _ _) ?_))
  unfold Builtin.«bytes.join» Bytes.joinM
  have hT : s.TypeIs (.ref l) "list" := ⟨_, hl, rfl⟩
  refine wpAny_bind (m := selfAndOne _ _) (wpAny_pure ?_)
  try dsimp only
  rw [if_pos (by decide)]
  unfold Bytes.joinItems
  refine wpAny_bind (wpAny_bind (wpAny_typeOf hT ?_))
  rw [if_pos (by decide)]
  refine wpAny_pure ?_
  refine wpAny_bind (wpAny_seqItems hl rfl ?_)
  try dsimp only
  rw [if_pos (by decide)]
  rcases hv with _ | @⟨v1, b, vs, bs, h1, hr⟩
  · exact absurd rfl hne
  rcases hr with _ | @⟨v2, b2, r, rb, h2, hr⟩
  · obtain ⟨u, rfl⟩ := h1
    show wpAny _ _ (typeOf (Value.bytes b u) >>= _) _ _ _
    refine wpAny_bind (wpAny_typeOf (T := "bytes") (PySem.W.typeIs_bytes _ _ _) ?_)
    rw [if_pos (by decide)]
    refine wpAny_bind (wpAny_rule ?_)
    refine wpAny_pure ?_
    have e : Bytes.joined sep [b] = b := by simp [Bytes.joined]
    rw [e] at h
    exact h u s.toks
  · have hv : All2 (fun v b => ∃ t, v = Value.bytes b t) (v1 :: v2 :: r) (b :: b2 :: rb) := .cons h1 (.cons h2 hr)
    clear h1 h2 hr
    show wpAny _ _ (forIn [:(v1 :: v2 :: r).toArray.size] (#[], []) _ >>= _) _ _ _
    generalize hvs : v1 :: v2 :: r = vs at *
    generalize hbs : b :: b2 :: rb = bs at *
    have hlen := hv.length
    refine wpAny_bind ?_
    rw [Std.Legacy.Range.forIn_eq_forIn_range']
    simp only [Std.Legacy.Range.size, Nat.sub_zero, Nat.add_sub_cancel, Nat.div_one, List.size_toArray]
    refine wpAny_forIn_list _ (fun rest st s' => s' = s ∧ ∃ i, rest = List.range' i (vs.length - i) ∧ i ≤ vs.length ∧ st = ((bs.take i).toArray, (vs.take i).map fun v => (v, none))) _ ?_ ?_ _ _ ⟨rfl, 0, by simp, Nat.zero_le _, rfl⟩
    · rintro x rest st s' ⟨rfl, i, hr, hi, rfl⟩
      have hlt : i < vs.length := by
        rcases Nat.lt_or_ge i vs.length with h | h
        · exact h
        · rw [Nat.sub_eq_zero_of_le h] at hr; simp at hr
      obtain ⟨rfl, hrest⟩ : x = i ∧ rest = List.range' (i + 1) (vs.length - (i + 1)) := by
        have e : vs.length - i = (vs.length - (i + 1)) + 1 := by omega
        rw [e, List.range'_succ] at hr
        injection hr with h1 h2
        exact ⟨h1, h2⟩
      obtain ⟨b, hb, u, hvx⟩ := hv.get (List.getElem?_eq_getElem hlt)
      refine wpAny_bind (wpAny_seqItems hl rfl ?_)
      try dsimp only
      have hany : ((vs.take x).map fun v => (v, (none : Option Value))).any (fun p => p.1.onHeap) = false := by
        rw [List.any_eq_false]
        intro p hp
        obtain ⟨v, hvm, rfl⟩ := List.mem_map.mp hp
        obtain ⟨b, t, rfl⟩ := all_bytes hv v (List.mem_of_mem_take hvm)
        exact Bool.false_ne_true
      rw [hany, if_neg (by decide)]
      have hx : vs.toArray.getD x Value.none = Value.bytes b u := by
        rw [← hvx]; simp [Array.getD, hlt]
      rw [hx]
      refine wpAny_bind (wpAny_holding (wpAny_of_eq take_eq ?_))
      try dsimp only
      refine wpAny_bind (wpAny_seqItems hl rfl ?_)
      try dsimp only
      rw [if_neg (by simp)]
      refine wpAny_pure ⟨rfl, x + 1, hrest, hlt, ?_⟩
      rw [take_snoc hb, take_snoc (List.getElem?_eq_getElem hlt), hvx]
      simp
    · rintro st s' ⟨rfl, i, hr, hi, rfl⟩
      have hin : i = vs.length := by
        have := congrArg List.length hr
        simp at this; omega
      subst hin
      have hbl : bs.take vs.length = bs := by rw [hlen, List.take_length]
      rw [hbl]
      refine wpAny_bind (wpAny_of_eq (a := sep) rfl ?_)
      try dsimp only
      rw [if_neg (by rw [PySem.W.KBy.tooLong_not hsz]; decide)]
      refine wpAny_bind (wpAny_mkBytes ?_ (by rw [sizeLine_eq]; omega))
      refine wpAny_bind (wpAny_holding (wpAny_point ?_))
      refine wpAny_bind (wp_joinLetGo _ _ (fun p hp => by obtain ⟨v, _, rfl⟩ := List.mem_map.mp hp; rfl) ?_)
      exact wpAny_pure (h _ _)
end

open PySem.Builtin
theorem slot_bytes_split : Slot "bytes" "split" "bytes.split" :=
  .of (owner := "bytes") (n := "split") (by rw [typeLookup_type, builtinLookup_eq_fast]; kernel_rfl) (by decide +kernel) (by decide +kernel) (by decide +kernel)
    (by first | exact .inl (by decide +kernel) | exact .inr (by decide +kernel)) (by rw [isSubtype_type]; kernel_rfl)
theorem entry_bytes_split : entryFor table "bytes.split" = some Builtin.«bytes.split» := entryFor_of_tree (by kernel_rfl)
theorem args_bytes_split (a : Value) : argsOk "bytes.split" ⟨[a], []⟩ := by unfold argsOk; kernel_rfl
theorem type_bytes_split : typeOf (.builtin "bytes.split") = pure (.type "method_descriptor") := by show builtinType _ = _; rw [builtinType_eq_fast]; kernel_rfl
section
variable {prog : Program} {w : World} {A : Around} {E : Value → Shared → Prop} {s : Shared}
theorem bytes_method_split {M : Model} {b : Array UInt8} {t : Tok} {pl : Sem Bool} {Q : Value × List Value → Shared → Prop} (h : Q (.builtin "bytes.split", [.bytes b t]) s) :
    wpAny M A (getMethod (.bytes b t) (PySem.Str.ofString "split") pl) Q E s :=
  getMethod_value (T := "bytes") (name := PySem.Str.ofString "split") (ga := "bytes.__getattribute__") (id := "bytes.split") (PySem.W.typeIs_bytes s b t) (by intro _ x; cases x) (PySem.F.slot_bytes_getattribute.lookup) (by decide +kernel) (by rw [typeLookup_type, builtinLookup_eq_fast]; kernel_rfl) slot_bytes_split.lookup type_bytes_split h
theorem mapM_new {M : Model} : ∀ (ws : List (List UInt8)) (s : Shared) (Q : List Value → Shared → Prop), (∀ x ∈ ws, x.length ≤ 16777216) → (∀ vs k, All2 (fun v x => ∃ t, v = Value.bytes x.toArray t) vs ws → Q vs { s with toks := k }) → wpAny M A (ws.mapM fun x => Bytes.Kind.new .bytes x.toArray) Q E s
  | [], s, Q, _, h => by
    rw [List.mapM_nil]
    exact wpAny_pure (h [] s.toks .nil)
  | x :: ws, s, Q, hs, h => by
    rw [List.mapM_cons]
    refine wpAny_bind (wpAny_mkBytes ?_ (by rw [sizeLine_eq, List.size_toArray]; exact Nat.le_trans (hs x (.head _)) (by decide)))
    refine wpAny_bind (mapM_new ws _ _ (fun y hy => hs y (.tail _ hy)) fun vs k hv => ?_)
    exact wpAny_pure (h _ _ (.cons ⟨_, rfl⟩ hv))
theorem split_bytes {b : Array UInt8} {t : Tok} {Q : Value → Shared → Prop} (hsp : b.any Bytes.isSpace = true) (hne : b.isEmpty = false) (hz : ∀ x ∈ Bytes.words (b.size + 1) (b.size + 1) b.toList, x.length ≤ 16777216) (hn : (Bytes.words (b.size + 1) (b.size + 1) b.toList).length ≤ 16777216)
    (h : ∀ vs k, All2 (fun v x => ∃ t, v = Value.bytes x.toArray t) vs (Bytes.words (b.size + 1) (b.size + 1) b.toList) → Q (.ref s.heap.objs.size) { s with heap := s.heap.push { cls := .type "list", data := .seq vs.toArray }, toks := k }) : wpAny (model prog w) A (call (.builtin "bytes.split") [.bytes b t]) Q E s := by
  refine wpAny_call (codeAny_call_builtin slot_bytes_split.plain entry_bytes_split (slot_bytes_split.check _ _ _ _ _ _ _ _ (PySem.W.typeIs_bytes _ _ _) (args_bytes_split _) ?_))
  unfold Builtin.«bytes.split» Bytes.splitM
  try dsimp only
  refine wpAny_bind (wpAny_of_eq (a := [none, none]) (by kernel_rfl) ?_)
  try dsimp only
  refine wpAny_bind (wpAny_pure ?_)
  refine wpAny_bind (wpAny_of_eq (a := b) rfl ?_)
  rw [if_pos (show (-1 : Int) < 0 by decide)]
  refine wpAny_bind (wpAny_rule ?_)
  rw [if_neg (by rw [hsp]; simp)]
  rw [if_neg (by decide)]
  refine wpAny_bind (mapM_new _ _ _ hz fun vs k hv => ?_)
  refine wpAny_bind (wpAny_newList ?_ (by rw [hv.length, sizeLine_eq]; omega))
  exact wpAny_pure (h vs k hv)
end

open PySem.Builtin PySem.NumText PySem.W
theorem by_int : typeLookup (.type "bytes") "__int__" = pure none := by rw [typeLookup_type, builtinLookup_eq_fast]; kernel_rfl
theorem by_idx : typeLookup (.type "bytes") "__index__" = pure none := by rw [typeLookup_type, builtinLookup_eq_fast]; kernel_rfl
theorem by_trunc : typeLookup (.type "bytes") "__trunc__" = pure none := by rw [typeLookup_type, builtinLookup_eq_fast]; kernel_rfl
structure Hid2 (p : Prop) : Prop where
  out : p
theorem gives_bytes_int {b : Array UInt8} {x : PySem.Str} {u : Tok} {n : Int} (hb : b.toList.map (·.toNat) = numTextOf x) (hl : x.length ≤ 640) (hn : PySem.intText? x = some n) : Gives (Builtin.«int.__new__» ⟨[.type "int", .bytes b u], []⟩) (.int n) :=
  .of_wp fun M A E s Q h => by
    obtain ⟨hp, g, d, tk, os⟩ := s
    have f1 := PySem.F.conv_sub_int
    have f2 := PySem.F.madeHere_int
    have f3 := by_int
    have f4 := by_idx
    have f5 := by_trunc
    have f6 : typeOf (.bytes b u) = pure (.type "bytes") := rfl
    have hs : (numSeenOf x).length ≤ 640 := Nat.le_trans (seen_length x) hl
    have hr : (int_private% "readNumeral") 0 10 (numSeenOf x) = (int_private% "Numeral.value") n ∧ ((numSeenOf x).length == (numTextOf x).length) = true := by
      rcases read0 x hs with ⟨m, h1, h2, h3⟩ | ⟨h1, _⟩
      · rw [hn] at h1
        injection h1 with h1
        subst h1
        exact ⟨h3, h2⟩
      · rw [hn] at h1
        cases h1
    have hk := Hid2.mk (And.intro hs hr)
    have hseen : (b.toList.map (·.toNat)).takeWhile (· != 0) = numSeenOf x := by rw [hb]
    have hk2 := Hid2.mk (And.intro hseen hb)
    clear hs hr hl hn hb hseen
    have hs := hk.out.1
    have hr := hk.out.2.1
    have ha := hk.out.2.2
    rw [← hk2.out.1] at hs hr
    rw [← hk2.out.1, ← hk2.out.2] at ha
    have hs' := Hid2.mk hs
    have hr' := Hid2.mk hr
    have ha' := Hid2.mk ha
    clear hs hr ha hk hk2
    repeat (any_goals (first
      | assumption
      | (with_reducible refine wpAny_ite_true (decide_eq_true hs'.out) ?_)
      | (with_reducible refine wpAny_ite_true (decide_eq_true ha'.out) ?_)
      | wp_step))
    all_goals try dsimp only
    rw [hr'.out]
    try dsimp only
    repeat (any_goals (first
      | assumption
      | (with_reducible refine wpAny_ite_true (decide_eq_true ha'.out) ?_)
      | wp_step))
    all_goals first | exact ⟨_, rfl, h⟩ | skip
theorem int_bytes {prog : Program} {w : World} {A : Around} {E : Value → Shared → Prop} {s : Shared} {Q : Value → Shared → Prop} {b : Array UInt8} {t : Tok} {n : Int} (h0 : 0 ≤ n) (h1 : n < 10 ^ 10) (hb : b.toList.map (·.toNat) = (PySem.Str.ofString (toString n)).cps.toList) (h : Q (.int n s.toks) { s with toks := s.toks + 1 }) : wpAny (model prog w) A (call (.type "int") [.bytes b t]) Q E s :=
  call_int_1 (gives_bytes_int (x := PySem.Str.ofString (toString n)) (hb.trans (numText_signs (int_signs n)).1.symm) (Nat.le_trans (KT.len_num h0 h1) (by decide)) (KIN.num_reads h0 h1)).meets (show (Made.int n).post _ s from ⟨rfl, h⟩)

theorem len_ints {prog : Program} {w : World} {A : Around} {E : Value → Shared → Prop} {s : Shared} {h₀ : Heap} {L c : Addr} {news : Led} {vs : List Value} {ns : List Int} {n : Nat} {Q : Value → Shared → Prop} (hi : PyProof.Rows.IntsAre vs ns) (N : News h₀ L s.heap news) (hm : (c, W.listOf vs.toArray n) ∈ news) (hl : ns.length ≤ 100000)
    (h : Q (.int ns.length (s.toks + 1)) { s with toks := s.toks + 1 + 1 }) : wpAny (model prog w) A (call (.builtin "len") [.ref c]) Q E s := by
  have e : vs.toArray.size = ns.length := by simp [hi.length]
  refine PyProof.Rows.len_list (items := vs.toArray) ⟨_, N.get hm, rfl, n, rfl⟩ (by rw [e]; omega) ?_
  rw [e]; exact h
theorem item_ints {prog : Program} {w : World} {A : Around} {E : Value → Shared → Prop} {s : Shared} {h₀ : Heap} {L c : Addr} {news : Led} {vs : List Value} {ns : List Int} {n : Nat} {k : Int} {u : Tok} {value slice : PySem.Expr} {Q : Value → Shared → Prop} (hi : PyProof.Rows.IntsAre vs ns) (N : News h₀ L s.heap news) (hm : (c, W.listOf vs.toArray n) ∈ news) (h0 : 0 ≤ k) (h1 : k < ns.length) (hl : ns.length ≤ 100000)
    (h : ∀ n t, n ∈ ns → Q (.int n t) s)
    (hs : subscripted slice false (.ref c) (.int k u) = operate [.ref c, .int k u] (getItem (.ref c) (.int k u)) := by with_unfolding_all rfl) : wpAny (model prog w) A (subscriptTail value slice (.ref c) (.int k u)) Q E s := by
  have hlt : k.toNat < ns.length := by omega
  obtain ⟨t, ht⟩ := hi.get k.toNat ns[k.toNat] (by simp [hlt])
  have hL : s.heap.IsList c vs.toArray := ⟨_, N.get hm, rfl, n, rfl⟩
  exact PyProof.Rows.tail_any hL.typeIs slot_list_getitem.lookup (wpAny_getItem_list hL h0 (by omega) (by simpa using ht) (h _ t (List.getElem_mem _))) hs
theorem ln_C1_1 : True := by
  (k_with "call builtin:len cons nil" => (k_here; k_dflt (refine' len_ints ?zhi ?zhN ?zhm ?zhl ?_; (case zhi => assumption); (case zhN => k_asm); (case zhm => k_mem); (case zhl => omega))))
  trivial
theorem ln_C1_2 : True := by
  (k_with "subscriptTail" => (k_here; k_dflt (refine' item_ints ?zhi ?zhN ?zhm ?zh0 ?zh1 ?zhl ?_; (case zhi => assumption); (case zhN => k_asm); (case zhm => k_mem); (case zh0 => omega); (case zh1 => omega); (case zhl => omega); intro n9 t9 m9)))
  trivial
theorem fm_facts (x : Int) {k : Int} (h : 1 ≤ k) : 0 ≤ x.fmod k ∧ x.fmod k < k := by
  rw [Int.fmod_eq_emod_of_nonneg _ (by omega : 0 ≤ k)]
  exact ⟨Int.emod_nonneg _ (by omega), Int.emod_lt_of_pos _ (by omega)⟩
theorem fd_nonneg {x k : Int} (h0 : 0 < x) (h : 1 ≤ k) : 0 ≤ x.fdiv k := by
  rw [Int.fdiv_eq_ediv_of_nonneg _ (by omega : 0 ≤ k)]
  exact Int.ediv_nonneg (by omega) (by omega)
inductive DrawP (c pen : Addr) (p lim : Int) (r : Value) (mu tl : Led) : Prop
  | mk (e : tl = []) (i g' st' : Int) (t t1 t2 t3 : Tok) (n : Nat) (hr : r = .int i t) (h0 : 0 ≤ i) (h1 : i < lim) (h2 : 0 ≤ g') (h3 : 0 ≤ st') (h4 : st' < 2147483647) (hm : mu = [(pen, W.listOf #[.ref c, .int g' t1, .int st' t2, .int (p + 1) t3] n)]) : DrawP c pen p lim r mu tl
theorem draw_d {w : World} {pen c : Addr} {gr st p lim : Int} {t1 t2 t3 tl : Tok} {n nc : Nat} {vs : List Value} {ns : List Int} {rest : Led} (hc : (c, W.listOf vs.toArray nc) ∈ rest) (hi : PyProof.Rows.IntsAre vs ns) (hl : ns.length ≤ 48)
    (hg : 0 ≤ gr) (hs0 : 0 ≤ st) (hs1 : st < 2147483647) (hp0 : 0 ≤ p) (hp1 : p < 100000) (hl0 : 1 ≤ lim) (hl1 : lim ≤ 3000) :
    Does w 560 [.ref pen, .int lim tl] 1 [(pen, W.listOf #[.ref c, .int gr t1, .int st t2, .int p t3] n)] rest (DrawP c pen p lim) := by
  refine' Does.of (binds := [(Str.ofString "pen", .ref pen), (Str.ofString "limit", .int lim tl)]) (al := [(Str.ofString "limit", some (.int lim tl)), (Str.ofString "pen", some (.ref pen))]) ?k6 ?kb ?ks ?k7 ?k9 ?kB ?c5 ?c2 ?c3 ?c4 ?lv ?kal ?_
  (case k6 => k_dflt k_is); (case kb => conv => lhs; whnf); (case ks => conv => lhs; whnf); (case k7 => k_dflt k_is); (case k9 => exact rfl); (case kB => exact locs rfl); (case c5 => decide); (case c2 => exact rfl); (case c3 => exact rfl); (case c4 => exact rfl); (case lv => decide); (case kal => exact rfl)
  intro mean mg mb dp un outer base g L s E F N hap B X T hlt hdp hun
  (try simp only [List.nil_append, List.cons_append] at N hlt)
  k_fold
  have hpen : ∀ p ∈ rest, p.1 ≠ pen := hap _ (List.mem_singleton_self _)
  k_extra "x steps"
  · have hf := fm_facts gr hl0
    have hd := fd_nonneg (by assumption : 0 < gr) hl0
    (rename Fr _ _ _ _ => F8); (rename News _ _ _ _ => N8)
    refine ⟨_, [(_, _)], [], _, _, rfl, F8, N8, rfl, (fun _ _ _ h => nomatch h), rfl, _, _, _, _, _, _, _, _, rfl, ?_, ?_, ?_, ?_, ?_, rfl⟩
    · exact hf.1
    · exact hf.2
    · exact hd
    · exact hs0
    · exact hs1
  · rename_i n9 _ _
    have hf := fm_facts n9 hl0
    have hg := fm_facts (st * 16807 + p * p + 7) (show (1 : Int) ≤ 2147483647 by decide)
    (rename Fr _ _ _ _ => F8); (rename News _ _ _ _ => N8)
    refine ⟨_, [(_, _)], [], _, _, rfl, F8, N8, rfl, (fun _ _ _ h => nomatch h), rfl, _, _, _, _, _, _, _, _, rfl, ?_, ?_, ?_, ?_, ?_, rfl⟩
    · exact hf.1
    · exact hf.2
    · assumption
    · exact hg.1
    · exact hg.2
  · have hf := fm_facts (((st * 16807 + p * p + 7).fmod 2147483647).fdiv 5) hl0
    have hg := fm_facts (st * 16807 + p * p + 7) (show (1 : Int) ≤ 2147483647 by decide)
    (rename Fr _ _ _ _ => F8); (rename News _ _ _ _ => N8)
    refine ⟨_, [(_, _)], [], _, _, rfl, F8, N8, rfl, (fun _ _ _ h => nomatch h), rfl, _, _, _, _, _, _, _, _, rfl, ?_, ?_, ?_, ?_, ?_, rfl⟩
    · exact hf.1
    · exact hf.2
    · assumption
    · exact hg.1
    · exact hg.2

theorem draw_use {w : World} {pen c : Addr} {gr st p lim : Int} {t1 t2 t3 tl : Tok} {n nc : Nat} {vs : List Value} {ns : List Int} {mean : ExcName → Option Value} {mg mb : Str → Option Value} {dp un : Nat} {env : Env} {outer : List Env} {A₀ : Around} {base h₀ : Heap} {L : Addr} {m : Str → Option Value} {hh : Heap} {gs : Array GenState} {dr : Drawn} {tk : Tok} {os : OsState} {Q E : Value → Shared → Prop}
    (pre post : Led) (hc : (c, W.listOf vs.toArray nc) ∈ pre ++ post) (hi : PyProof.Rows.IntsAre vs ns) (hl : ns.length ≤ 48) (hg : 0 ≤ gr) (hs0 : 0 ≤ st) (hs1 : st < 2147483647) (hp0 : 0 ≤ p) (hp1 : p < 100000) (hl0 : 1 ≤ lim) (hl1 : lim ≤ 3000)
    (B : Below A₀ base outer h₀) (F : Fr h₀ L hh m) (X : (Kf w.params).In h₀) (N : News h₀ L hh (pre ++ ([(pen, W.listOf #[.ref c, .int gr t1, .int st t2, .int p t3] n)] ++ post))) (T : Top vw loo mean mg mb h₀)
    (hap : PyProof.Rows.LCg.Off1 pen (pre ++ post)) (hd : dp + 10 * 1 < recursionLimit) (hu : un + 100 * 1 < cLine)
    (ret : ∀ i g' st' t u1 u2 u3 n' h' tk', 0 ≤ i → i < lim → 0 ≤ g' → 0 ≤ st' → st' < 2147483647 → Fr h₀ L h' m → News h₀ L h' ((pen, W.listOf #[.ref c, .int g' u1, .int st' u2, .int (p + 1) u3] n') :: (pre ++ post)) → Q (.int i t) ⟨h', gs, dr, tk', os⟩)
    (hf : env.frame = some L := by rfl) (hke : env.scope.kind = .function := by rfl) :
    wpAny (model prg w) (mkA dp un (env :: outer)) (call (.ref 560) [.ref pen, .int lim tl]) Q E ⟨hh, gs, dr, tk, os⟩ := by
  refine Does.useAt pre post (draw_d hc hi hl hg hs0 hs1 hp0 hp1 hl0 hl1) B F X N T (fun q hq p hp => ?_) hd hu (fun r mu' tl' h' tk' F' N' _ _ P => ?_) hf hke
  · rw [List.mem_singleton.mp hq]; exact off1_mem hap p hp
  · obtain ⟨rfl, i, g', st', t, u1, u2, u3, n', rfl, h0, h1, h2, h3, h4, rfl⟩ := P
    exact ret i g' st' t u1 u2 u3 n' h' tk' h0 h1 h2 h3 h4 F' N'

theorem ln_C2 : True := by
  k_with_none
  (k_with "ite" => first | with_reducible refine ite_tt ?_ | with_reducible refine ite_ff ?_)
  (k_with "execs nil" => (with_reducible refine wpAny_execs_nil ?_; (try dsimp only)))
  (k_with "execs cons" => (k_here; k_dflt (refine seqK ?_; (try dsimp only))))
  (k_with "x lia" => ((try clear cc); (try clear c2); (try clear lf); lia))
  (k_with "x n7" => ((rename News _ _ _ _ => N7); exact N7))
  (k_with "x room" => (first | exact room1 (by assumption) (by rfl) | exact room2 (by assumption) (by rfl) | omega))
  (k_with "x unit" => (first | exact unit1 (by assumption) (by rfl) | exact unit2 (by assumption) (by rfl) | omega))
  (k_with "x got" => ((first | ((with_reducible intro r9 h9 tk9 F9 N9 P9); (first | (obtain ⟨t9, e9⟩ := P9; subst e9) | (subst P9) | skip)) | (with_reducible intro t9 h9 tk9 F9 N9) | (with_reducible intro h9 tk9 F9 N9)); (try k_sweep)))
  (k_with "x one" => (first | (k_unfold; (try dsimp only)) | walk1 | (dsimp only; walk1)))
  (k_with "x g" => ((fail_if_success plain_pass); k_here))
  (k_with "x k" => (k_asm; k_extra "x n7"; k_extra "x ix"))
  (k_with "x c" => (k_extra "x k"; k_extra "x ev"; k_extra "x ev"))
  (k_with "x if" => (k_dflt (k_here; (with_reducible show wpAny _ _ (execs (Stmt.If (PySem.Expr.Compare (PySem.Expr.Name _ _) [CmpOp.Eq] [PySem.Expr.Constant (Const.str _) _ _] _) _ _ _ :: _) _) _ _ _); first | (apply xif_f; k_extra "x c"; exact rfl) | (apply xif_t; k_extra "x c"; exact rfl))))
  (k_with "x stmt" => ((first | k_extra "x if" | refine seqK ?_ | refine wpAny_execs_cons ?_); (repeat' ((fail_if_success (with_reducible refine mark_execs ?_)); k_extra "x one"))))
  (k_with "x steps" => (repeat' k_extra "x one"))
  (k_with "x ix" => (first | exact isX1 rfl | exact isX2 rfl | exact isX3 rfl))
  (k_with "x ev" => (first | exact Ev.str | exact Ev.int | exact Ev.none | exact Ev.bool | (apply Ev.name; exact rfl; exact rfl; exact rfl) | (apply Ev.cell; exact rfl; exact rfl; exact rfl; (first | k_mem | (repeat (first | exact List.mem_cons_self .. | refine List.mem_cons_of_mem _ ?_))); k_asm)))
  (k_with "x evs" => (focus ((repeat' (first | exact Evs.nil | apply Evs.int | (apply Evs.name; exact rfl; exact rfl; exact rfl) | (apply Evs.cell; exact rfl; exact rfl; exact rfl; (first | k_mem | (repeat (first | exact List.mem_cons_self .. | refine List.mem_cons_of_mem _ ?_))); k_asm) | exact Ev.str | exact Ev.none | exact Ev.bool | apply Evs.cons)); done)))
  (k_with "execs cons If" => ((fail_if_success plain_pass); k_extra "x if"))
  (k_with "isTrue Compare" => (k_extra "x g"; (with_reducible show wpAny _ _ (PySem.isTrue (PySem.Expr.Compare _ [_] [_] _) _ _) _ _ _); k_dflt (first | ((with_reducible show wpAny _ _ (PySem.isTrue (PySem.Expr.Compare _ [CmpOp.Eq] [_] _) _ _) _ _ _); apply ist_strL; k_extra "x c") | (apply ist_int; k_extra "x c"; exact rfl))))
  (k_with "eval Call Name" => (k_extra "x g"; k_dflt (first | (apply call_ev; exact rfl; exact rfl; exact rfl; k_extra "x k"; k_extra "x evs"; k_asm; k_asm; k_is; k_is) | (apply bcall_ev; exact rfl; exact rfl; exact rfl; exact rfl; k_extra "x k"; k_extra "x evs"; k_asm; k_asm; k_is; boot_fast; decide))))
  (k_with "callWith" => (k_extra "x g"; k_dflt (apply meth_ev; exact rfl; k_extra "x k"; k_extra "x evs")))
  (k_with "spliced" => (k_extra "x g"; k_dflt (apply args_ev; exact rfl; k_extra "x k"; k_extra "x evs")))
  (k_with "eval Attribute Name" => (k_extra "x g"; k_dflt (apply attr_ev; k_extra "x k"; k_extra "x ev")))
  trivial
theorem ia_at {vs : List Value} {ns : List Int} (h : PyProof.Rows.IntsAre vs ns) {i : Nat} {v : Value} (hv : vs[i]? = some v) : ∃ c t, v = .int c t := by
  have hi : i < ns.length := by rw [← h.length]; exact (List.getElem?_eq_some_iff.mp hv).1
  obtain ⟨t, ht⟩ := h.get i _ (List.getElem?_eq_getElem hi)
  exact ⟨_, t, by rw [ht] at hv; exact (Option.some.inj hv).symm⟩
theorem pen_d {w : World} {script : Addr} {items : Array Value} {ks : List Int} {rest : Led} (hi : PyProof.Rows.IntsAre items.toList ks) (hk : ks.length ≤ 63) :
    DoesH (fun h => h.IsList script items) w 553 [.ref script] 1 [] rest (fun r _ tl => Ex11 fun pen c gr st t1 t2 t3 n nc vs ns => An8 (r = .ref pen) (tl = [(pen, W.listOf #[.ref c, .int gr t1, .int st t2, .int 0 t3] n), (c, W.listOf vs nc)]) (c ≠ pen) (PyProof.Rows.IntsAre vs.toList ns) (ns.length ≤ 48) (0 ≤ gr) (0 ≤ st) (st < 2147483647)) := by
  refine' DoesH.of (fun _ _ st x => stays_list st x) (binds := [(Str.ofString "script", .ref script)]) (al := [(Str.ofString "script", some (.ref script))]) ?k6 ?kb ?ks ?k7 ?k9 ?kB ?c5 ?c2 ?c3 ?c4 ?lv ?kal ?_
  (case k6 => k_dflt k_is); (case kb => conv => lhs; whnf); (case ks => conv => lhs; whnf); (case k7 => k_dflt k_is); (case k9 => exact rfl); (case kB => exact locs rfl); (case c5 => decide); (case c2 => exact rfl); (case c3 => exact rfl); (case c4 => exact rfl); (case lv => decide); (case kal => exact rfl)
  intro mean mg mb dp un outer base g L s E H F N hap B X T hlt hdp hun
  (try simp only [List.nil_append, List.cons_append] at N hlt)
  k_fold
  refine seqK ?_
  refine LCg.Assign_ListComp_U (cl := []) F rfl rfl rfl (by decide) rfl (by decide) rfl rfl rfl ?_
  iterate 8 (first | (k_unfold; (try dsimp only)) | walk1 | (dsimp only; walk1))
  rename_i D0 ws h8 F1 N1 l1 hI hC hL
  have hl48 : (ks.take 48).length ≤ 48 := by omega
  refine LCg.CompSrc.ledger rfl F1 N1 (.head _) (by rw [sizeLine_eq]; simp only [List.size_toArray]; rw [hI.length]; omega) fun g9 => ?_
  refine comp_rule (fun i ys nw => nw = (D0, W.listOf ws.toArray 0) :: rest ∧ PyProof.Rows.IntsAre ys ((ks.take 48).take i)) ⟨rfl, .nil⟩ (fun ys nw hj => ?_) (fun i v I oI C oC D m₂ h tk E' ys nw hi9 hP hj hC9 hv F1 N1 off ne => ?_)
  rotate_left
  · have hit : (ks.take 48)[i]? ≠ none := by
      intro e
      have := List.getElem?_eq_none_iff.mp e
      simp only [List.size_toArray] at hi9
      rw [hI.length] at hi9
      omega
    obtain ⟨c, hc⟩ := Option.ne_none_iff_exists'.mp hit
    obtain ⟨t, ht⟩ := hI.get i c hc
    have e9 : v = .int c t := by simp at hP ht; rw [ht] at hP; exact (Option.some.inj hP).symm
    subst e9
    k_extra "x steps"
    exact ⟨_, _, nw, rfl, F1, N1, off, .inr ⟨W.listOf ws.toArray 0, by rw [hj.1]; exact .head _, rfl, _, rfl⟩, hj.1, by rw [take_snoc hc]; exact IA_snoc hj.2⟩
  obtain ⟨rfl, hj⟩ := hj
  have hj : PyProof.Rows.IntsAre ys (ks.take 48) := by
    have e : ws.toArray.size = (ks.take 48).length := by simp only [List.size_toArray]; exact hI.length
    rw [e, List.take_length] at hj; exact hj
  generalize hns : ks.take 48 = ns at hj hl48
  clear hI hC hL hns
  intro D h3 tk F3 N3 o3
  have F4 : Fr g L h3 (lkm [(Str.ofString "cells", some (.ref D)), (Str.ofString "script", some (.ref script))]) := F3
  clear F3 F1 N1
  k_extra "x stmt"
  refine seqK ?_
  refine wpAny_mono (Q := fun fl s' => Halt (fl = .next ∧ ∃ h' tk' gr t', s' = { s with heap := h', toks := tk' } ∧ Fr g L h' (lkm [(Str.ofString "great", some (.int gr t')), (Str.ofString "cells", some (.ref D)), (Str.ofString "script", some (.ref script))]) ∧ News g L h' ((D, LCg.lst ys) :: rest) ∧ 0 ≤ gr)) ?_ (fun fl s' hq => ?_) (fun _ _ e => e)
  · k_extra "x steps"
    · ((rename Fr g L _ _ => F7); (rename News g L _ _ => N8); (have F8 := Fr_norm (al := [(_, _), (_, _), (_, _), (_, _)]) F7); clear F7)
      have hm := fm_facts ((if ns.getD (Int.toNat 0) 0 < 0 then -ns.getD (Int.toNat 0) 0 else ns.getD (Int.toNat 0) 0).fdiv 2) (show (1 : Int) ≤ 10 ^ Int.toNat 240 by decide +kernel)
      exact ⟨rfl, _, _, _, _, rfl, F8, (fun p hp => N8 p (by grind)), hm.1⟩
    · ((rename Fr g L _ _ => F7); (rename News g L _ _ => N8); (have F8 := Fr_norm (al := [(_, _), (_, _), (_, _)]) F7); clear F7)
      exact ⟨rfl, _, _, _, _, rfl, F8, (fun p hp => N8 p (by grind)), (by decide)⟩
    · ((rename Fr g L _ _ => F7); (rename News g L _ _ => N8); (have F8 := Fr_norm (al := [(_, _), (_, _), (_, _)]) F7); clear F7)
      exact ⟨rfl, _, _, _, _, rfl, F8, (fun p hp => N8 p (by grind)), (by decide)⟩
  · obtain ⟨rfl, h5, tk5, gr, t5, rfl, F5, N5, hgr⟩ := hq
    try dsimp only
    k_extra "x stmt"
    ((rename Fr g L _ _ => F7); (rename News g L _ _ => N8); (have F8 : Fr _ _ _ (lkm [(_, _), (_, _), (_, _), (_, _)]) := F7); clear F7)
    have F9 := Fr_rows [(Str.ofString "state", some (.int 1 _)), (Str.ofString "cell", none), (Str.ofString "great", some (.int gr t5)), (Str.ofString "cells", some (.ref D)), (Str.ofString "script", some (.ref script))] F8 (by repeat' (first | exact rfl | exact trivial | refine And.intro ?_ ?_)) (by repeat' (first | exact rfl | exact trivial | refine And.intro ?_ ?_))
    clear F8
    refine seqK ?_
    refine For_invVF F9 (by rfl) (by rfl) ?_
    refine ld F9 rfl ?_
    refine list_loop (fun i al nx => An2 (nx = (D, LCg.lst ys) :: rest) (Ex3 fun st t o => An3 (0 ≤ st) (st < 2147483647) (al = [(Str.ofString "state", some (.int st t)), (Str.ofString "cell", o), (Str.ofString "great", some (.int gr t5)), (Str.ofString "cells", some (.ref D)), (Str.ofString "script", some (.ref script))]))) F9 N8 (.head _) ⟨rfl, _, _, _, by decide, by decide, rfl⟩ ?_ ?_
    · rintro i v al₁ news₁ h tk own hv ho hm ⟨rfl, st, t, o, hs0, hs1, rfl⟩ F1 N1
      obtain ⟨c, t9, rfl⟩ := ia_at hj hv
      k_extra "x steps"
      ((rename Fr g L _ _ => F7); (rename News g L _ _ => N8); (have F8 := Fr_norm (al := [(_, _), (_, _), (_, _), (_, _), (_, _), (_, _), (_, _)]) F7); clear F7)
      have hm9 := fm_facts (st * 48271 + c.fmod 2147483647 + 12345) (show (1 : Int) ≤ 2147483647 by decide)
      exact ⟨_, _, _, (D, LCg.lst ys) :: rest, rfl, F8, N8, ho, .head _, rfl, _, _, _, hm9.1, hm9.2, rfl⟩
    · rintro al₁ news₁ h tk ⟨rfl, st, t, o, hs0, hs1, rfl⟩ F1 N1
      try dsimp only
      k_extra "x steps"
      rename_i l1
      (rename Fr _ _ _ _ => F8); (rename News _ _ _ _ => N8)
      refine ⟨_, [], [(_, _), (_, _)], _, _, rfl, F8, (fun p hp => N8 p (by simpa using hp)), rfl, ?_, _, _, gr, st, _, _, _, _, _, _, ns, rfl, rfl, Nat.ne_of_lt l1.1, by simpa using hj, hl48, hgr, hs0, hs1⟩
      intro q hq p hp
      rcases List.mem_cons.mp hp with rfl | hp
      · exact allLt_ne l1.2 q hq
      · rw [List.mem_singleton.mp hp]
        exact off1_mem o3 q (.tail _ hq)

inductive PenAt (c pen : Addr) (B : Int) (mu : Led) : Prop
  | mk (gr st p : Int) (t1 t2 t3 : Tok) (n : Nat) (hm : mu = [(pen, W.listOf #[.ref c, .int gr t1, .int st t2, .int p t3] n)]) (h0 : 0 ≤ gr) (h1 : 0 ≤ st) (h2 : st < 2147483647) (h3 : 0 ≤ p) (h4 : p ≤ B) : PenAt c pen B mu
noncomputable def sigs : List (UInt8) := [40, 41, 92, 13, 10, 97, 0, 255]
noncomputable def Lf.ok : Lf → Prop
  | .null => True
  | .truth _ => True
  | .int i => -500 ≤ i ∧ i ≤ 499
  | .real a b => -1000 ≤ a ∧ a ≤ 1000 ∧ 0 ≤ b ∧ b ≤ 3
  | .name x => x ∈ [Str.ofString "A", Str.ofString "Type", Str.ofString "x y", Str.ofString "#4", Str.ofString "(/"]
  | .str o _ => o.size ≤ 4 ∧ ∀ c ∈ o.toList, c ∈ sigs
  | .ref n g => 1 ≤ n ∧ n ≤ 9 ∧ 0 ≤ g ∧ g ≤ 2
theorem item_of {prog : Program} {w : World} {A : Around} {E : Value → Shared → Prop} {s : Shared} {h₀ : Heap} {L c : Addr} {news : Led} {items : Array Value} {n : Nat} {k : Int} {u : Tok} {value slice : PySem.Expr} {Q : Value → Shared → Prop} (N : News h₀ L s.heap news) (hm : (c, W.listOf items n) ∈ news) (h0 : 0 ≤ k) (h1 : k < items.size) (h2 : items.size ≤ 100000)
    (h : ∀ v, items[k.toNat]? = some v → Q v s)
    (hs : subscripted slice false (.ref c) (.int k u) = operate [.ref c, .int k u] (getItem (.ref c) (.int k u)) := by with_unfolding_all rfl) : wpAny (model prog w) A (subscriptTail value slice (.ref c) (.int k u)) Q E s := by
  have hlt : k.toNat < items.size := by omega
  have hL : s.heap.IsList c items := ⟨_, N.get hm, rfl, n, rfl⟩
  exact PyProof.Rows.tail_any hL.typeIs slot_list_getitem.lookup (wpAny_getItem_list hL h0 (by omega) (show items[k.toNat]? = some items[k.toNat] by simp [hlt]) (h _ (by simp [hlt]))) hs
theorem in_of {α : Type} {l : Array α} {i : Nat} {v : α} (h : l[i]? = some v) : v ∈ l.toList := by
  rw [← Array.getElem?_toList] at h; exact List.mem_of_getElem? h
theorem names_item {a b c d e : Str} {t1 t2 t3 t4 t5 : Tok} {i : Nat} {v : Value} (h : (#[.str a t1, .str b t2, .str c t3, .str d t4, .str e t5] : Array Value)[i]? = some v) : ∃ x t, v = .str x t ∧ x ∈ [a, b, c, d, e] := by
  have h := in_of h
  simp only [List.mem_cons, List.not_mem_nil, or_false] at h
  rcases h with rfl | rfl | rfl | rfl | rfl <;> exact ⟨_, _, rfl, by simp⟩
theorem ln_C3_1 : True := by
  (k_with "subscriptTail List cons Call ref int" => (k_here; k_dflt (refine' item_of ?zhN ?zhm ?zh0 ?zh1 ?zh2 ?_; (case zhN => k_asm); (case zhm => repeat (first | exact List.mem_cons_self .. | refine List.mem_cons_of_mem _ ?_)); (case zh0 => omega); (case zh1 => ((simp only [List.size_toArray, List.length_cons, List.length_nil]); omega)); (case zh2 => ((simp only [List.size_toArray, List.length_cons, List.length_nil]); omega)); intro v9 hv9)))
  trivial
theorem ln_C3_2 : True := by
  (k_with "call ref" => (k_here; k_dflt ((first | (refine' draw_use [] _ ?zhc ?zhi ?zhl ?zhg ?zhs0 ?zhs1 ?zhp0 ?zhp1 ?zhl0 ?zhl1 ?zcB ?zcF ?zcX ?zcN ?zcT ?zcA ?zchd ?zchu ?_; (case zcN => k_extra "x n7")) | (refine' draw_use [_] _ ?zhc ?zhi ?zhl ?zhg ?zhs0 ?zhs1 ?zhp0 ?zhp1 ?zhl0 ?zhl1 ?zcB ?zcF ?zcX ?zcN ?zcT ?zcA ?zchd ?zchu ?_; (case zcN => k_extra "x n7")) | (refine' draw_use [_, _] _ ?zhc ?zhi ?zhl ?zhg ?zhs0 ?zhs1 ?zhp0 ?zhp1 ?zhl0 ?zhl1 ?zcB ?zcF ?zcX ?zcN ?zcT ?zcA ?zchd ?zchu ?_; (case zcN => k_extra "x n7")) | (refine' draw_use [_, _, _] _ ?zhc ?zhi ?zhl ?zhg ?zhs0 ?zhs1 ?zhp0 ?zhp1 ?zhl0 ?zhl1 ?zcB ?zcF ?zcX ?zcN ?zcT ?zcA ?zchd ?zchu ?_; (case zcN => k_extra "x n7")) | (refine' draw_use [_, _, _, _] _ ?zhc ?zhi ?zhl ?zhg ?zhs0 ?zhs1 ?zhp0 ?zhp1 ?zhl0 ?zhl1 ?zcB ?zcF ?zcX ?zcN ?zcT ?zcA ?zchd ?zchu ?_; (case zcN => k_extra "x n7"))); (case zcB => assumption); (case zcF => k_asm); (case zcX => assumption); (case zcT => assumption); (case zchd => k_extra "x room"); (case zchu => k_extra "x unit"); (case zhc => ((try simp only [List.nil_append, List.cons_append]); repeat (first | assumption | exact List.mem_append_left _ (by assumption) | exact List.mem_append_right _ (by assumption) | refine List.mem_cons_of_mem _ ?_))); (case zhi => assumption); (case zhl => assumption); (case zhg => omega); (case zhs0 => omega); (case zhs1 => omega); (case zhp0 => omega); (case zhp1 => omega); (case zhl0 => omega); (case zhl1 => omega); (case zcA => ((try simp only [List.nil_append, List.cons_append]); (repeat' (first | (refine off1_of ?_; assumption) | refine And.intro ?_ ?_ | exact trivial | ((show @Ne Nat _ _); omega) | refine off1_app ?_ ?_)))); ((intro i9 g9 s9 ti9 ta9 tb9 tc9 n9 h9 tk9 hi0 hi1 hg0 hs90 hs91 F9 N9); (simp only [List.nil_append, List.cons_append] at N9); (try k_sweep)))))
  trivial
theorem accN_small (z x : Int) (h0 : -1000 ≤ x) (h1 : x ≤ 1000) : ∀ m, -1000 ≤ accN (fun _ (x : Int) => x.fdiv 10) z x m ∧ accN (fun _ (x : Int) => x.fdiv 10) z x m ≤ 1000
  | 0 => ⟨h0, h1⟩
  | m + 1 => by
    have h := accN_small z x h0 h1 m
    have e : accN (fun _ (x : Int) => x.fdiv 10) z x (m + 1) = (accN (fun _ (x : Int) => x.fdiv 10) z x m).fdiv 10 := rfl
    rw [e, Int.fdiv_eq_ediv_of_nonneg _ (by decide)]
    omega
theorem accDown_small {a b k : Int} (h0 : -1000 ≤ b) (h1 : b ≤ 1000) : -1000 ≤ accDown (fun _ (x : Int) => x.fdiv 10) a b k ∧ accDown (fun _ (x : Int) => x.fdiv 10) a b k ≤ 1000 := accN_small _ _ h0 h1 _
noncomputable def sigI : List Int := [40, 41, 92, 13, 10, 97, 0, 255]
theorem sigs_item {a b c d e f g h : Int} {t1 t2 t3 t4 t5 t6 t7 t8 : Tok} {i : Nat} {v : Value} (hh : (#[.int a t1, .int b t2, .int c t3, .int d t4, .int e t5, .int f t6, .int g t7, .int h t8] : Array Value)[i]? = some v) : ∃ x t, v = .int x t ∧ x ∈ [a, b, c, d, e, f, g, h] := by
  have hh := in_of hh
  simp only [List.mem_cons, List.not_mem_nil, or_false] at hh
  rcases hh with rfl | rfl | rfl | rfl | rfl | rfl | rfl | rfl <;> exact ⟨_, _, rfl, by simp⟩
theorem sigI_byte {n : Int} (h : n ∈ sigI) : 0 ≤ n ∧ n < 256 := by
  simp only [sigI, List.mem_cons, List.not_mem_nil, or_false] at h
  omega
theorem news_c3 {g h : Heap} {L : Addr} {a b i c d : Addr × Obj} {r : Led} (N : News g L h (a :: b :: i :: c :: d :: r)) : News g L h (i :: c :: d :: a :: r) := (nC (nH (nT (nT N))) (nC (nH (nT (nT (nT N)))) (nC (nH (nT (nT (nT (nT N))))) (nC (nH N) (nT (nT (nT (nT (nT N)))))))))
theorem sigs_ok {os : List Int} (hos : ∀ x ∈ os, x ∈ sigI) (hl : os.length ≤ 4) (b : Bool) : (Lf.str (byteArr os) b).ok := by
  refine ⟨by rw [byteArr_size]; exact hl, fun c hc => ?_⟩
  simp only [byteArr, List.mem_map] at hc
  obtain ⟨x, hx, rfl⟩ := hc
  have := hos x hx
  simp only [sigI, List.mem_cons, List.not_mem_nil, or_false] at this
  rcases this with rfl | rfl | rfl | rfl | rfl | rfl | rfl | rfl <;> simp [sigs]
noncomputable def drop1 : List Stmt → List Stmt
  | _ :: r => r
  | _ => []
noncomputable def Lf.top : Lf → Prop
  | .ref _ _ => False
  | _ => True
inductive LfP (al : Bool) (tl : Led) (r : Value) : Prop
  | mk (l : Lf) (h : LfIn tl r l) (ok : l.ok) (t : al = true → l.top) : LfP al tl r
theorem obj_leaf {w : World} : BodyOf w 565 fun qual body scope cdv =>
    ∀ (mean : ExcName → Option Value) (mg mb : Str → Option Value) (dp un : Nat) (outer : List Env) (base g : Heap) (L : Addr) (s : Shared) (E : Value → Shared → Prop) (pen c : Addr) (gr st p way dv : Int) (t1 t2 t3 t0 tw : Tok) (n nc : Nat) (vs : List Value) (ns : List Int) (rest : Led) (o1 o2 P0 : Obj) (al : Bool),
      (c, W.listOf vs.toArray nc) ∈ rest → PyProof.Rows.IntsAre vs ns → ns.length ≤ 48 → 0 ≤ gr → 0 ≤ st → st < 2147483647 → 0 ≤ p → p < 50000 →
      Fr g L s.heap (lkm [(Str.ofString "way", some (.int way tw)), (Str.ofString "alone", some (.bool al))]) → News g L s.heap ((pen, W.listOf #[.ref c, .int gr t1, .int st t2, .int (p + 1) t3] n) :: (L + 1 + 1, o1) :: (L + 1, o2) :: rest) →
      o1.data = Data.cell (some (.int dv t0)) → o2.data = Data.cell (some (.ref pen)) → (∀ p ∈ rest, p.1 ≠ pen) → @LT.lt Nat _ pen L → (∀ p ∈ rest, @LT.lt Nat _ p.1 L) → 0 ≤ way → way ≤ 5 →
      Below (mkA dp un outer) base outer g → (Kf w.params).In g → Top vw loo mean mg mb g → dp + 10 * 3 < recursionLimit + 9 → un + 100 * 3 < cLine + 97 → PassesOwn (model prg w) (mkA (dp + 1) (un + 3) (envOfC qual scope L 565 cdv :: outer)) (envOfC qual scope L 565 cdv) E →
      wpAny (model prg w) (mkA (dp + 1) (un + 3) (envOfC qual scope L 565 cdv :: outer)) (execs (drop1 body) (envOfC qual scope L 565 cdv)) (BodyPost g L [(pen, P0)] rest s (fun r mu' tl => An2 (PenAt c pen (p + 9) mu') (LfP al tl r))) E s := by
  refine' BodyOf.of ?k6 ?kb ?ks ?_
  (case k6 => k_dflt k_is); (case kb => conv => lhs; whnf); (case ks => conv => lhs; whnf)
  intro mean mg mb dp un outer base g L s E pen c gr st p way dv t1 t2 t3 t0 tw n nc vs ns rest o1 o2 P0 al hc hi hl hg hs0 hs1 hp0 hp1 F N d1 d2 hpen hpL hlt hw0 hw5 B X T hdp hun hE
  have hq1 : @Ne Nat (L + 1) pen := Nat.ne_of_gt (Nat.lt_succ_of_lt hpL)
  have hq2 : @Ne Nat (L + 1 + 1) pen := Nat.ne_of_gt (Nat.lt_succ_of_lt (Nat.lt_succ_of_lt hpL))
  dsimp only [drop1]
  k_extra "x stmt"
  · k_extra "x stmt"
    ((rename Fr g L _ _ => F8); (rename News g L _ _ => N8))
    exact ⟨_, [(_, _)], [], _, _, rfl, F8, news_ret [] [_] [_, _] _ N8, rfl, (fun _ _ _ h => nomatch h), ⟨_, _, _, _, _, _, _, rfl, by assumption, by assumption, by assumption, by omega, by omega⟩, .int _, .int _ _, (by constructor <;> omega), fun _ => trivial⟩
  k_extra "x stmt"
  · k_extra "x steps"
    rename (#[_, _, _, _, _][_]? = some _) => hv9
    obtain ⟨x, tx, e9, hx⟩ := names_item hv9
    subst e9
    ((rename Fr g L _ _ => F8); (rename News g L _ _ => N8))
    rename _ ∧ _ ∧ _ ∧ _ ∧ AllLt _ rest => l1
    rename _ < _ => l2
    exact ⟨_, [(_, _)], [(_, _), (_, _)], _, _, rfl, F8, news_ret [_, _] [_] [_, _, _] _ N8, rfl, off2 l1.1 l1.2.2.2.2 l2, ⟨_, _, _, _, _, _, _, rfl, by assumption, by assumption, by assumption, by omega, by omega⟩, .name x, .name (.head _) (.tail _ (.head _)), hx, fun _ => trivial⟩
  k_extra "x stmt"
  · refine seqK ?_
    (repeat' ((fail_if_success (with_reducible refine mark_lc ?_)); k_extra "x one"))
    ((rename Fr g L _ _ => F8); (rename News g L _ _ => N8))
    refine LCg.ListComp_U (cl := _) F8 rfl (by decide) rfl (by decide) rfl ?_
    (repeat' ((fail_if_success (with_reducible refine mark_cs ?_)); k_extra "x one"))
    rename IsRange _ _ _ _ _ _ _ _ => hR
    rename_i FR NR hkeep
    refine range_src FR NR hR (by assumption) (by omega) fun g9 => ?_
    refine comp_rule (fun i ys nw => Ex8 fun os q gr st t1 t2 t3 n => An8 (nw = (pen, W.listOf #[.ref c, .int gr t1, .int st t2, .int q t3] n) :: (L + 1 + 1, o1) :: (L + 1, o2) :: rest) (q = p + 2 + (i : Int)) (PyProof.Rows.IntsAre ys os) ((∀ x ∈ os, x ∈ sigI)) (os.length = i) (0 ≤ gr) (0 ≤ st) (st < 2147483647)) ⟨[], _, _, _, _, _, _, _, rfl, by omega, .nil, (fun _ h => nomatch h), rfl, by assumption, by assumption, by assumption⟩ (fun ys nw hj => ?_) (fun i v I oI C oC D m₂ h tk E' ys nw hi9 hP hj hC9 hv F1 N1 off ne => ?_)
    rotate_left
    · obtain ⟨os, q, gr, st, t1, t2, t3, n, rfl, hq, hys, hos, hol, hgr, hst0, hst1⟩ := hj
      have hI : (@Ne Nat pen I ∧ @Ne Nat pen C ∧ @Ne Nat pen D) := off.1
      replace N1 : News g L h ((pen, W.listOf #[.ref c, .int gr t1, .int st t2, .int q t3] n) :: (I, oI) :: (C, oC) :: (D, LCg.lst ys) :: (L + 1 + 1, o1) :: (L + 1, o2) :: rest) := by first | exact news_p4 N1 | exact fun p hp => N1 p (by grind)
      k_extra "x steps"
      rename (#[_, _, _, _, _, _, _, _][_]? = some _) => hv9
      obtain ⟨x, tx, e9, hx⟩ := sigs_item hv9
      subst e9
      ((rename Fr g L _ _ => F8); (rename News g L _ _ => N8))
      exact ⟨_, _, (pen, _) :: (L + 1 + 1, o1) :: (L + 1, o2) :: rest, rfl, F8, news_c3 N8, off, trivial, _, _, _, _, _, _, _, _, rfl, by omega, IA_snoc hys, (fun y hy => (List.mem_append.mp hy).elim (hos y) (fun h => by rw [List.mem_singleton.mp h]; exact hx)), by simp [hol], by assumption, by assumption, by assumption⟩
    obtain ⟨os, q, gr, st, t1, t2, t3, n, rfl, hq, hys, hos, hol, hgr, hst0, hst1⟩ := hj
    intro D h3 tk F3 N3 o3
    replace N3 : News g L h3 ((pen, W.listOf #[.ref c, .int gr t1, .int st t2, .int q t3] n) :: (D, LCg.lst ys) :: (L + 1 + 1, o1) :: (L + 1, o2) :: rest) := fun p hp => N3 p (by
          simp only [List.mem_cons] at hp ⊢
          rcases hp with h | h | h | h | h <;> simp only [h, true_or, or_true])
    refine args_nil ?_
    refine call_bytes_ints ⟨_, N3.get (.tail _ (.head _)), rfl, _, rfl⟩ hys (fun n hn => sigI_byte (hos n hn)) (by rw [hys.length, sizeLine_eq]; omega) rfl fun h4 t4 k4 hk => ?_
    have F4 := F3.keeps hk
    have N4 := N3.grown hk
    clear F3 N3
    have oD : @Ne Nat D pen := fun e => o3.1 e.symm
    k_extra "x steps"
    rename _ ∧ _ ∧ _ ∧ _ ∧ AllLt _ rest => l1
    rename _ < _ => l2
    ((rename Fr g L _ _ => F8); (rename News g L _ _ => N8))
    exact ⟨_, [(_, _)], [(_, _), (_, _)], _, _, rfl, F8, news_ret [_, _] [_] [_, _, _] _ N8, rfl, off2 l1.1 l1.2.2.2.2 l2, ⟨_, _, _, _, _, _, _, rfl, by assumption, by assumption, by assumption, by omega, by omega⟩, .str _ _, .str (.head _) (.tail _ (.head _)), sigs_ok hos (by omega) _, fun _ => trivial⟩
  k_extra "x stmt"
  · k_extra "x steps"
    rename (#[_, _, _][_]? = some _) => hv9
    ((rename Fr g L _ _ => F8); (rename News g L _ _ => N8))
    refine ⟨_, [(_, _)], [], _, _, rfl, F8, news_ret [] [_] [_, _, _] _ N8, rfl, (fun _ _ _ h => nomatch h), ⟨_, _, _, _, _, _, _, rfl, by assumption, by assumption, by assumption, by omega, by omega⟩, ?_⟩
    have hv9 := in_of hv9
    simp only [List.mem_cons, List.not_mem_nil, or_false] at hv9
    rcases hv9 with rfl | rfl | rfl
    · exact ⟨.null, .null, trivial, fun _ => trivial⟩
    · exact ⟨.truth _, .truth _, trivial, fun _ => trivial⟩
    · exact ⟨.truth _, .truth _, trivial, fun _ => trivial⟩
  k_extra "x stmt"
  · k_extra "x steps"
    rename _ ∧ _ ∧ _ ∧ AllLt _ rest => l1
    rename _ < _ => l2
    ((rename Fr g L _ _ => F8); (rename News g L _ _ => N8))
    refine ⟨_, [(_, _)], [(_, _), (_, _)], _, _, rfl, F8, news_ret [_, _] [_] [_, _] _ N8, rfl, off2 l1.1 l1.2.2.2 l2, ⟨_, _, _, _, _, _, _, rfl, by assumption, by assumption, by assumption, by omega, by omega⟩, .real _ _, .real (.head _) (.tail _ (.head _)), ?_, fun _ => trivial⟩
    refine ⟨(accDown_small (by omega) (by omega)).1, (accDown_small (by omega) (by omega)).2, by omega, by omega⟩
  k_extra "x stmt"
  · cases al with
    | true =>
      k_extra "x steps"
      ((rename Fr g L _ _ => F8); (rename News g L _ _ => N8))
      exact ⟨_, [(_, _)], [], _, _, rfl, F8, news_ret [] [_] [_, _] _ N8, rfl, (fun _ _ _ h => nomatch h), ⟨_, _, _, _, _, _, _, rfl, by assumption, by assumption, by assumption, by omega, by omega⟩, .int _, .int _ _, (by constructor <;> omega), fun _ => trivial⟩
    | false =>
      k_extra "x steps"
      rename _ ∧ _ ∧ _ ∧ AllLt _ rest => l1
      rename _ < _ => l2
      ((rename Fr g L _ _ => F8); (rename News g L _ _ => N8))
      refine ⟨_, [(_, _)], [(_, _), (_, _)], _, _, rfl, F8, news_ret [_, _] [_] [_, _] _ N8, rfl, off2 l1.1 l1.2.2.2 l2, ⟨_, _, _, _, _, _, _, rfl, by assumption, by assumption, by assumption, by omega, by omega⟩, .ref _ _, .ref (.head _) (.tail _ (.head _)), ?_, fun h => nomatch h⟩
      refine ⟨?_, ?_, ?_, ?_⟩ <;> omega
  all_goals (exfalso; omega)
theorem PenAt.up {c pen : Addr} {B B' : Int} {mu : Led} (h : PenAt c pen B mu) (hb : B ≤ B') : PenAt c pen B' mu := by
  obtain ⟨gr, st, p, t1, t2, t3, n, e, a, b, d, f, k⟩ := h
  exact ⟨gr, st, p, t1, t2, t3, n, e, a, b, d, f, Int.le_trans k hb⟩
theorem obj0_d {w : World} {pen c : Addr} {gr st p : Int} {t1 t2 t3 t0 : Tok} {n nc : Nat} {vs : List Value} {ns : List Int} {rest : Led} (hc : (c, W.listOf vs.toArray nc) ∈ rest) (hi : PyProof.Rows.IntsAre vs ns) (hl : ns.length ≤ 48)
    (hg : 0 ≤ gr) (hs0 : 0 ≤ st) (hs1 : st < 2147483647) (hp0 : 0 ≤ p) (hp1 : p < 50000) :
    Does w 565 [.ref pen, .int 0 t0, .bool false] 3 [(pen, W.listOf #[.ref c, .int gr t1, .int st t2, .int p t3] n)] rest (fun r mu' tl => PenAt c pen (p + 9) mu' ∧ ∃ l, LfIn tl r l ∧ l.ok) := by
  refine' BodyOf.fin (obj_leaf (w := w)) ?k6 ?kb ?ks ?_
  (case k6 => k_dflt k_is); (case kb => conv => lhs; whnf); (case ks => conv => lhs; whnf)
  intro lf
  dsimp only [drop1] at lf
  refine' Does.ofC (binds := [(Str.ofString "pen", .ref pen), (Str.ofString "deep", .int 0 t0), (Str.ofString "alone", .bool false)]) (al := [(Str.ofString "alone", some (.bool false))]) (cm := lkm [(Str.ofString "deep", some (.int 0 t0)), (Str.ofString "pen", some (.ref pen))]) ?k6 ?kb ?ks ?k7 ?k9 ?kB ?knd ?c3 ?c4 ?c5 ?lv ?kal ?kcm ?kcf ?_
  (case k6 => k_dflt k_is); (case kb => conv => lhs; whnf); (case ks => conv => lhs; whnf); (case k7 => k_dflt k_is); (case k9 => exact rfl); (case kB => exact rfl); (case knd => decide); (case c3 => exact rfl); (case c4 => exact rfl); (case c5 => exact rfl); (case lv => decide); (case kal => exact fun _ => rfl); (case kcm => exact fun _ => rfl); (case kcf => exact fun _ => rfl)
  intro mean mg mb dp un outer base g L s cells E F N C hap B X T hlt hdp hun
  obtain ⟨o1, o2, hcells, d1, d2⟩ := CellsAre.two C; subst hcells; clear C
  (try simp only [List.nil_append, List.cons_append] at N hlt)
  k_fold
  ((first | replace d1 : _ = Data.cell (some _) := d1 | replace d1 : _ = Data.cell none := d1); (first | replace d2 : _ = Data.cell (some _) := d2 | replace d2 : _ = Data.cell none := d2))
  have hpen : ∀ p ∈ rest, p.1 ≠ pen := hap _ (List.mem_singleton_self _)
  have hpL : @LT.lt Nat _ pen L := hlt _ (.head _)
  replace N : News g L s.heap ((pen, W.listOf #[.ref c, .int gr t1, .int st t2, .int p t3] n) :: (L + 1 + 1, o1) :: (L + 1, o2) :: rest) := by first | exact nC (nH (nT (nT N))) (nC (nH N) (nC (nH (nT N)) (nT (nT (nT N))))) | exact fun p hp => N p (by grind)
  k_extra "x stmt"
  ((rename Fr g L _ _ => F7); (rename News g L _ _ => N8); (have F8 := Fr_sel [Str.ofString "way", Str.ofString "alone"] (al := [(_, _), (_, _)]) F7 (by rfl)); clear F7)
  refine wpAny_mono (lf mean mg mb dp un outer base g L _ _ pen c _ _ p _ 0 _ _ _ t0 _ _ nc vs ns rest o1 o2 (W.listOf #[.ref c, .int gr t1, .int st t2, .int p t3] n) false hc hi hl (by assumption) (by assumption) (by assumption) hp0 hp1 F8 N8 d1 d2 hpen hpL (fun p hp => hlt p (.tail _ hp)) (by assumption) (by omega) B X T hdp hun PySem.PassesOwn.leaving) (fun fl s' q => ?_) (fun _ _ h => h)
  obtain ⟨m', mu', tl, h', tk', e, F', N', hm, ho, hP, l, h1, h2, h3⟩ := q
  exact ⟨m', mu', tl, h', tk', e, F', N', hm, ho, hP, l, h1, h2⟩

theorem ln_C4 : True := by
  k_with_none
  (k_with "ite" => first | with_reducible refine ite_tt ?_ | with_reducible refine ite_ff ?_)
  (k_with "execs nil" => (with_reducible refine wpAny_execs_nil ?_; (try dsimp only)))
  (k_with "execs cons" => (k_here; k_dflt (refine seqK ?_; (try dsimp only))))
  (k_with "x lia" => ((try clear cc); (try clear c2); (try clear lf); lia))
  (k_with "x n7" => ((rename News _ _ _ _ => N7); exact N7))
  (k_with "x room" => (first | exact room1 (by assumption) (by rfl) | exact room2 (by assumption) (by rfl) | omega))
  (k_with "x unit" => (first | exact unit1 (by assumption) (by rfl) | exact unit2 (by assumption) (by rfl) | omega))
  (k_with "x got" => ((first | ((with_reducible intro r9 h9 tk9 F9 N9 P9); (first | (obtain ⟨t9, e9⟩ := P9; subst e9) | (subst P9) | skip)) | (with_reducible intro t9 h9 tk9 F9 N9) | (with_reducible intro h9 tk9 F9 N9)); (try k_sweep)))
  (k_with "x one" => (first | (k_unfold; (try dsimp only)) | walk1 | (dsimp only; walk1)))
  (k_with "x g" => ((fail_if_success plain_pass); k_here))
  (k_with "x k" => (k_asm; k_extra "x n7"; k_extra "x ix"))
  (k_with "x c" => (k_extra "x k"; k_extra "x ev"; k_extra "x ev"))
  (k_with "x if" => (k_dflt (k_here; (with_reducible show wpAny _ _ (execs (Stmt.If (PySem.Expr.Compare (PySem.Expr.Name _ _) [CmpOp.Eq] [PySem.Expr.Constant (Const.str _) _ _] _) _ _ _ :: _) _) _ _ _); first | (apply xif_f; k_extra "x c"; exact rfl) | (apply xif_t; k_extra "x c"; exact rfl))))
  (k_with "x stmt" => ((first | k_extra "x if" | refine seqK ?_ | refine wpAny_execs_cons ?_); (repeat' ((fail_if_success (with_reducible refine mark_execs ?_)); k_extra "x one"))))
  (k_with "x steps" => (repeat' k_extra "x one"))
  (k_with "x ix" => (first | exact isX1 rfl | exact isX2 rfl | exact isX3 rfl))
  (k_with "x ev" => (first | exact Ev.str | exact Ev.int | exact Ev.none | exact Ev.bool | (apply Ev.name; exact rfl; exact rfl; exact rfl) | (apply Ev.cell; exact rfl; exact rfl; exact rfl; (first | k_mem | (repeat (first | exact List.mem_cons_self .. | refine List.mem_cons_of_mem _ ?_))); k_asm)))
  (k_with "x evs" => (focus ((repeat' (first | exact Evs.nil | apply Evs.int | (apply Evs.name; exact rfl; exact rfl; exact rfl) | (apply Evs.cell; exact rfl; exact rfl; exact rfl; (first | k_mem | (repeat (first | exact List.mem_cons_self .. | refine List.mem_cons_of_mem _ ?_))); k_asm) | exact Ev.str | exact Ev.none | exact Ev.bool | apply Evs.cons)); done)))
  (k_with "execs cons If" => ((fail_if_success plain_pass); k_extra "x if"))
  (k_with "isTrue Compare" => (k_extra "x g"; (with_reducible show wpAny _ _ (PySem.isTrue (PySem.Expr.Compare _ [_] [_] _) _ _) _ _ _); k_dflt (first | ((with_reducible show wpAny _ _ (PySem.isTrue (PySem.Expr.Compare _ [CmpOp.Eq] [_] _) _ _) _ _ _); apply ist_strL; k_extra "x c") | (apply ist_int; k_extra "x c"; exact rfl))))
  (k_with "eval Call Name" => (k_extra "x g"; k_dflt (first | (apply call_ev; exact rfl; exact rfl; exact rfl; k_extra "x k"; k_extra "x evs"; k_asm; k_asm; k_is; k_is) | (apply bcall_ev; exact rfl; exact rfl; exact rfl; exact rfl; k_extra "x k"; k_extra "x evs"; k_asm; k_asm; k_is; boot_fast; decide))))
  (k_with "callWith" => (k_extra "x g"; k_dflt (apply meth_ev; exact rfl; k_extra "x k"; k_extra "x evs")))
  (k_with "spliced" => (k_extra "x g"; k_dflt (apply args_ev; exact rfl; k_extra "x k"; k_extra "x evs")))
  (k_with "eval Attribute Name" => (k_extra "x g"; k_dflt (apply attr_ev; k_extra "x k"; k_extra "x ev")))
  (k_with "x ho" => ((try simp only [List.nil_append, List.cons_append]); (repeat' (first | (refine off1_of ?_; assumption) | (refine off1_lt ?_; assumption) | (refine off1_all ?_; assumption) | refine And.intro ?_ ?_ | exact trivial | ((show @Ne Nat _ _); omega) | refine off1_app ?_ ?_))))
  (k_with "x hz" => ((try simp only [Array.size_push, List.size_toArray, List.length_cons, List.length_nil, List.length_append]); omega))
  (k_with "x hm" => (repeat (first | exact List.mem_cons_self .. | exact List.mem_append_left _ (by assumption) | refine List.mem_cons_of_mem _ ?_)))
  (k_with "call builtin:list.append" => (k_here; k_dflt ((rename News _ _ _ _ => N7); (first | (refine' append_at [] _ ?zcF N7 ?zho ?zhz ?_) | (refine' append_at [_] _ ?zcF N7 ?zho ?zhz ?_) | (refine' append_at [_, _] _ ?zcF N7 ?zho ?zhz ?_) | (refine' append_at [_, _, _] _ ?zcF N7 ?zho ?zhz ?_)); (case zcF => k_asm); (case zho => k_extra "x ho"); (case zhz => k_extra "x hz"); ((intro h9 F9 N9); (try simp only [List.nil_append, List.cons_append] at N9); (try k_sweep)))))
  (k_with "call builtin:list.extend" => (k_here; k_dflt ((rename News _ _ _ _ => N7); (first | (refine' extend_at [] _ ?zcF N7 ?zhb ?zho ?zhne ?zhz ?_) | (refine' extend_at [_] _ ?zcF N7 ?zhb ?zho ?zhne ?zhz ?_) | (refine' extend_at [_, _] _ ?zcF N7 ?zhb ?zho ?zhne ?zhz ?_) | (refine' extend_at [_, _, _] _ ?zcF N7 ?zhb ?zho ?zhne ?zhz ?_)); (case zcF => k_asm); (case zhb => k_extra "x hm"); (case zho => k_extra "x ho"); (case zhne => k_extra "x hz"); (case zhz => k_extra "x hz"); ((intro h9 F9 N9); (try simp only [List.nil_append, List.cons_append] at N9); (try k_sweep)))))
  trivial
noncomputable def Dt.ok : Dt → Prop
  | .leaf l => l.ok ∧ l.top
  | .arr ls => ls.length ≤ 3 ∧ ∀ l ∈ ls, l.ok
  | .dict ps => (∃ k, k ≤ 3 ∧ ps.map (·.1) = [Str.ofString "A", Str.ofString "Key", Str.ofString "x y"].take k) ∧ ∀ p ∈ ps, p.2.ok
theorem ln_C4_1 : True := by
  (k_with "subscriptTail List cons Call ref int" => (k_here; k_dflt (refine' item_of ?zhN ?zhm ?zh0 ?zh1 ?zh2 ?_; (case zhN => k_asm); (case zhm => repeat (first | exact List.mem_cons_self .. | refine List.mem_cons_of_mem _ ?_)); (case zh0 => omega); (case zh1 => ((simp only [List.size_toArray, List.length_cons, List.length_nil]); omega)); (case zh2 => ((simp only [List.size_toArray, List.length_cons, List.length_nil]); omega)); intro v9 hv9)))
  trivial
theorem ln_C4_2 : True := by
  (k_with "call ref" => (k_here; k_dflt ((first | (refine' Does.useAt [] _ (obj0_d ?zhc ?zhi ?zhl ?zhg ?zhs0 ?zhs1 ?zhp0 ?zhp1) ?zcB ?zcF ?zcX ?zcN ?zcT ?zcA ?zchd ?zchu ?_; (case zcN => k_extra "x n7")) | (refine' Does.useAt [_] _ (obj0_d ?zhc ?zhi ?zhl ?zhg ?zhs0 ?zhs1 ?zhp0 ?zhp1) ?zcB ?zcF ?zcX ?zcN ?zcT ?zcA ?zchd ?zchu ?_; (case zcN => k_extra "x n7")) | (refine' Does.useAt [_, _] _ (obj0_d ?zhc ?zhi ?zhl ?zhg ?zhs0 ?zhs1 ?zhp0 ?zhp1) ?zcB ?zcF ?zcX ?zcN ?zcT ?zcA ?zchd ?zchu ?_; (case zcN => k_extra "x n7")) | (refine' Does.useAt [_, _, _] _ (obj0_d ?zhc ?zhi ?zhl ?zhg ?zhs0 ?zhs1 ?zhp0 ?zhp1) ?zcB ?zcF ?zcX ?zcN ?zcT ?zcA ?zchd ?zchu ?_; (case zcN => k_extra "x n7")) | (refine' Does.useAt [_, _, _, _] _ (obj0_d ?zhc ?zhi ?zhl ?zhg ?zhs0 ?zhs1 ?zhp0 ?zhp1) ?zcB ?zcF ?zcX ?zcN ?zcT ?zcA ?zchd ?zchu ?_; (case zcN => k_extra "x n7"))); (case zcB => assumption); (case zcF => k_asm); (case zcX => assumption); (case zcT => assumption); (case zchd => k_extra "x room"); (case zchu => k_extra "x unit"); (case zhc => ((try simp only [List.nil_append, List.cons_append]); repeat (first | assumption | exact List.mem_append_left _ (by assumption) | exact List.mem_append_right _ (by assumption) | refine List.mem_cons_of_mem _ ?_))); (case zhi => assumption); (case zhl => assumption); (case zhg => omega); (case zhs0 => omega); (case zhs1 => omega); (case zhp0 => omega); (case zhp1 => omega); (case zcA => (first | (intro q9 hq9; exact absurd hq9 List.not_mem_nil) | (refine apart1 ?_; (try simp only [List.nil_append, List.cons_append]); (repeat' (first | (refine off1_of ?_; assumption) | refine And.intro ?_ ?_ | exact trivial | ((show @Ne Nat _ _); omega) | refine off1_app ?_ ?_))))); ((intro r9 mu9 tl9 h9 tk9 F9 N9 e9 o9 P9); (obtain ⟨⟨g9, s9, p9, ta9, tb9, tc9, n9, z0, hg9, hs90, hs91, hp90, hp91⟩, l9, hl9, hok9⟩ := P9); (subst z0); (simp only [List.nil_append, List.cons_append] at N9 o9); (try k_sweep); skip))))
  trivial
theorem ln_C4_3 : True := by
  (k_with "call ref" => (k_here; k_dflt ((first | (refine' draw_use [] _ ?zhc ?zhi ?zhl ?zhg ?zhs0 ?zhs1 ?zhp0 ?zhp1 ?zhl0 ?zhl1 ?zcB ?zcF ?zcX ?zcN ?zcT ?zcA ?zchd ?zchu ?_; (case zcN => k_extra "x n7")) | (refine' draw_use [_] _ ?zhc ?zhi ?zhl ?zhg ?zhs0 ?zhs1 ?zhp0 ?zhp1 ?zhl0 ?zhl1 ?zcB ?zcF ?zcX ?zcN ?zcT ?zcA ?zchd ?zchu ?_; (case zcN => k_extra "x n7")) | (refine' draw_use [_, _] _ ?zhc ?zhi ?zhl ?zhg ?zhs0 ?zhs1 ?zhp0 ?zhp1 ?zhl0 ?zhl1 ?zcB ?zcF ?zcX ?zcN ?zcT ?zcA ?zchd ?zchu ?_; (case zcN => k_extra "x n7")) | (refine' draw_use [_, _, _] _ ?zhc ?zhi ?zhl ?zhg ?zhs0 ?zhs1 ?zhp0 ?zhp1 ?zhl0 ?zhl1 ?zcB ?zcF ?zcX ?zcN ?zcT ?zcA ?zchd ?zchu ?_; (case zcN => k_extra "x n7")) | (refine' draw_use [_, _, _, _] _ ?zhc ?zhi ?zhl ?zhg ?zhs0 ?zhs1 ?zhp0 ?zhp1 ?zhl0 ?zhl1 ?zcB ?zcF ?zcX ?zcN ?zcT ?zcA ?zchd ?zchu ?_; (case zcN => k_extra "x n7"))); (case zcB => assumption); (case zcF => k_asm); (case zcX => assumption); (case zcT => assumption); (case zchd => k_extra "x room"); (case zchu => k_extra "x unit"); (case zhc => ((try simp only [List.nil_append, List.cons_append]); repeat (first | assumption | exact List.mem_append_left _ (by assumption) | exact List.mem_append_right _ (by assumption) | refine List.mem_cons_of_mem _ ?_))); (case zhi => assumption); (case zhl => assumption); (case zhg => omega); (case zhs0 => omega); (case zhs1 => omega); (case zhp0 => omega); (case zhp1 => omega); (case zhl0 => omega); (case zhl1 => omega); (case zcA => ((try simp only [List.nil_append, List.cons_append]); (repeat' (first | (refine off1_of ?_; assumption) | refine And.intro ?_ ?_ | exact trivial | ((show @Ne Nat _ _); omega) | refine off1_app ?_ ?_)))); ((intro i9 g9 s9 ti9 ta9 tb9 tc9 n9 h9 tk9 hi0 hi1 hg0 hs90 hs91 F9 N9); (simp only [List.nil_append, List.cons_append] at N9); (try k_sweep)))))
  trivial
theorem obj1_d {w : World} {pen c : Addr} {gr st p : Int} {t1 t2 t3 t0 : Tok} {n nc : Nat} {vs : List Value} {ns : List Int} {rest : Led} (hc : (c, W.listOf vs.toArray nc) ∈ rest) (hi : PyProof.Rows.IntsAre vs ns) (hl : ns.length ≤ 48)
    (hg : 0 ≤ gr) (hs0 : 0 ≤ st) (hs1 : st < 2147483647) (hp0 : 0 ≤ p) (hp1 : p < 40000) :
    Does w 565 [.ref pen, .int 1 t0, .bool true] 6 [(pen, W.listOf #[.ref c, .int gr t1, .int st t2, .int p t3] n)] rest (fun r mu' tl => PenAt c pen (p + 60) mu' ∧ ∃ d, DtIn w tl r d ∧ d.ok) := by
  refine' BodyOf.fin (obj_leaf (w := w)) ?k6 ?kb ?ks ?_
  (case k6 => k_dflt k_is); (case kb => conv => lhs; whnf); (case ks => conv => lhs; whnf)
  intro lf
  dsimp only [drop1] at lf
  refine' Does.ofC (binds := [(Str.ofString "pen", .ref pen), (Str.ofString "deep", .int 1 t0), (Str.ofString "alone", .bool true)]) (al := [(Str.ofString "alone", some (.bool true))]) (cm := lkm [(Str.ofString "deep", some (.int 1 t0)), (Str.ofString "pen", some (.ref pen))]) ?k6 ?kb ?ks ?k7 ?k9 ?kB ?knd ?c3 ?c4 ?c5 ?lv ?kal ?kcm ?kcf ?_
  (case k6 => k_dflt k_is); (case kb => conv => lhs; whnf); (case ks => conv => lhs; whnf); (case k7 => k_dflt k_is); (case k9 => exact rfl); (case kB => exact rfl); (case knd => decide); (case c3 => exact rfl); (case c4 => exact rfl); (case c5 => exact rfl); (case lv => decide); (case kal => exact fun _ => rfl); (case kcm => exact fun _ => rfl); (case kcf => exact fun _ => rfl)
  intro mean mg mb dp un outer base g L s cells E F N C hap B X T hlt hdp hun
  obtain ⟨o1, o2, hcells, d1, d2⟩ := CellsAre.two C; subst hcells; clear C
  (try simp only [List.nil_append, List.cons_append] at N hlt)
  k_fold
  ((first | replace d1 : _ = Data.cell (some _) := d1 | replace d1 : _ = Data.cell none := d1); (first | replace d2 : _ = Data.cell (some _) := d2 | replace d2 : _ = Data.cell none := d2))
  have hpen : ∀ p ∈ rest, p.1 ≠ pen := hap _ (List.mem_singleton_self _)
  have hpL : @LT.lt Nat _ pen L := hlt _ (.head _)
  replace N : News g L s.heap ((pen, W.listOf #[.ref c, .int gr t1, .int st t2, .int p t3] n) :: (L + 1 + 1, o1) :: (L + 1, o2) :: rest) := by first | exact nC (nH (nT (nT N))) (nC (nH N) (nC (nH (nT N)) (nT (nT (nT N))))) | exact fun p hp => N p (by grind)
  k_extra "x stmt"
  rename _ < (9 : Int) => hi9
  rename (0 : Int) ≤ _ => hs8
  rename News g L _ _ => NW
  by_cases hw : i9 ≤ 5
  · ((rename Fr g L _ _ => F7); (rename News g L _ _ => N8); (have F8 := Fr_sel [Str.ofString "way", Str.ofString "alone"] (al := [(_, _), (_, _)]) F7 (by rfl)); clear F7)
    refine wpAny_mono (lf mean mg mb dp un outer base g L _ _ pen c _ _ p _ 1 _ _ _ t0 _ _ nc vs ns rest o1 o2 (W.listOf #[.ref c, .int gr t1, .int st t2, .int p t3] n) true hc hi hl (by assumption) (by assumption) (by assumption) hp0 (by omega) F8 N8 d1 d2 hpen hpL (fun p hp => hlt p (.tail _ hp)) (by assumption) (by omega) B X T (by omega) (by omega) PySem.PassesOwn.leaving) (fun fl s' q => ?_) (fun _ _ h => h)
    obtain ⟨m', mu', tl, h', tk', e, F', N', hm, ho, hP, l, h1, h2, h3⟩ := q
    exact ⟨m', mu', tl, h', tk', e, F', N', hm, ho, hP.up (by omega), .leaf l, .leaf h1, h2, h3 rfl⟩
  clear lf
  k_extra "x stmt"
  k_extra "x stmt"
  k_extra "x stmt"
  k_extra "x stmt"
  k_extra "x stmt"
  k_extra "x stmt"
  k_extra "x stmt"
  · refine seqK ?_
    (repeat' ((fail_if_success (with_reducible refine mark_lc ?_)); k_extra "x one"))
    ((rename Fr g L _ _ => F8); (rename News g L _ _ => N8))
    refine LCg.ListComp_U (cl := _) F8 rfl (by decide) rfl (by decide) rfl ?_
    (repeat' ((fail_if_success (with_reducible refine mark_cs ?_)); k_extra "x one"))
    rename News g L _ _ => NR
    rename News g L _ ((pen, _) :: _) => N0
    rename Fr g L _ _ => FR
    have hp0 := Heap.lt_size (N0 _ (.head _)).1
    rw [slice3 (by assumption) (by assumption)] at NR
    generalize hks : List.take _ [_, _, _] = sl at NR
    have hsl : sl.length ≤ 3 := by rw [← hks, List.length_take]; simp; omega
    obtain ⟨e1, he1, NR⟩ := head_ex NR
    have he1p : @Ne Nat e1.1 pen := by rw [he1]; exact Nat.ne_of_gt (Nat.lt_succ_of_lt hp0)
    replace NR := news_d NR
    refine LCg.CompSrc.ledger (its := sl.toArray) (k := 0) rfl FR NR (by rw [← he1]; exact .tail _ (.head _)) (by rw [sizeLine_eq, List.size_toArray]; omega) fun g9 => ?_
    refine comp_rule (fun i ys nw => Ex10 fun kvs ps acc q gr st t1 t2 t3 n => An13 (nw = (pen, W.listOf #[.ref c, .int gr t1, .int st t2, .int q t3] n) :: e1 :: (L + 1 + 1, o1) :: (L + 1, o2) :: (acc ++ rest)) (0 ≤ q) (q ≤ p + 2 + 9 * (i : Int)) (All2 (fun v (kv : Str × Value) => ∃ T t n, v = Value.ref T ∧ (T, ({ cls := .type "tuple", data := .seq #[.str kv.1 t, kv.2] n } : Obj)) ∈ acc) ys kvs) (All2 (EntIn acc) kvs ps) (kvs.map (·.1) = [Str.ofString "A", Str.ofString "Key", Str.ofString "x y"].take i) ((∀ x ∈ ps, x.2.ok)) (ys.length = i) ((∀ e ∈ acc, e.1 ≠ pen)) ((∀ q ∈ rest, ∀ e ∈ acc, q.1 ≠ e.1)) (0 ≤ gr) (0 ≤ st) (st < 2147483647)) ⟨[], [], [], _, _, _, _, _, _, _, rfl, by omega, by omega, .nil, .nil, rfl, (fun _ h => nomatch h), rfl, (fun _ h => nomatch h), (fun _ _ _ h => nomatch h), by assumption, by assumption, by assumption⟩ (fun ys nw hj => ?_) (fun i v I oI C oC D m₂ h tk E' ys nw hi9 hP hj hC9 hv F1 N1 off ne => ?_)
    rotate_left
    · obtain ⟨kvs, ps, acc, q, gr, st, t1, t2, t3, n, rfl, hq0, hq, hyk, hkp, hkk, hok, hyl, hap, har, hgr, hst0, hst1⟩ := hj
      have hI : (@Ne Nat pen I ∧ @Ne Nat pen C ∧ @Ne Nat pen D) := off.1
      have hi3 : i < 3 := by rw [List.size_toArray] at hi9; omega
      have hc' : (c, W.listOf vs.toArray nc) ∈ acc ++ rest := List.mem_append.mpr (.inr hc)
      replace N1 := news_p4 N1
      have hP' : sl[i]? = some v := by simpa using hP
      rw [← hks] at hP'
      obtain ⟨x, tx, rfl, hx⟩ := keys3 hP'
      k_extra "x steps"
      ((rename Fr g L _ _ => F8); (rename News g L _ _ => N8))
      rename LfIn _ _ _ => hl9
      rename Lf.ok _ => hok9
      rename _ ∧ AllLt _ _ => l1
      rename ∀ q ∈ (pen, _) :: _, ∀ p ∈ _, _ => o9
      obtain ⟨ot1, ot2, ot3⟩ := new_off' [e1, (L + 1 + 1, o1), (L + 1, o2)] o9
      have lT := allLt_mem l1.2
      exact ⟨_, _, (pen, _) :: e1 :: (L + 1 + 1, o1) :: (L + 1, o2) :: ((_ :: (_ ++ acc)) ++ rest), rfl, F8, news_c8 [e1, (L + 1 + 1, o1), (L + 1, o2)] N8,
        off3_ins' (t := _ :: _) [e1, (L + 1 + 1, o1), (L + 1, o2)] off rfl (fun p hp => by
          rcases List.mem_cons.mp hp with rfl | hp
          · exact ⟨(Nat.ne_of_lt (lT (I, oI) (List.mem_append.mpr (.inr (.head _))))).symm, (Nat.ne_of_lt (lT (C, oC) (List.mem_append.mpr (.inr (.tail _ (.head _)))))).symm, (Nat.ne_of_lt (lT (D, LCg.lst ys) (List.mem_append.mpr (.inr (.tail _ (.tail _ (.head _))))))).symm⟩
          · exact ot1 p hp),
        .inr ⟨W.listOf sl.toArray 0, by rw [← he1]; exact .tail _ (.head _), rfl, _, rfl⟩,
        kvs ++ [(x, _)], ps ++ [(x, _)], _ :: (_ ++ acc), _, _, _, _, _, _, _, rfl, by assumption, by omega,
        (hyk.mono fun _ _ ⟨T, t, n, e, m⟩ => ⟨T, t, n, e, .tail _ (List.mem_append.mpr (.inr m))⟩).snoc ⟨_, _, _, rfl, .head _⟩,
        (hkp.mono fun _ _ => EntIn.mono fun _ h => .tail _ (List.mem_append.mpr (.inr h))).snoc ⟨rfl, hl9.mono fun _ h => .tail _ (List.mem_append.mpr (.inl h))⟩,
        by rw [List.map_append, hkk, take_snoc hx]; rfl,
        (fun l hl => (List.mem_append.mp hl).elim (hok l) fun h => by rw [List.mem_singleton.mp h]; exact hok9), by rw [List.length_append, List.length_singleton]; omega,
        (fun e he => by
          rcases List.mem_cons.mp he with rfl | he
          · exact (Nat.ne_of_lt l1.1).symm
          · exact (List.mem_append.mp he).elim (ot2 e) (hap e)),
        (fun q hq e he => by
          rcases List.mem_cons.mp he with rfl | he
          · exact Nat.ne_of_lt (lT q (List.mem_append.mpr (.inr (.tail _ (.tail _ (.tail _ (.tail _ (.tail _ (.tail _ (List.mem_append.mpr (.inr hq)))))))))))
          · exact (List.mem_append.mp he).elim (ot3 q hq e) (har q hq e)), by assumption, by assumption, by assumption⟩
    obtain ⟨kvs, ps, acc, q, gr, st, t1, t2, t3, n, rfl, hq0, hq, hyk, hkp, hkk, hok, hyl, hap, har, hgr, hst0, hst1⟩ := hj
    intro D h3 tk F3 N3 o3
    have hkl : kvs.length ≤ 3 := by
      have := congrArg List.length hkk
      rw [List.length_map, List.length_take] at this
      simp at this; omega
    refine args_nil ?_
    refine dict_pairs_at F3 N3 T.nolimit (.head _) (by omega) (hkk ▸ keys3_nodup _) (hyk.mono fun _ _ ⟨T, t, n, e, m⟩ => ⟨T, t, n, e, .tail _ (.tail _ (.tail _ (.tail _ (.tail _ (List.mem_append.mpr (.inl m))))))⟩) fun h4 tk4 d od F4 N4 hmod hd hlt => ?_
    refine ⟨_, [(pen, W.listOf #[.ref c, .int gr t1, .int st t2, .int q t3] n)], (d, od) :: acc, _, _, rfl, F4, (fun p hp => N4 p (by
      simp only [List.mem_append, List.mem_cons, List.not_mem_nil, or_false] at hp ⊢
      rcases hp with h | (h | h) | h <;> simp only [h, true_or, or_true])), rfl, ?_, ⟨_, _, _, _, _, _, _, rfl, hgr, hst0, hst1, hq0, by rw [List.size_toArray] at hq; omega⟩, .dict ps, .dict (.head _) hmod hd (hkp.mono fun _ _ => EntIn.mono fun _ h => .tail _ h), ⟨sl.toArray.size, by rw [List.size_toArray]; exact hsl, (ents_keys hkp) ▸ hkk⟩, hok⟩
    intro q' hq' e he
    rcases List.mem_append.mp hq' with h | h
    · rw [List.mem_singleton.mp h]
      rcases List.mem_cons.mp he with rfl | he
      · exact Nat.ne_of_lt (show pen < d from hlt (pen, _) (.tail _ (.head _)))
      · exact (hap e he).symm
    · rcases List.mem_cons.mp he with rfl | he
      · exact Nat.ne_of_lt (hlt q' (.tail _ (.tail _ (.tail _ (.tail _ (.tail _ (List.mem_append.mpr (.inr h))))))))
      · exact har q' h e he
  refine seqK ?_
  (repeat' ((fail_if_success (with_reducible refine mark_lc ?_)); k_extra "x one"))
  ((rename Fr g L _ _ => F8); (rename News g L _ _ => N8))
  refine LCg.ListComp_U (cl := _) F8 rfl (by decide) rfl (by decide) rfl ?_
  (repeat' ((fail_if_success (with_reducible refine mark_cs ?_)); k_extra "x one"))
  rename IsRange _ _ _ _ _ _ _ _ => hR
  rename_i FR NR hkeep
  refine range_src FR NR hR (by assumption) (by omega) fun g9 => ?_
  refine comp_rule (fun i ys nw => Ex9 fun ls acc q gr st t1 t2 t3 n => An11 (nw = (pen, W.listOf #[.ref c, .int gr t1, .int st t2, .int q t3] n) :: (L + 1 + 1, o1) :: (L + 1, o2) :: (acc ++ rest)) (0 ≤ q) (q ≤ p + 2 + 9 * (i : Int)) (All2 (LfIn acc) ys ls) ((∀ l ∈ ls, l.ok)) (ys.length = i) ((∀ e ∈ acc, e.1 ≠ pen)) ((∀ q ∈ rest, ∀ e ∈ acc, q.1 ≠ e.1)) (0 ≤ gr) (0 ≤ st) (st < 2147483647)) ⟨[], [], _, _, _, _, _, _, _, rfl, by omega, by omega, .nil, (fun _ h => nomatch h), rfl, (fun _ h => nomatch h), (fun _ _ _ h => nomatch h), by assumption, by assumption, by assumption⟩ (fun ys nw hj => ?_) (fun i v I oI C oC D m₂ h tk E' ys nw hi9 hP hj hC9 hv F1 N1 off ne => ?_)
  rotate_left
  · obtain ⟨ls, acc, q, gr, st, t1, t2, t3, n, rfl, hq0, hq, hys, hls, hyl, hap, har, hgr, hst0, hst1⟩ := hj
    have hI : (@Ne Nat pen I ∧ @Ne Nat pen C ∧ @Ne Nat pen D) := off.1
    have hoff := PyProof.Rows.LCg.Off3.mem off
    have hc' : (c, W.listOf vs.toArray nc) ∈ acc ++ rest := List.mem_append.mpr (.inr hc)
    replace N1 := news_p4 N1
    k_extra "x steps"
    ((rename Fr g L _ _ => F8); (rename News g L _ _ => N8))
    rename LfIn _ _ _ => hl9
    rename Lf.ok _ => hok9
    rename ∀ q ∈ (pen, _) :: _, ∀ p ∈ _, _ => o9
    obtain ⟨ot1, ot2, ot3⟩ := new_off o9
    exact ⟨_, _, (pen, _) :: (L + 1 + 1, o1) :: (L + 1, o2) :: ((_ ++ acc) ++ rest), rfl, F8, news_c6 N8, off3_ins off rfl ot1, trivial, ls ++ [_], _ ++ acc, _, _, _, _, _, _, _, rfl, by assumption, by omega,
      (hys.mono fun _ _ => LfIn.mono fun _ h => List.mem_append.mpr (.inr h)).snoc (hl9.mono fun _ h => List.mem_append.mpr (.inl h)),
      (fun l hl => (List.mem_append.mp hl).elim (hls l) fun h => by rw [List.mem_singleton.mp h]; exact hok9), by rw [List.length_append, List.length_singleton]; omega,
      (fun e he => (List.mem_append.mp he).elim (ot2 e) (hap e)), (fun q hq e he => (List.mem_append.mp he).elim (ot3 q hq e) (har q hq e)), by assumption, by assumption, by assumption⟩
  obtain ⟨ls, acc, q, gr, st, t1, t2, t3, n, rfl, hq0, hq, hys, hls, hyl, hap, har, hgr, hst0, hst1⟩ := hj
  intro D h3 tk F3 N3 o3
  have hm3 := off1_mem o3
  refine ⟨_, [(pen, W.listOf #[.ref c, .int gr t1, .int st t2, .int q t3] n)], (D, LCg.lst ys) :: acc, _, _, rfl, F3, (fun p hp => N3 p (by
      simp only [List.mem_append, List.mem_cons, List.not_mem_nil, or_false] at hp ⊢
      rcases hp with h | (h | h) | h <;> simp only [h, true_or, or_true])), rfl, ?_, ⟨_, _, _, _, _, _, _, rfl, hgr, hst0, hst1, hq0, by omega⟩, .arr ls, .arr (.head _) (hys.mono fun _ _ => LfIn.mono fun _ h => .tail _ h), ?_, hls⟩
  · intro q' hq' e he
    rcases List.mem_append.mp hq' with h | h
    · rw [List.mem_singleton.mp h]
      rcases List.mem_cons.mp he with rfl | he
      · exact o3.1
      · exact (hap e he).symm
    · rcases List.mem_cons.mp he with rfl | he
      · exact hm3 q' (.tail _ (.tail _ (.tail _ (List.mem_append.mpr (.inr h)))))
      · exact har q' h e he
  · rw [← hys.length, hyl]; omega

theorem ln_B4 : True := by
  k_with_none
  (k_with "ite" => first | with_reducible refine ite_tt ?_ | with_reducible refine ite_ff ?_)
  (k_with "execs nil" => (with_reducible refine wpAny_execs_nil ?_; (try dsimp only)))
  (k_with "execs cons" => (k_here; k_dflt (refine seqK ?_; (try dsimp only))))
  (k_with "x lia" => ((try clear cc); (try clear c2); (try clear lf); lia))
  (k_with "x n7" => ((rename News _ _ _ _ => N7); exact N7))
  (k_with "x room" => (first | exact room1 (by assumption) (by rfl) | exact room2 (by assumption) (by rfl) | omega))
  (k_with "x unit" => (first | exact unit1 (by assumption) (by rfl) | exact unit2 (by assumption) (by rfl) | omega))
  (k_with "x got" => ((first | ((with_reducible intro r9 h9 tk9 F9 N9 P9); (first | (obtain ⟨t9, e9⟩ := P9; subst e9) | (subst P9) | skip)) | (with_reducible intro t9 h9 tk9 F9 N9) | (with_reducible intro h9 tk9 F9 N9)); (try k_sweep)))
  (k_with "x one" => (first | (k_unfold; (try dsimp only)) | walk1 | (dsimp only; walk1)))
  (k_with "x g" => ((fail_if_success plain_pass); k_here))
  (k_with "x k" => (k_asm; k_extra "x n7"; k_extra "x ix"))
  (k_with "x c" => (k_extra "x k"; k_extra "x ev"; k_extra "x ev"))
  (k_with "x if" => (k_dflt (k_here; (with_reducible show wpAny _ _ (execs (Stmt.If (PySem.Expr.Compare (PySem.Expr.Name _ _) [CmpOp.Eq] [PySem.Expr.Constant (Const.str _) _ _] _) _ _ _ :: _) _) _ _ _); first | (apply xif_f; k_extra "x c"; exact rfl) | (apply xif_t; k_extra "x c"; exact rfl))))
  (k_with "x stmt" => ((first | k_extra "x if" | refine seqK ?_ | refine wpAny_execs_cons ?_); (repeat' ((fail_if_success (with_reducible refine mark_execs ?_)); k_extra "x one"))))
  (k_with "x steps" => (repeat' k_extra "x one"))
  (k_with "x ix" => (first | exact isX1 rfl | exact isX2 rfl | exact isX3 rfl))
  (k_with "x ev" => (first | exact Ev.str | exact Ev.int | exact Ev.none | exact Ev.bool | (apply Ev.name; exact rfl; exact rfl; exact rfl) | (apply Ev.cell; exact rfl; exact rfl; exact rfl; (first | k_mem | (repeat (first | exact List.mem_cons_self .. | refine List.mem_cons_of_mem _ ?_))); k_asm)))
  (k_with "x evs" => (focus ((repeat' (first | exact Evs.nil | apply Evs.int | (apply Evs.name; exact rfl; exact rfl; exact rfl) | (apply Evs.cell; exact rfl; exact rfl; exact rfl; (first | k_mem | (repeat (first | exact List.mem_cons_self .. | refine List.mem_cons_of_mem _ ?_))); k_asm) | exact Ev.str | exact Ev.none | exact Ev.bool | apply Evs.cons)); done)))
  (k_with "execs cons If" => ((fail_if_success plain_pass); k_extra "x if"))
  (k_with "isTrue Compare" => (k_extra "x g"; (with_reducible show wpAny _ _ (PySem.isTrue (PySem.Expr.Compare _ [_] [_] _) _ _) _ _ _); k_dflt (first | ((with_reducible show wpAny _ _ (PySem.isTrue (PySem.Expr.Compare _ [CmpOp.Eq] [_] _) _ _) _ _ _); apply ist_strL; k_extra "x c") | (apply ist_int; k_extra "x c"; exact rfl))))
  (k_with "eval Call Name" => (k_extra "x g"; k_dflt (first | (apply call_ev; exact rfl; exact rfl; exact rfl; k_extra "x k"; k_extra "x evs"; k_asm; k_asm; k_is; k_is) | (apply bcall_ev; exact rfl; exact rfl; exact rfl; exact rfl; k_extra "x k"; k_extra "x evs"; k_asm; k_asm; k_is; boot_fast; decide))))
  (k_with "callWith" => (k_extra "x g"; k_dflt (apply meth_ev; exact rfl; k_extra "x k"; k_extra "x evs")))
  (k_with "spliced" => (k_extra "x g"; k_dflt (apply args_ev; exact rfl; k_extra "x k"; k_extra "x evs")))
  (k_with "eval Attribute Name" => (k_extra "x g"; k_dflt (apply attr_ev; k_extra "x k"; k_extra "x ev")))
  (k_with "x ho" => ((try simp only [List.nil_append, List.cons_append]); (repeat' (first | (refine off1_of ?_; assumption) | (refine off1_lt ?_; assumption) | (refine off1_all ?_; assumption) | refine And.intro ?_ ?_ | exact trivial | ((show @Ne Nat _ _); omega) | refine off1_app ?_ ?_))))
  (k_with "x hz" => ((try simp only [Array.size_push, List.size_toArray, List.length_cons, List.length_nil, List.length_append]); omega))
  (k_with "x hm" => (repeat (first | exact List.mem_cons_self .. | exact List.mem_append_left _ (by assumption) | refine List.mem_cons_of_mem _ ?_)))
  (k_with "call builtin:list.append" => (k_here; k_dflt ((rename News _ _ _ _ => N7); (first | (refine' append_at [] _ ?zcF N7 ?zho ?zhz ?_) | (refine' append_at [_] _ ?zcF N7 ?zho ?zhz ?_) | (refine' append_at [_, _] _ ?zcF N7 ?zho ?zhz ?_) | (refine' append_at [_, _, _] _ ?zcF N7 ?zho ?zhz ?_)); (case zcF => k_asm); (case zho => k_extra "x ho"); (case zhz => k_extra "x hz"); ((intro h9 F9 N9); (try simp only [List.nil_append, List.cons_append] at N9); (try k_sweep)))))
  (k_with "call builtin:list.extend" => (k_here; k_dflt ((rename News _ _ _ _ => N7); (first | (refine' extend_at [] _ ?zcF N7 ?zhb ?zho ?zhne ?zhz ?_) | (refine' extend_at [_] _ ?zcF N7 ?zhb ?zho ?zhne ?zhz ?_) | (refine' extend_at [_, _] _ ?zcF N7 ?zhb ?zho ?zhne ?zhz ?_) | (refine' extend_at [_, _, _] _ ?zcF N7 ?zhb ?zho ?zhne ?zhz ?_)); (case zcF => k_asm); (case zhb => k_extra "x hm"); (case zho => k_extra "x ho"); (case zhne => k_extra "x hz"); (case zhz => k_extra "x hz"); ((intro h9 F9 N9); (try simp only [List.nil_append, List.cons_append] at N9); (try k_sweep)))))
  trivial
noncomputable def nameEnc (c : Int) : List Int := if c < 33 ∨ 126 < c ∨ c = 35 ∨ regular c = false then [35, (hexd (c.fdiv 16)).toNat, (hexd (c.fmod 16)).toNat] else [c]
noncomputable def nameOct (x : Str) : List Int := 47 :: (codes x).flatMap nameEnc
theorem flat_snoc {l : List Int} {i : Nat} {c : Int} (f : Int → List Int) (h : l[i]? = some c) : (l.take (i + 1)).flatMap f = (l.take i).flatMap f ++ f c := by
  rw [take_snoc h, List.flatMap_append]; simp
theorem name_esc {l : List Int} {i : Nat} {c : Int} {vs : Array Value} {t t1 t2 : Tok} (h : l[i]? = some c) (hc : c < 33 ∨ 126 < c ∨ c = 35 ∨ regular c = false) (hI : PyProof.Rows.IntsAre vs.toList (47 :: (l.take i).flatMap nameEnc)) :
    PyProof.Rows.IntsAre (((vs.push (.int 35 t)).toList ++ (#[.int (hexd (c.fdiv 16)).toNat t1, .int (hexd (c.fmod 16)).toNat t2] : Array Value).toList).toArray).toList (47 :: (l.take (i + 1)).flatMap nameEnc) := by
  rw [flat_snoc nameEnc h]
  have e : nameEnc c = ([35] : List Int) ++ [((hexd (c.fdiv 16)).toNat : Int), ((hexd (c.fmod 16)).toNat : Int)] := by unfold nameEnc; rw [if_pos hc]; rfl
  rw [e, ← List.cons_append, ← List.append_assoc]
  exact IA_ext (IA_push hI) (.cons _ _ (.cons _ _ .nil))
theorem name_raw {l : List Int} {i : Nat} {c : Int} {vs : Array Value} {t : Tok} (h : l[i]? = some c) (h1 : ¬ c < 33) (h2 : ¬ 126 < c) (h3 : c ≠ 35) (h4 : regular c = true) (hI : PyProof.Rows.IntsAre vs.toList (47 :: (l.take i).flatMap nameEnc)) :
    PyProof.Rows.IntsAre (vs.push (.int c t)).toList (47 :: (l.take (i + 1)).flatMap nameEnc) := by
  rw [flat_snoc nameEnc h]
  have e : nameEnc c = [c] := by
    unfold nameEnc; rw [if_neg]
    rintro (h | h | h | h)
    · exact h1 h
    · exact h2 h
    · exact h3 h
    · rw [h4] at h; cases h
  rw [e, ← List.cons_append]
  exact IA_push hI
theorem nameEnc_byte {c : Int} (hc : 0 < c ∧ c < 256) : ∀ n ∈ nameEnc c, 0 ≤ n ∧ n < 256 := by
  intro n hn
  unfold nameEnc at hn
  split at hn
  · have h1 := (hexd (c.fdiv 16)).toNat_lt
    have h2 := (hexd (c.fmod 16)).toNat_lt
    simp only [List.mem_cons, List.not_mem_nil, or_false] at hn
    omega
  · simp only [List.mem_cons, List.not_mem_nil, or_false] at hn
    omega
theorem nameEnc_len (c : Int) : (nameEnc c).length ≤ 3 := by
  unfold nameEnc; split <;> simp
theorem nameOct_byte {x : Str} (hx : ∀ c ∈ codes x, 0 < c ∧ c < 256) : ∀ n ∈ 47 :: (codes x).flatMap nameEnc, 0 ≤ n ∧ n < 256 := by
  intro n hn
  rcases List.mem_cons.mp hn with rfl | hn
  · omega
  · obtain ⟨c, hc, h⟩ := List.mem_flatMap.mp hn
    exact nameEnc_byte (hx c hc) n h
theorem flat_len (f : Int → List Int) (k : Nat) (hf : ∀ c, (f c).length ≤ k) : ∀ l : List Int, (l.flatMap f).length ≤ k * l.length
  | [] => by simp
  | c :: r => by
    have := flat_len f k hf r
    have h2 := hf c
    simp only [List.flatMap_cons, List.length_append, List.length_cons, Nat.mul_add, Nat.mul_one]
    omega
theorem nameOct_len {x : Str} (hz : x.cps.size ≤ 20) : (47 :: (codes x).flatMap nameEnc).length ≤ 100000 := by
  have := flat_len nameEnc 3 nameEnc_len (codes x)
  rw [codes_len] at this
  simp only [List.length_cons]
  omega
theorem ln_B4_1 : True := by
  (k_with "call ref" => (k_here; k_dflt ((first | refine' Does.use0E (is_regular_d ) ?zcB ?zcF ?zcX ?zcN ?zcT ?zchd ?zchu ?_ | refine' Does.use0V (is_regular_d ) ?zcB ?zcF ?zcX ?zcN ?zcT ?zchd ?zchu ?_ | refine' Does.use0 (is_regular_d ) ?zcB ?zcF ?zcX ?zcN ?zcT ?zchd ?zchu ?_); (case zcB => assumption); (case zcF => k_asm); (case zcX => assumption); (case zcN => k_asm); (case zcT => assumption); (case zchd => k_extra "x room"); (case zchu => k_extra "x unit"); (k_extra "x got"))))
  trivial
theorem ln_B4_2 : True := by
  (k_with "call ref" => (k_here; k_dflt ((refine' Does.useT (hex_pair_d ?zh0 ?zh1) ?zcB ?zcF ?zcX ?zcN ?zcT ?zchd ?zchu ?_); (case zcF => k_asm); (case zcN => k_extra "x n7"); (case zcB => assumption); (case zcX => assumption); (case zcT => assumption); (case zchd => k_extra "x room"); (case zchu => k_extra "x unit"); (case zh0 => omega); (case zh1 => omega); ((intro r9 tl9 h9 tk9 F9 N9 o9 P9); (obtain ⟨x9, n9, t19, t29, z0, z1⟩ := P9); (subst z0); (subst z1); (try simp only [List.nil_append, List.cons_append] at N9 o9); (try k_sweep); (have o8 : @Ne Nat _ _ := o9 _ (List.mem_cons_self ..) _ (List.mem_cons_self ..)) ; (dsimp only at o8)))))
  trivial
theorem name_octets_d {w : World} {x : Str} {t : Tok} {rest : Led} (hx : ∀ c ∈ codes x, 0 < c ∧ c < 256) (hz : x.cps.size ≤ 20) : Does w 405 [.str x t] 2 [] rest (fun r _ tl => tl = [] ∧ ∃ tk, r = .bytes (byteArr (nameOct x)) tk) := by
  refine' Does.of (binds := [(Str.ofString "text", .str x t)]) (al := [(Str.ofString "text", some (.str x t))]) ?k6 ?kb ?ks ?k7 ?k9 ?kB ?c5 ?c2 ?c3 ?c4 ?lv ?kal ?_
  (case k6 => k_dflt k_is); (case kb => conv => lhs; whnf); (case ks => conv => lhs; whnf); (case k7 => k_dflt k_is); (case k9 => exact rfl); (case kB => exact locs rfl); (case c5 => decide); (case c2 => exact rfl); (case c3 => exact rfl); (case c4 => exact rfl); (case lv => decide); (case kal => exact rfl)
  intro mean mg mb dp un outer base g L s E F N hap B X T hlt hdp hun
  (try simp only [List.nil_append, List.cons_append] at N hlt)
  k_fold
  k_extra "x stmt"
  ((rename Fr g L _ _ => F7); (rename News g L _ _ => N8); (have F8 : Fr _ _ _ (lkm [(_, _), (_, _)]) := F7); clear F7)
  have F9 := Fr_rows [(Str.ofString "code", none), (Str.ofString "sign", none), (Str.ofString "found", some (.ref _)), (Str.ofString "text", some (.str x t))] F8 (by repeat' (first | exact rfl | exact trivial | refine And.intro ?_ ?_)) (by repeat' (first | exact rfl | exact trivial | refine And.intro ?_ ?_))
  clear F8
  refine seqK ?_
  refine For_invVF F9 (by rfl) (by rfl) ?_
  refine ld F9 rfl ?_
  rename ∀ p ∈ rest, _ < _ => l1
  refine str_loop (fun i al nx => Ex5 fun D vs n o1 o2 => An5 (nx = (D, W.listOf vs n) :: rest) ((∀ p ∈ rest, p.1 < D)) (vs.size ≤ 1 + 3 * i) (PyProof.Rows.IntsAre vs.toList (47 :: ((codes x).take i).flatMap nameEnc)) (al = [(Str.ofString "code", o1), (Str.ofString "sign", o2), (Str.ofString "found", some (.ref D)), (Str.ofString "text", some (.str x t))])) F9 N8 ⟨_, _, _, _, _, rfl, l1, by simp, .cons _ _ .nil, rfl⟩ ?_ ?_
  · rintro i v al₁ news₁ h tk own hi9 hP ho ⟨D, vs, n, o1, o2, rfl, hD, hV, hI, rfl⟩ F1 N1
    obtain ⟨c, u, hc, rfl⟩ := hP
    have hc0 := hx c (List.mem_of_getElem? (codes_get hc))
    have hDo : ∀ p ∈ own, p.1 ≠ D := fun p hp => ho p hp D (.head _)
    replace N1 : News g L h ((D, W.listOf vs n) :: (rest ++ own)) := N1
    k_extra "x stmt"
    k_extra "x stmt"
    k_extra "x steps"
    · ((rename Fr g L _ _ => F7); (rename News g L _ _ => N8); (have F8 := Fr_norm (al := [(_, _), (_, _), (_, _), (_, _), (_, _), (_, _)]) F7); clear F7)
      exact ⟨_, _, _, (D, _) :: rest, rfl, F8, news_tail N8, ho, D, _, _, _, _, rfl, hD, by simp; omega, name_esc (codes_get hc) (.inl (by assumption)) hI, rfl⟩
    · ((rename Fr g L _ _ => F7); (rename News g L _ _ => N8); (have F8 := Fr_norm (al := [(_, _), (_, _), (_, _), (_, _), (_, _), (_, _)]) F7); clear F7)
      exact ⟨_, _, _, (D, _) :: rest, rfl, F8, news_tail N8, ho, D, _, _, _, _, rfl, hD, by simp; omega, name_esc (codes_get hc) (.inr (.inl (by assumption))) hI, rfl⟩
    · ((rename Fr g L _ _ => F7); (rename News g L _ _ => N8); (have F8 := Fr_norm (al := [(_, _), (_, _), (_, _), (_, _), (_, _), (_, _)]) F7); clear F7)
      exact ⟨_, _, _, (D, _) :: rest, rfl, F8, news_tail N8, ho, D, _, _, _, _, rfl, hD, by simp; omega, name_esc (codes_get hc) (.inr (.inr (.inl (by assumption)))) hI, rfl⟩
    · ((rename Fr g L _ _ => F7); (rename News g L _ _ => N8); (have F8 := Fr_norm (al := [(_, _), (_, _), (_, _), (_, _), (_, _), (_, _)]) F7); clear F7)
      exact ⟨_, _, _, (D, _) :: rest, rfl, F8, N8, ho, D, _, _, _, _, rfl, hD, by simp; omega, name_raw (codes_get hc) (by omega) (by omega) (by assumption) (by assumption) hI, rfl⟩
    · ((rename Fr g L _ _ => F7); (rename News g L _ _ => N8); (have F8 := Fr_norm (al := [(_, _), (_, _), (_, _), (_, _), (_, _), (_, _)]) F7); clear F7)
      exact ⟨_, _, _, (D, _) :: rest, rfl, F8, news_tail N8, ho, D, _, _, _, _, rfl, hD, by simp; omega, name_esc (codes_get hc) (.inr (.inr (.inr (by assumption)))) hI, rfl⟩
  · rintro al₁ news₁ h tk ⟨D, vs, n, o1, o2, rfl, hD, hV, hI, rfl⟩ F1 N1
    try dsimp only
    rw [← codes_len, List.take_length] at hI
    k_extra "x stmt"
    refine bytes_at F1 N1 (.head _) hI (nameOct_byte hx) (nameOct_len hz) fun h3 t3 k3 F3 N3 => ?_
    exact ⟨_, [], [], _, _, rfl, F3, news_tail N3, rfl, (fun _ _ _ h => nomatch h), rfl, _, rfl⟩

noncomputable def hexEnc (c : Int) : List Int := [((hexd (c.fdiv 16)).toNat : Int), ((hexd (c.fmod 16)).toNat : Int)]
noncomputable def hexOct (b : Array UInt8) : List Int := 60 :: (KBw.bInts b).flatMap hexEnc ++ [62]
theorem hexEnc_byte (c : Int) : ∀ n ∈ hexEnc c, 0 ≤ n ∧ n < 256 := by
  intro n hn
  have h1 := (hexd (c.fdiv 16)).toNat_lt
  have h2 := (hexd (c.fmod 16)).toNat_lt
  simp only [hexEnc, List.mem_cons, List.not_mem_nil, or_false] at hn
  omega
theorem hexOct_byte (b : Array UInt8) : ∀ n ∈ 60 :: (KBw.bInts b).flatMap hexEnc ++ [62], 0 ≤ n ∧ n < 256 := by
  intro n hn
  simp only [List.cons_append, List.mem_cons, List.mem_append, List.not_mem_nil, or_false] at hn
  rcases hn with rfl | hn | rfl
  · omega
  · obtain ⟨c, _, h⟩ := List.mem_flatMap.mp hn
    exact hexEnc_byte c n h
  · omega
theorem hexOct_len (b : Array UInt8) : (hexOct b).length = 2 * b.size + 2 := by
  have : ∀ l : List Int, (l.flatMap hexEnc).length = 2 * l.length := by
    intro l
    induction l with
    | nil => rfl
    | cons c r ih => simp only [List.flatMap_cons, List.length_append, ih, List.length_cons, hexEnc, List.length_nil]; omega
  simp only [hexOct, List.length_cons, List.length_append, this, KBw.ints_length, List.length_nil]
theorem ln_B5_1 : True := by
  (k_with "call ref" => (k_here; k_dflt ((refine' Does.useT (hex_pair_d ?zh0 ?zh1) ?zcB ?zcF ?zcX ?zcN ?zcT ?zchd ?zchu ?_); (case zcF => k_asm); (case zcN => k_extra "x n7"); (case zcB => assumption); (case zcX => assumption); (case zcT => assumption); (case zchd => k_extra "x room"); (case zchu => k_extra "x unit"); (case zh0 => omega); (case zh1 => omega); ((intro r9 tl9 h9 tk9 F9 N9 o9 P9); (obtain ⟨x9, n9, t19, t29, z0, z1⟩ := P9); (subst z0); (subst z1); (try simp only [List.nil_append, List.cons_append] at N9 o9); (try k_sweep); (have o8 : @Ne Nat _ _ := o9 _ (List.mem_cons_self ..) _ (List.mem_cons_self ..)) ; (dsimp only at o8)))))
  trivial
theorem hex_octets_d {w : World} {b : Array UInt8} {t : Tok} {rest : Led} (hz : b.size ≤ 20) : Does w 438 [.bytes b t] 2 [] rest (fun r _ tl => tl = [] ∧ ∃ tk, r = .bytes (byteArr (hexOct b)) tk) := by
  refine' Does.of (binds := [(Str.ofString "octets", .bytes b t)]) (al := [(Str.ofString "octets", some (.bytes b t))]) ?k6 ?kb ?ks ?k7 ?k9 ?kB ?c5 ?c2 ?c3 ?c4 ?lv ?kal ?_
  (case k6 => k_dflt k_is); (case kb => conv => lhs; whnf); (case ks => conv => lhs; whnf); (case k7 => k_dflt k_is); (case k9 => exact rfl); (case kB => exact locs rfl); (case c5 => decide); (case c2 => exact rfl); (case c3 => exact rfl); (case c4 => exact rfl); (case lv => decide); (case kal => exact rfl)
  intro mean mg mb dp un outer base g L s E F N hap B X T hlt hdp hun
  (try simp only [List.nil_append, List.cons_append] at N hlt)
  k_fold
  k_extra "x stmt"
  ((rename Fr g L _ _ => F7); (rename News g L _ _ => N8); (have F8 : Fr _ _ _ (lkm [(_, _), (_, _)]) := F7); clear F7)
  have F9 := Fr_rows [(Str.ofString "code", none), (Str.ofString "found", some (.ref _)), (Str.ofString "octets", some (.bytes b t))] F8 (by repeat' (first | exact rfl | exact trivial | refine And.intro ?_ ?_)) (by repeat' (first | exact rfl | exact trivial | refine And.intro ?_ ?_))
  clear F8
  refine seqK ?_
  refine For_invVF F9 (by rfl) (by rfl) ?_
  refine ld F9 rfl ?_
  rename ∀ p ∈ rest, _ < _ => l1
  refine bytes_loop (fun i al nx => Ex4 fun D vs n o1 => An5 (nx = (D, W.listOf vs n) :: rest) ((∀ p ∈ rest, p.1 < D)) (vs.size ≤ 1 + 2 * i) (PyProof.Rows.IntsAre vs.toList (60 :: ((KBw.bInts b).take i).flatMap hexEnc)) (al = [(Str.ofString "code", o1), (Str.ofString "found", some (.ref D)), (Str.ofString "octets", some (.bytes b t))])) F9 N8 ⟨_, _, _, _, rfl, l1, by simp, .cons _ _ .nil, rfl⟩ ?_ ?_
  · rintro i v al₁ news₁ h tk own hi9 hP ho ⟨D, vs, n, o1, rfl, hD, hV, hI, rfl⟩ F1 N1
    obtain ⟨c, u, hc, rfl⟩ := hP
    have hc0 := KBw.ints_in (List.mem_of_getElem? (KBw.ints_get hc))
    have hDo : ∀ p ∈ own, p.1 ≠ D := fun p hp => ho p hp D (.head _)
    replace N1 : News g L h ((D, W.listOf vs n) :: (rest ++ own)) := N1
    k_extra "x stmt"
    ((rename Fr g L _ _ => F7); (rename News g L _ _ => N8); (have F8 := Fr_norm (al := [(_, _), (_, _), (_, _), (_, _)]) F7); clear F7)
    refine ⟨_, _, _, (D, _) :: rest, rfl, F8, news_tail N8, ho, D, _, _, _, rfl, hD, by simp; omega, ?_, rfl⟩
    rw [flat_snoc hexEnc (KBw.ints_get hc), ← List.cons_append]
    exact IA_ext hI (.cons _ _ (.cons _ _ .nil))
  · rintro al₁ news₁ h tk ⟨D, vs, n, o1, rfl, hD, hV, hI, rfl⟩ F1 N1
    try dsimp only
    rw [← KBw.ints_length, List.take_length] at hI
    k_extra "x stmt"
    k_extra "x stmt"
    ((rename Fr g L _ _ => F8); (rename News g L _ _ => N8))
    refine bytes_at F8 N8 (.head _) (IA_push hI) (hexOct_byte b) (by have := hexOct_len b; unfold hexOct at this; omega) fun h3 t3 k3 F3 N3 => ?_
    exact ⟨_, [], [], _, _, rfl, F3, news_tail N3, rfl, (fun _ _ _ h => nomatch h), rfl, _, rfl⟩

open PySem.Builtin PySem.Builtin._codecs
section
variable {M : Model} {A : Around} {E : Value → Shared → Prop} {s : Shared}
theorem fold_enc : ∀ (l : List Nat) (acc : Array UInt8), l.foldl (fun acc y => acc ++ (asciiCodec.bytesOf y).toArray) acc = acc ++ (l.map (·.toUInt8)).toArray
  | [], acc => by simp
  | c :: r, acc => by
    rw [List.foldl_cons, fold_enc r]
    show (acc ++ #[c.toUInt8]) ++ _ = _
    simp
theorem enc_ascii {id : String} {self : Value} {x : PySem.Str} {Q : Array UInt8 → Shared → Prop} (hx : ∀ c ∈ x.cps.toList, c < 128) (hz : x.cps.size ≤ 100000) (h : Q (byteArr (codes x)) s) : wpAny M A (encodeNarrow id asciiCodec none self x) Q E s := by
  unfold encodeNarrow
  try dsimp only
  refine wpAny_bind ?_
  rw [Std.Legacy.Range.forIn_eq_forIn_range']
  simp only [Std.Legacy.Range.size, Nat.sub_zero, Nat.add_sub_cancel, Nat.div_one]
  have hbs : (byteArr (codes x)).size = x.cps.size := by rw [byteArr_size, codes_len]
  refine wpAny_forIn_list _ (fun rest st s' => s' = s ∧ ((rest = List.range' 0 x.length ∧ st = (0, #[], {})) ∨ (st.1 = x.cps.size ∧ st.2.1 = byteArr (codes x)))) _ ?_ ?_ _ _ ⟨rfl, .inl ⟨rfl, rfl⟩⟩
  · rintro k rest st s' ⟨rfl, ⟨hr, rfl⟩ | ⟨h1, h2⟩⟩
    · have hpos : 0 < x.cps.size := by
        have := congrArg List.length hr
        simp at this
        show 0 < x.length
        omega
      rw [if_neg (by simp)]
      have h0 : x.cps[0]? = some x.cps[0] := Array.getElem?_eq_getElem hpos
      have hg : ∀ c ∈ x.cps.toList, asciiCodec.bad c = false := fun c hc => decide_eq_false (by have := hx c hc; omega)
      try dsimp only
      rw [h0]
      try dsimp only
      rw [if_pos (by rw [hg _ (by simp)]; rfl)]
      have hex : x.cps.extract 0 x.cps.size = x.cps := by simp
      have hf : Array.findIdx? asciiCodec.bad x.cps = none := by
        rw [Array.findIdx?_eq_none_iff]
        intro c hc
        exact hg c (by simpa using hc)
      refine wpAny_pure ⟨rfl, .inr ⟨?_, ?_⟩⟩
      · show 0 + (Array.findIdx? asciiCodec.bad (x.cps.extract 0 x.cps.size)).getD (x.cps.extract 0 x.cps.size).size = x.cps.size
        rw [hex, hf]
        simp
      · show Array.foldl (fun acc y => acc ++ (asciiCodec.bytesOf y).toArray) #[] ((x.cps.extract 0 x.cps.size).extract 0 ((Array.findIdx? asciiCodec.bad (x.cps.extract 0 x.cps.size)).getD (x.cps.extract 0 x.cps.size).size)) = byteArr (codes x)
        rw [hex, hf]
        show Array.foldl (fun acc y => acc ++ (asciiCodec.bytesOf y).toArray) #[] (x.cps.extract 0 x.cps.size) = byteArr (codes x)
        rw [hex, ← Array.foldl_toList, fold_enc]
        unfold byteArr codes
        simp [List.map_map, Function.comp_def]
    · rw [if_neg (by rw [h2, hbs, sizeLine_eq]; omega), h1]
      rw [Array.getElem?_eq_none (Nat.le_refl _)]
      try dsimp only
      refine wpAny_pure ?_
      try dsimp only
      rw [h2]
      exact wpAny_pure h
  · rintro st s' ⟨rfl, ⟨hr, rfl⟩ | ⟨h1, h2⟩⟩
    · have hl : x.cps.size = 0 := by
        have := congrArg List.length hr
        simp at this
        exact this.symm
      have e : byteArr (codes x) = #[] := by
        apply Array.eq_empty_of_size_eq_zero
        rw [hbs, hl]
      rw [e] at h
      exact wpAny_pure h
    · rw [h2]; exact wpAny_pure h
end
theorem road_ascii (id : String) (self : Value) (x : PySem.Str) (errors : Option PySem.Str) : encodeRoad id self x (Str.ofString "ascii") errors = (do mkBytes (← encodeNarrow id asciiCodec errors self x)) := by
  first | rfl | (unfold encodeRoad; rfl) | kernel_rfl
theorem encode_tree2 (x : PySem.Str) (t u : Tok) : Builtin.«str.encode» ⟨[.str x t, .str (Str.ofString "ascii") u], []⟩ = (do ret (← encodeRoad "str.encode" (.str x t) x (Str.ofString "ascii") none)) := by
  first | rfl | kernel_rfl
theorem encode_ascii {prog : Program} {w : World} {A : Around} {E : Value → Shared → Prop} {s : Shared} {x : PySem.Str} {t u : Tok} {Q : Value → Shared → Prop} (hx : ∀ c ∈ x.cps.toList, c < 128) (hz : x.cps.size ≤ 100000) (h : ∀ t' k, Q (.bytes (byteArr (codes x)) t') { s with toks := k }) :
    wpAny (model prog w) A (call (.builtin "str.encode") [.str x t, .str (Str.ofString "ascii") u]) Q E s := by
  refine wpAny_call (codeAny_call_builtin PySem.F.slot_str_encode.plain PySem.F.entry_str_encode (PySem.F.slot_str_encode.check _ _ _ _ _ _ _ _ (typeIs_str _ _ _) (PySem.F.args_str_encode_2 _ _) ?_))
  rw [encode_tree2, road_ascii]
  refine wpAny_bind (wpAny_bind (enc_ascii hx hz ?_))
  refine wpAny_mkBytes ?_ (by rw [byteArr_size, codes_len, sizeLine_eq]; omega)
  exact wpAny_pure (h _ _)

theorem ln_B6 : True := by
  (k_with "setItem ref int" => (k_here; k_dflt ((rename News _ _ _ _ => N7); (first | (refine' dset_at (K := Int) (knd := intKind prg _) [] _ ?zcF N7 ?zhd ?zhk ?zho ?zhz ?_; (case zhd => assumption)) | (refine' dset_at (K := Int) (knd := intKind prg _) [_] _ ?zcF N7 ?zhd ?zhk ?zho ?zhz ?_; (case zhd => assumption)) | (refine' dset_at (K := Int) (knd := intKind prg _) [_, _] _ ?zcF N7 ?zhd ?zhk ?zho ?zhz ?_; (case zhd => assumption))); (case zcF => k_asm); (case zhk => exact is_int); (case zho => k_extra "x ho"); (case zhz => omega); ((intro h9 o9 F9 N9 hd9); (try simp only [List.nil_append, List.cons_append] at N9); (try k_sweep)))))
  (k_with "call builtin:list.pop" => (k_here; k_dflt ((rename News _ _ _ _ => N7); (first | (refine' pop_at [] _ ?zcF N7 ?zhi ?zho ?zhne ?zhz ?_; (case zhi => assumption)) | (refine' pop_at [_] _ ?zcF N7 ?zhi ?zho ?zhne ?zhz ?_; (case zhi => assumption))); (case zcF => k_asm); (case zho => k_extra "x ho"); (case zhne => omega); (case zhz => omega); ((intro h9 t9 us9 n9 F9 N9 hI9 hs9); (try simp only [List.nil_append, List.cons_append] at N9); (try k_sweep)))))
  (k_with "truthy ref" => (k_here; k_dflt ((rename News _ _ _ _ => N7); refine' truthy_at N7 ?zhm ?zhz ?_ ?_; (case zhm => k_extra "x hm"); (case zhz => omega)); intro htr))
  trivial
noncomputable def loneStep (c : Int) (i : Nat) (st : List Int × List Int) : List Int × List Int :=
  if c = 40 then (st.1 ++ [(i : Int)], st.2) else if c = 41 then (if 0 < st.1.length then (st.1.dropLast, st.2) else (st.1, st.2 ++ [(i : Int)])) else st
noncomputable def loneAcc (b : List Int) : Nat → List Int × List Int
  | 0 => ([], [])
  | i + 1 => loneStep (b.getD i 0) i (loneAcc b i)
noncomputable def isLone (b : List Int) (k : Int) : Bool := decide (k ∈ (loneAcc b b.length).2) || decide (k ∈ (loneAcc b b.length).1)
theorem getD_nat (b : List Int) (i : Nat) : b.getD (Int.toNat (i : Int)) 0 = b.getD i 0 := by rw [Int.toNat_natCast]
theorem loneAcc_40 {b : List Int} {i : Nat} (h : b.getD (Int.toNat (i : Int)) 0 = 40) : loneAcc b (i + 1) = ((loneAcc b i).1 ++ [(i : Int)], (loneAcc b i).2) := by
  rw [getD_nat] at h
  show loneStep (b.getD i 0) i (loneAcc b i) = _
  unfold loneStep; rw [if_pos h]
theorem loneAcc_41p {b : List Int} {i : Nat} (h : b.getD (Int.toNat (i : Int)) 0 = 41) (hp : 0 < (loneAcc b i).1.length) : loneAcc b (i + 1) = ((loneAcc b i).1.dropLast, (loneAcc b i).2) := by
  rw [getD_nat] at h
  show loneStep (b.getD i 0) i (loneAcc b i) = _
  unfold loneStep; rw [if_neg (by omega), if_pos h, if_pos hp]
theorem loneAcc_41n {b : List Int} {i : Nat} (h : b.getD (Int.toNat (i : Int)) 0 = 41) (hp : (loneAcc b i).1.length = 0) : loneAcc b (i + 1) = ((loneAcc b i).1, (loneAcc b i).2 ++ [(i : Int)]) := by
  rw [getD_nat] at h
  show loneStep (b.getD i 0) i (loneAcc b i) = _
  unfold loneStep; rw [if_neg (by omega), if_pos h, if_neg (by omega)]
theorem loneAcc_no {b : List Int} {i : Nat} (h : b.getD (Int.toNat (i : Int)) 0 ≠ 40) (h2 : b.getD (Int.toNat (i : Int)) 0 ≠ 41) : loneAcc b (i + 1) = loneAcc b i := by
  rw [getD_nat] at h h2
  show loneStep (b.getD i 0) i (loneAcc b i) = _
  unfold loneStep; rw [if_neg h, if_neg h2]
theorem lone_brackets_d {w : World} {b : Array UInt8} {t : Tok} {rest : Led} (hz : b.size ≤ 20) : Does w 424 [.bytes b t] 2 [] rest (fun r _ tl => Ex3 fun d od kvs => An5 (r = .ref d) (tl = [(d, od)]) ((d == sysModules) = false) (od.IsDictOf (intKind prg w) kvs) (∀ k, (valueAt kvs k).isSome = isLone (KBw.bInts b) k)) := by
  refine' Does.of (binds := [(Str.ofString "octets", .bytes b t)]) (al := [(Str.ofString "octets", some (.bytes b t))]) ?k6 ?kb ?ks ?k7 ?k9 ?kB ?c5 ?c2 ?c3 ?c4 ?lv ?kal ?_
  (case k6 => k_dflt k_is); (case kb => conv => lhs; whnf); (case ks => conv => lhs; whnf); (case k7 => k_dflt k_is); (case k9 => exact rfl); (case kB => exact locs rfl); (case c5 => decide); (case c2 => exact rfl); (case c3 => exact rfl); (case c4 => exact rfl); (case lv => decide); (case kal => exact rfl)
  intro mean mg mb dp un outer base g L s E F N hap B X T hlt hdp hun
  (try simp only [List.nil_append, List.cons_append] at N hlt)
  k_fold
  generalize hks : KBw.bInts b = ks
  have hkl : ks.length = b.size := by rw [← hks, KBw.ints_length]
  k_extra "x stmt"
  k_extra "x stmt"
  ((rename Fr g L _ _ => F7); (rename News g L _ _ => N8); (have F8 : Fr _ _ _ (lkm [(_, _), (_, _), (_, _)]) := F7); clear F7)
  rename (_ == sysModules) = false => hlo
  rename _ ∧ AllLt _ rest => l2
  rename Obj.IsDictOf (intKind _ _) _ _ => hod
  rename ∀ p ∈ rest, _ < _ => l1
  have F9 := Fr_rows [(Str.ofString "at", none), (Str.ofString "lone", some (.ref _)), (Str.ofString "open_ones", some (.ref _)), (Str.ofString "octets", some (.bytes b t))] F8 (by repeat' (first | exact rfl | exact trivial | refine And.intro ?_ ?_)) (by repeat' (first | exact rfl | exact trivial | refine And.intro ?_ ?_))
  clear F8
  refine seqK ?_
  refine For_invVF F9 (by rfl) (by rfl) ?_
  (repeat' ((fail_if_success (with_reducible refine mark_pi ?_)); k_extra "x one"))
  rename IsRange _ _ _ _ _ _ _ _ => hR
  rename_i FR NR hkeep
  refine range_loop (n := b.size) (fun i al nx => Ex7 fun d od l us n kvs o1 => An11 (nx = (d, od) :: (l, W.listOf us n) :: rest) ((∀ p ∈ rest, p.1 < l)) ((∀ p ∈ rest, p.1 < d)) (@LT.lt Nat _ l d) ((d == sysModules) = false) (us.size ≤ i) (kvs.length ≤ i) (PyProof.Rows.IntsAre us.toList (loneAcc ks i).1) (od.IsDictOf (intKind prg w) kvs) ((∀ k, (valueAt kvs k).isSome = decide (k ∈ (loneAcc ks i).2))) (al = [(Str.ofString "at", o1), (Str.ofString "lone", some (.ref d)), (Str.ofString "open_ones", some (.ref l)), (Str.ofString "octets", some (.bytes b t))])) hR (small_one (by decide) (by decide) (by omega) (by omega)) (by rw [rangeSize_nat]; congr 1) FR NR ⟨_, _, _, _, _, _, _, rfl, l1, allLt_mem l2.2, l2.1, hlo, by simp, by simp, .nil, hod, fun k => rfl, rfl⟩ ?_ ?_
  · rintro i v al₁ news₁ h tk own hi9 hP ho ⟨d, od, l, us, n, kvs, o1, rfl, hl, hd, hld, hm, hU, hK, hI, hO, hV, rfl⟩ F1 N1
    obtain ⟨u, rfl⟩ := hP
    rw [Int.zero_add] at F1
    have hdo : ∀ p ∈ own, p.1 ≠ d := fun p hp => ho p hp d (.head _)
    have hlo : ∀ p ∈ own, p.1 ≠ l := fun p hp => ho p hp l (.tail _ (.head _))
    replace N1 : News g L h ((d, od) :: (l, W.listOf us n) :: (rest ++ own)) := N1
    k_extra "x steps"
    · ((rename Fr g L _ _ => F7); (rename News g L _ _ => N8); (have F8 := Fr_norm (al := [(_, _), (_, _), (_, _), (_, _), (_, _)]) F7); clear F7)
      refine ⟨_, _, _, (d, _) :: (l, _) :: rest, rfl, F8, N8, ?_, d, _, l, _, _, _, _, rfl, hl, hd, hld, hm, by simp; omega, by omega, ?_, hO, ?_, rfl⟩
      · exact ho
      · rw [loneAcc_40 (by assumption)]; exact IA_push hI
      · rw [loneAcc_40 (by assumption)]; exact hV
    · have hU0 := hI.length
      rw [Array.length_toList] at hU0
      rename 0 < us.size => hpos
      ((rename Fr g L _ _ => F7); (rename News g L _ _ => N8); (have F8 := Fr_norm (al := [(_, _), (_, _), (_, _), (_, _), (_, _)]) F7); clear F7)
      refine ⟨_, _, _, (d, _) :: (l, _) :: rest, rfl, F8, N8, ho, d, _, l, _, _, _, _, rfl, hl, hd, hld, hm, by omega, by omega, ?_, hO, ?_, rfl⟩
      · rw [loneAcc_41p (by assumption) (by omega)]; assumption
      · rw [loneAcc_41p (by assumption) (by omega)]; exact hV
    · have hU0 := hI.length
      rw [Array.length_toList] at hU0
      rename us.size = 0 => hz0
      have hst := stored_length_le kvs (i : Int) (.bool true)
      ((rename Fr g L _ _ => F7); (rename News g L _ _ => N8); (have F8 := Fr_norm (al := [(_, _), (_, _), (_, _), (_, _), (_, _)]) F7); clear F7)
      refine ⟨_, _, _, (d, _) :: (l, _) :: rest, rfl, F8, N8, ho, d, _, l, _, _, _, _, rfl, hl, hd, hld, hm, by omega, ?_, ?_, by assumption, ?_, rfl⟩
      · omega
      · rw [loneAcc_41n (by assumption) (by omega)]; exact hI
      · intro k
        rw [loneAcc_41n (by assumption) (by omega), stored_isSome, hV]
        simp [List.mem_append]
    · ((rename Fr g L _ _ => F7); (rename News g L _ _ => N8); (have F8 := Fr_norm (al := [(_, _), (_, _), (_, _), (_, _), (_, _)]) F7); clear F7)
      refine ⟨_, _, _, (d, _) :: (l, _) :: rest, rfl, F8, N8, ho, d, _, l, _, _, _, _, rfl, hl, hd, hld, hm, by omega, by omega, ?_, hO, ?_, rfl⟩
      · rw [loneAcc_no (by assumption) (by assumption)]; exact hI
      · rw [loneAcc_no (by assumption) (by assumption)]; exact hV
  · rintro al₁ news₁ h tk ⟨d, od, l, us, n, kvs, o1, rfl, hl, hd, hld, hm, hU, hK, hI, hO, hV, rfl⟩ F1 N1
    try dsimp only
    refine seqK ?_
    refine For_invVF F1 (by rfl) (by rfl) ?_
    refine ld F1 rfl ?_
    generalize hA : loneAcc ks b.size = A at hI hV
    refine list_loop (vs := us.toList) (nn := n) (fun i al nx => Ex3 fun od kvs o1 => An5 (nx = (d, od) :: (l, W.listOf us n) :: rest) (kvs.length ≤ b.size + i) (od.IsDictOf (intKind prg w) kvs) ((∀ k, (valueAt kvs k).isSome = (decide (k ∈ A.2) || decide (k ∈ A.1.take i)))) (al = [(Str.ofString "at", o1), (Str.ofString "lone", some (.ref d)), (Str.ofString "open_ones", some (.ref l)), (Str.ofString "octets", some (.bytes b t))])) F1 N1 (by rw [Array.toArray_toList]; exact .tail _ (.head _)) ⟨_, _, _, rfl, by omega, hO, fun k => by rw [hV]; simp, rfl⟩ ?_ ?_
    · rintro i v al₁ news₁ h tk own hv ho hmm ⟨od, kvs, o1, rfl, hK, hO, hV, rfl⟩ F1 N1
      have hdo : ∀ p ∈ own, p.1 ≠ d := fun p hp => ho p hp d (.head _)
      replace N1 : News g L h ((d, od) :: (l, W.listOf us n) :: (rest ++ own)) := N1
      have hil : i < A.1.length := by rw [← hI.length]; exact (List.getElem?_eq_some_iff.mp hv).1
      have hul := hI.length
      rw [Array.length_toList] at hul
      obtain ⟨u, hu⟩ := hI.get i A.1[i] (List.getElem?_eq_getElem hil)
      have ev : v = .int A.1[i] u := by rw [hu] at hv; exact (Option.some.inj hv).symm
      subst ev
      generalize hc : A.1[i] = c at *
      have hst := stored_length_le kvs c (.bool true)
      k_extra "x steps"
      ((rename Fr g L _ _ => F7); (rename News g L _ _ => N8); (have F8 := Fr_norm (al := [(_, _), (_, _), (_, _), (_, _), (_, _)]) F7); clear F7)
      refine ⟨_, _, _, (d, _) :: (l, _) :: rest, rfl, F8, N8, ho, by rw [Array.toArray_toList]; exact .tail _ (.head _), _, _, _, rfl, ?_, by assumption, ?_, rfl⟩
      · omega
      · intro k
        rw [stored_isSome, hV, take_snoc (show A.1[i]? = some c by rw [List.getElem?_eq_getElem hil, hc])]
        simp only [List.mem_append, List.mem_singleton, Bool.decide_or, Bool.or_assoc]
    · rintro al₁ news₁ h tk ⟨od, kvs, o1, rfl, hK, hO, hV, rfl⟩ F1 N1
      try dsimp only
      k_extra "x steps"
      ((rename Fr g L _ _ => F8); (rename News g L _ _ => N8))
      have hul := hI.length
      refine ⟨_, [], [(d, od)], _, _, rfl, F8, (fun p hp => N8 p (by simp only [List.nil_append, List.mem_append, List.mem_cons, List.not_mem_nil, or_false] at hp ⊢; rcases hp with h | h <;> simp [h])), rfl, ?_, d, od, kvs, rfl, rfl, hm, hO, ?_⟩
      · intro q hq p hp
        rw [List.mem_singleton.mp hp]
        exact Nat.ne_of_lt (hd q hq)
      · intro k
        rw [hV, hul, List.take_length, isLone, hks, hkl, hA]

theorem by_len : typeLookup (.type "bytes") "__len__" = pure (some (.builtin "bytes.__len__")) := by rw [typeLookup_type, builtinLookup_eq_fast]; kernel_rfl
section
variable {prog : Program} {w : World} {A : Around} {E : Value → Shared → Prop} {s : Shared}
theorem hint_bytes {b : Array UInt8} {t : Tok} {Q : Bool → Shared → Prop} (h : Q false s) : wpAny (model prog w) A (Builtin.List.listLengthHint (.bytes b t)) Q E s := by
  have hT : s.TypeIs (.bytes b t) "bytes" := PySem.W.typeIs_bytes _ _ _
  unfold Builtin.List.listLengthHint
  refine wpAny_bind (wpAny_specialOf hT by_len ?_)
  generalize hid : ("bytes.__len__" : String) = id0
  wp_delta
  rw [show splitId id0 = some ("bytes", "__len__") from by subst hid; decide +kernel]
  subst hid
  refine wpAny_bind (wpAny_isInstance (T := "bytes") (b := true) hT (by rw [isSubtype_type]; kernel_rfl) ?_)
  refine wpAny_ite_split (fun hab => absurd hab (by decide)) (fun _ => ?_)
  refine wpAny_ite_split (fun _ => ?_) (fun hab => absurd (by decide +kernel) hab)
  refine wpAny_bind (wpAny_typeOf hT ?_)
  exact wpAny_pure h
theorem walks_shift {I : Addr} {fp wr : List Addr} {n : Nat} {P : Nat → Value → Prop} {St : Nat → Heap → Prop} (W : Walks prog w A I fp wr n P St) (m : Nat) (acc : Array Value) :
    Walks prog w A I fp wr (m + n) (fun j v => (∃ i, j = m + i ∧ P i v) ∨ (j < m ∧ acc[j]? = some v)) (fun i h => ∃ k, i = m + k ∧ St k h) where
  sub := W.sub
  frame := fun i h h' st hk => let ⟨k, e, x⟩ := st; ⟨k, e, W.frame k h h' x hk⟩
  item := fun i s Q E hi st hQ => by
    obtain ⟨k, rfl, x⟩ := st
    exact W.item k s Q E (by omega) x fun v h' tk hP hst hkeep => hQ v h' tk (.inl ⟨k, rfl, hP⟩) ⟨k + 1, by omega, hst⟩ hkeep
  done := fun s Q E st hQ => by
    obtain ⟨k, e, x⟩ := st
    have : k = n := by omega
    subst this
    exact W.done s Q E x hQ
  self := fun i s Q E st hQ => by
    obtain ⟨k, rfl, x⟩ := st
    exact W.self k s Q E x hQ
end
section
variable {prog : Program} {w : World} {A : Around} {E : Value → Shared → Prop} {s : Shared}
noncomputable def ExtP (acc : Array Value) (b : Array UInt8) (j : Nat) (v : Value) : Prop := (∃ i, j = acc.size + i ∧ ∃ c u, b[i]? = some c ∧ v = .int (c.toNat : Int) u) ∨ (j < acc.size ∧ acc[j]? = some v)
theorem ext_bytes {S : Addr} {b : Array UInt8} {t : Tok} {acc : Array Value} {c₀ : Nat} {Q : Value → Shared → Prop} (hh : A.handled = none) (hS : s.heap.get? S = some { cls := .type "list", data := .seq acc c₀ }) (hz : acc.size + b.size ≤ sizeLine)
    (hR : ∀ h' tk acc' c', (∀ x o, x ≠ S → s.heap.get? x = some o → h'.get? x = some o) → h'.get? S = some { cls := .type "list", data := .seq acc' c' } → ItemsOf (ExtP acc b) acc' (acc.size + b.size) → Q .none { s with heap := h', toks := tk }) :
    wpAny (model prog w) A (call (.builtin "list.extend") [.ref S, .bytes b t]) Q E s := by
  refine wpAny_call (codeAny_call_builtin PySem.F.slot_list_extend.plain PySem.F.entry_list_extend (PySem.F.slot_list_extend.check _ _ _ _ _ _ _ _ ⟨_, hS, rfl⟩ (PySem.F.args_list_extend_2 _ _) ?_))
  show wpAny _ A.in1 (Builtin.List.listExtendWith (.ref S) (.bytes b t) .none) _ _ s
  unfold Builtin.List.listExtendWith
  refine wpAny_bind (wpAny_typeOf (T := "bytes") (PySem.W.typeIs_bytes _ _ _) ?_)
  have h1 : Builtin.List.listSameRef (.ref S) (.bytes b t) = false := rfl
  have h2 : (Value.type "bytes" == Value.type "list") = false := by decide
  have h3 : (Value.type "bytes" == Value.type "tuple") = false := by decide
  simp only [h1, h2, h3, Bool.or_false, Bool.false_eq_true, if_false]
  refine wpAny_bind (KBw.pyIter_bytes ?_)
  have hSI : S ≠ s.heap.objs.size := Nat.ne_of_lt (Heap.lt_size hS)
  have hS₁ := Heap.get?_push_of_some { cls := .type "bytes_iterator", data := .fields #[.bytes b t, .int 0 0] } hS
  have hit : KBw.IsBytesIter (s.heap.push { cls := .type "bytes_iterator", data := .fields #[.bytes b t, .int 0 0] }) s.heap.objs.size b t 0 := ⟨_, Heap.get?_push_size _ rfl, rfl, rfl⟩
  refine wpAny_bind (wpAny_holding (hint_bytes ?_))
  refine wpAny_ite_split (fun hab => absurd hab (by decide)) (fun _ => ?_)
  have W := walks_shift (KBw.walks (prog := prog) (w := w) (A := A.in1) hh s.heap.objs.size b t) acc.size acc
  refine wpAny_pure ⟨plainId_quiet PySem.F.plain_extend_loop _, ?_⟩
  refine codeAny_extend_loopS W.toS hz S (by simpa using hSI) .none b.size acc.size _ acc c₀ (by omega) (by omega) ⟨0, rfl, hit⟩ hS₁ ⟨rfl, fun j v hj => .inr ⟨(Array.getElem?_eq_some_iff.mp hj).1, hj⟩⟩ fun s' acc' c' hm hS' hacc => ?_
  rw [Moved.eq_with hm]
  refine hR s'.heap s'.toks acc' c' (fun x o hx e => hm.heap x o (fun hmem => ?_) (Heap.get?_push_of_some _ e)) hS' hacc
  rcases List.mem_cons.mp hmem with e' | hmem
  · exact hx e'
  · exact absurd (Heap.lt_size e) (by rw [List.mem_singleton.mp hmem]; exact Nat.lt_irrefl _)
end
theorem IA_of : ∀ (ns : List Int) (vs : List Value), vs.length = ns.length → (∀ (j : Nat) (n : Int), ns[j]? = some n → ∃ t, vs[j]? = some (Value.int n t)) → PyProof.Rows.IntsAre vs ns
  | [], [], _, _ => .nil
  | [], _ :: _, h, _ => by simp at h
  | _ :: _, [], h, _ => by simp at h
  | n :: ns, v :: vs, h, hp => by
    obtain ⟨t, ht⟩ := hp 0 n rfl
    have : v = .int n t := by simpa using ht
    subst this
    exact .cons n t (IA_of ns vs (by simpa using h) fun j k hj => hp (j + 1) k (by simpa using hj))
theorem Fr_but {h₀ h h' : Heap} {L D : Addr} {m : Str → Option Value} (F : Fr h₀ L h m) (hk : ∀ x o, x ≠ D → h.get? x = some o → h'.get? x = some o) (hL : D ≠ L) (hn : h₀.get? D = none) : Fr h₀ L h' m := by
  obtain ⟨oL, a1, a2, hoL, a3⟩ := F.ns
  exact ⟨⟨oL, a1, a2, hk L _ hL.symm hoL, a3⟩, fun b x e => hk b x (by rintro rfl; rw [hn] at e; cases e) (F.keep b x e), F.above⟩
theorem News_but {h₀ h h' : Heap} {L D : Addr} {o o' : Obj} {pre post : Led} (N : News h₀ L h (pre ++ ((D, o) :: post))) (hk : ∀ x o, x ≠ D → h.get? x = some o → h'.get? x = some o) (ho : PyProof.Rows.LCg.Off1 D (pre ++ post)) (hS : h'.get? D = some o') : News h₀ L h' (pre ++ ((D, o') :: post)) := by
  have hoff := off1_mem ho
  intro p hp
  have go : p ∈ pre ++ post → _ := fun hq => by
    have z := N p (by
      rcases List.mem_append.mp hq with h | h
      · exact List.mem_append.mpr (.inl h)
      · exact List.mem_append.mpr (.inr (.tail _ h)))
    exact (⟨hk _ _ (hoff p hq) z.1, z.2⟩ : h'.get? p.1 = some p.2 ∧ _)
  rcases List.mem_append.mp hp with h | h
  · exact go (List.mem_append.mpr (.inl h))
  · rcases List.mem_cons.mp h with rfl | h
    · exact ⟨hS, (N (D, o) (List.mem_append.mpr (.inr (.head _)))).2⟩
    · exact go (List.mem_append.mpr (.inr h))
theorem extb_at {prog : Program} {w : World} {A : Around} {E : Value → Shared → Prop} {s : Shared} {h₀ : Heap} {L D : Addr} {m : Str → Option Value} {its : Array Value} {n : Nat} {b : Array UInt8} {t : Tok} {ns : List Int} {Q : Value → Shared → Prop} (pre post : Led) (F : Fr h₀ L s.heap m) (N : News h₀ L s.heap (pre ++ ((D, W.listOf its n) :: post))) (hI : PyProof.Rows.IntsAre its.toList ns) (ho : PyProof.Rows.LCg.Off1 D (pre ++ post)) (hz : its.size + b.size ≤ 100000)
    (h : ∀ h' tk (acc : Array Value) (c : Nat), Fr h₀ L h' m → News h₀ L h' (pre ++ ((D, W.listOf acc c) :: post)) → PyProof.Rows.IntsAre acc.toList (ns ++ KBw.bInts b) → acc.size = its.size + b.size → Q .none { s with heap := h', toks := tk }) (hh : A.handled = none := by rfl) :
    wpAny (model prog w) A (call (.builtin "list.extend") [.ref D, .bytes b t]) Q E s := by
  have z := N (D, W.listOf its n) (List.mem_append.mpr (.inr (.head _)))
  refine ext_bytes hh z.1 (by rw [sizeLine_eq]; omega) fun h' tk acc' c' hk hS hP => ?_
  have hlen := hI.length
  rw [Array.length_toList] at hlen
  refine h h' tk acc' c' (Fr_but F hk z.2.1 z.2.2) (News_but N hk ho hS) (IA_of _ _ ?_ ?_) hP.1
  · rw [Array.length_toList, hP.1, List.length_append, KBw.ints_length, hlen]
  · intro j k hj
    have hjl : j < acc'.size := by
      rw [hP.1, hlen, ← KBw.ints_length, ← List.length_append]
      exact (List.getElem?_eq_some_iff.mp hj).1
    have hv : acc'[j]? = some acc'[j] := Array.getElem?_eq_getElem hjl
    rw [Array.getElem?_toList, hv]
    rcases hP.2 j _ hv with ⟨i, rfl, c, u, hc, e⟩ | ⟨hlt, e⟩
    · rw [hlen, List.getElem?_append_right (Nat.le_add_right _ _), Nat.add_sub_cancel_left, KBw.ints_get hc] at hj
      exact ⟨u, by rw [e, Option.some.inj hj]⟩
    · rw [List.getElem?_append_left (by omega)] at hj
      obtain ⟨u, hu⟩ := hI.get j k hj
      rw [Array.getElem?_toList, e] at hu
      exact ⟨u, hu⟩

noncomputable def litEnc (ks : List Int) (i : Nat) (c : Int) : List Int := if c = 13 then [92, 114] else if c = 92 ∨ isLone ks i = true then [92, c] else [c]
noncomputable def litAcc (ks : List Int) : Nat → List Int
  | 0 => [40]
  | i + 1 => litAcc ks i ++ litEnc ks i (ks.getD i 0)
noncomputable def litOct (b : Array UInt8) : List Int := litAcc (KBw.bInts b) b.size ++ [41]
theorem litAcc_len (ks : List Int) : ∀ i, (litAcc ks i).length ≤ 1 + 2 * i
  | 0 => by simp [litAcc]
  | i + 1 => by
    have := litAcc_len ks i
    have h : (litEnc ks i (ks.getD i 0)).length ≤ 2 := by unfold litEnc; (repeat' split) <;> simp
    simp only [litAcc, List.length_append]
    omega
theorem litAcc_byte {ks : List Int} (hk : ∀ k ∈ ks, 0 ≤ k ∧ k < 256) : ∀ i, ∀ n ∈ litAcc ks i, 0 ≤ n ∧ n < 256
  | 0, n, h => by simp [litAcc] at h; omega
  | i + 1, n, h => by
    rcases List.mem_append.mp h with h | h
    · exact litAcc_byte hk i n h
    · have hc : 0 ≤ ks.getD i 0 ∧ ks.getD i 0 < 256 := by
        by_cases hi : i < ks.length
        · rw [List.getD_eq_getElem?_getD, List.getElem?_eq_getElem hi]; exact hk _ (List.getElem_mem hi)
        · rw [List.getD_eq_getElem?_getD, List.getElem?_eq_none (by omega)]; exact ⟨by decide, by decide⟩
      generalize ks.getD i 0 = c at *
      unfold litEnc at h
      split at h
      · simp at h; omega
      · split at h <;> simp at h <;> omega
theorem lit13 {ks : List Int} {i : Nat} (h : ks.getD (Int.toNat (i : Int)) 0 = 13) : litAcc ks (i + 1) = litAcc ks i ++ KBw.bInts #[92, 114] := by
  rw [getD_nat] at h
  show litAcc ks i ++ litEnc ks i (ks.getD i 0) = _
  unfold litEnc; rw [if_pos h]; rfl
theorem lit92 {ks : List Int} {i : Nat} (h : ks.getD (Int.toNat (i : Int)) 0 ≠ 13) (h2 : ks.getD (Int.toNat (i : Int)) 0 = 92 ∨ isLone ks i = true) : litAcc ks (i + 1) = litAcc ks i ++ [92, ks.getD (Int.toNat (i : Int)) 0] := by
  rw [getD_nat] at h h2 ⊢
  show litAcc ks i ++ litEnc ks i (ks.getD i 0) = _
  unfold litEnc; rw [if_neg h, if_pos h2]
theorem litraw {ks : List Int} {i : Nat} (h : ks.getD (Int.toNat (i : Int)) 0 ≠ 13) (h2 : ks.getD (Int.toNat (i : Int)) 0 ≠ 92) (h3 : isLone ks i = false) : litAcc ks (i + 1) = litAcc ks i ++ [ks.getD (Int.toNat (i : Int)) 0] := by
  rw [getD_nat] at h h2 ⊢
  show litAcc ks i ++ litEnc ks i (ks.getD i 0) = _
  unfold litEnc; rw [if_neg h, if_neg (by rintro (h | h); exact h2 h; rw [h3] at h; cases h)]
theorem ln_B7_1 : True := by
  (k_with "call ref" => (k_here; k_dflt ((refine' Does.useT (lone_brackets_d ?zh0) ?zcB ?zcF ?zcX ?zcN ?zcT ?zchd ?zchu ?_); (case zcF => k_asm); (case zcN => k_extra "x n7"); (case zcB => assumption); (case zcX => assumption); (case zcT => assumption); (case zchd => k_extra "x room"); (case zchu => k_extra "x unit"); (case zh0 => omega); ((intro r9 tl9 h9 tk9 F9 N9 o9 P9); (obtain ⟨d9, od9, kvs9, z0, z1, hmod9, hod9, hV9⟩ := P9); (subst z0); (subst z1); (try simp only [List.nil_append, List.cons_append] at N9 o9); (try k_sweep); skip))))
  trivial
theorem din_int {prog : Program} {w : World} {A : Around} {E : Value → Shared → Prop} {s : Shared} {h₀ : Heap} {L d : Addr} {news : Led} {o : Obj} {kvs : List (Int × Value)} {k : Int} {t : Tok} {f : Int → Bool} {Q : Value → Shared → Prop} (N : News h₀ L s.heap news) (hm : (d, o) ∈ news) (hd : o.IsDictOf (intKind prog w) kvs) (lo : (d == sysModules) = false) (hV : ∀ k, (valueAt kvs k).isSome = f k) (h : Q (.bool (f k)) { s with toks := s.toks + 1 }) :
    wpAny (model prog w) A (compareOp .In (.int k t) (.ref d)) Q E s := kda_in (knd := intKind prog w) N hm hd lo is_int _ (hV k) h
theorem ln_B7_2 : True := by
  (k_with "compareOp In int ref" => (k_here; k_dflt (refine' din_int ?zcN ?zhm ?zhd ?zlo ?zhV ?_; (case zcN => ((rename News _ _ _ _ => N7); exact N7)); (case zhm => (repeat (first | exact List.mem_cons_self .. | refine List.mem_cons_of_mem _ ?_))); (case zhd => assumption); (case zlo => assumption); (case zhV => assumption))))
  trivial
theorem ln_B7_3 : True := by
  (k_with "call builtin:list.extend" => (k_here; k_dflt (refine' extb_at [] _ ?zcF ?zcN ?zhI ?zho ?zhz ?_; (case zcF => k_asm); (case zcN => ((rename News _ _ _ _ => N7); exact N7)); (case zhI => assumption); (case zho => ((try simp only [List.nil_append, List.cons_append]); (repeat' (first | (refine off1_of ?_; assumption) | (refine off1_lt ?_; assumption) | (refine off1_all ?_; assumption) | refine And.intro ?_ ?_ | exact trivial | ((show @Ne Nat _ _); omega) | refine off1_app ?_ ?_)))); (case zhz => ((simp only [List.size_toArray, List.length_cons, List.length_nil]); omega)); ((intro h9 tk9 acc9 c9 F9 N9 hI9 hs9); (try simp only [List.nil_append, List.cons_append] at N9); (try k_sweep)))))
  trivial
theorem literal_octets_d {w : World} {b : Array UInt8} {t : Tok} {rest : Led} (hz : b.size ≤ 20) : Does w 431 [.bytes b t] 4 [] rest (fun r _ tl => tl = [] ∧ ∃ tk, r = .bytes (byteArr (litOct b)) tk) := by
  refine' Does.of (binds := [(Str.ofString "octets", .bytes b t)]) (al := [(Str.ofString "octets", some (.bytes b t))]) ?k6 ?kb ?ks ?k7 ?k9 ?kB ?c5 ?c2 ?c3 ?c4 ?lv ?kal ?_
  (case k6 => k_dflt k_is); (case kb => conv => lhs; whnf); (case ks => conv => lhs; whnf); (case k7 => k_dflt k_is); (case k9 => exact rfl); (case kB => exact locs rfl); (case c5 => decide); (case c2 => exact rfl); (case c3 => exact rfl); (case c4 => exact rfl); (case lv => decide); (case kal => exact rfl)
  intro mean mg mb dp un outer base g L s E F N hap B X T hlt hdp hun
  (try simp only [List.nil_append, List.cons_append] at N hlt)
  k_fold
  k_extra "x stmt"
  k_extra "x stmt"
  generalize hks : KBw.bInts b = ks at *
  ((rename Fr g L _ _ => F7); (rename News g L _ _ => N8); (have F8 : Fr _ _ _ (lkm [(_, _), (_, _), (_, _)]) := F7); clear F7)
  rename Obj.IsDictOf _ _ _ => hod
  rename ∀ (k : Int), _ = isLone _ k => hV
  rename (_ == sysModules) = false => hmod
  rename _ ∧ AllLt _ rest => l1
  rename ∀ q ∈ rest, ∀ p ∈ [_], _ => hdo
  have F9 := Fr_rows [(Str.ofString "code", none), (Str.ofString "at", none), (Str.ofString "found", some (.ref _)), (Str.ofString "lone", some (.ref _)), (Str.ofString "octets", some (.bytes b t))] F8 (by repeat' (first | exact rfl | exact trivial | refine And.intro ?_ ?_)) (by repeat' (first | exact rfl | exact trivial | refine And.intro ?_ ?_))
  clear F8
  have hkl : ks.length = b.size := by rw [← hks, KBw.ints_length]
  refine seqK ?_
  refine For_invVF F9 (by rfl) (by rfl) ?_
  (repeat' ((fail_if_success (with_reducible refine mark_pi ?_)); k_extra "x one"))
  rename IsRange _ _ _ _ _ _ _ _ => hR
  rename_i FR NR hkeep
  refine range_loop (n := b.size) (fun i al nx => Ex8 fun l d od us n kvs o1 o2 => An10 (nx = (l, W.listOf us n) :: (d, od) :: rest) ((∀ p ∈ rest, p.1 < l)) ((∀ p ∈ rest, p.1 ≠ d)) (@Ne Nat d l) ((d == sysModules) = false) (us.size ≤ 1 + 2 * i) (PyProof.Rows.IntsAre us.toList (litAcc ks i)) (od.IsDictOf (intKind prg w) kvs) ((∀ k, (valueAt kvs k).isSome = isLone ks k)) (al = [(Str.ofString "code", o1), (Str.ofString "at", o2), (Str.ofString "found", some (.ref l)), (Str.ofString "lone", some (.ref d)), (Str.ofString "octets", some (.bytes b t))])) hR (small_one (by decide) (by decide) (by omega) (by omega)) (by rw [rangeSize_nat]; congr 1) FR NR ⟨_, _, _, _, _, _, _, _, rfl, allLt_mem l1.2, fun p hp => hdo p hp _ (.head _), Nat.ne_of_lt l1.1, hmod, by simp, .cons _ _ .nil, hod, hV, rfl⟩ ?_ ?_
  · rintro i v al₁ news₁ h tk own hi9 hP ho ⟨l, d, od, us, n, kvs, o1, o2, rfl, hl, hd, hdl, hm, hU, hI, hO, hV, rfl⟩ F1 N1
    obtain ⟨u, rfl⟩ := hP
    rw [Int.zero_add] at F1
    have hlo : ∀ p ∈ own, p.1 ≠ l := fun p hp => ho p hp l (.head _)
    replace N1 : News g L h ((l, W.listOf us n) :: (d, od) :: (rest ++ own)) := N1
    k_extra "x steps"
    all_goals have hus := hI.length
    all_goals rw [Array.length_toList] at hus
    · ((rename Fr g L _ _ => F7); (rename News g L _ _ => N8); (have F8 := Fr_norm (al := [(_, _), (_, _), (_, _), (_, _), (_, _), (_, _), (_, _)]) F7); clear F7)
      rename Array.size _ = Array.size _ + _ => hs9
      refine ⟨_, _, _, (l, _) :: (d, od) :: rest, rfl, F8, N8, ho, l, d, _, _, _, kvs, _, _, rfl, hl, hd, hdl, hm, ?_, ?_, hO, hV, rfl⟩
      · rw [hs9]; simp only [List.size_toArray, List.length_cons, List.length_nil]; omega
      · rw [lit13 (by assumption)]; assumption
    · ((rename Fr g L _ _ => F7); (rename News g L _ _ => N8); (have F8 := Fr_norm (al := [(_, _), (_, _), (_, _), (_, _), (_, _), (_, _), (_, _)]) F7); clear F7)
      refine ⟨_, _, _, (l, _) :: (d, od) :: rest, rfl, F8, news_tail N8, ho, l, d, _, _, _, kvs, _, _, rfl, hl, hd, hdl, hm, by simp; omega, ?_, hO, hV, rfl⟩
      rw [lit92 (by assumption) (.inl (by assumption))]; exact IA_ext hI (.cons _ _ (.cons _ _ .nil))
    · ((rename Fr g L _ _ => F7); (rename News g L _ _ => N8); (have F8 := Fr_norm (al := [(_, _), (_, _), (_, _), (_, _), (_, _), (_, _), (_, _)]) F7); clear F7)
      refine ⟨_, _, _, (l, _) :: (d, od) :: rest, rfl, F8, news_tail N8, ho, l, d, _, _, _, kvs, _, _, rfl, hl, hd, hdl, hm, by simp; omega, ?_, hO, hV, rfl⟩
      rw [lit92 (by assumption) (.inr (by assumption))]; exact IA_ext hI (.cons _ _ (.cons _ _ .nil))
    · ((rename Fr g L _ _ => F7); (rename News g L _ _ => N8); (have F8 := Fr_norm (al := [(_, _), (_, _), (_, _), (_, _), (_, _), (_, _), (_, _)]) F7); clear F7)
      refine ⟨_, _, _, (l, _) :: (d, od) :: rest, rfl, F8, N8, ho, l, d, _, _, _, kvs, _, _, rfl, hl, hd, hdl, hm, by simp; omega, ?_, hO, hV, rfl⟩
      rw [litraw (by assumption) (by assumption) (by assumption)]; exact IA_push hI
  · rintro al₁ news₁ h tk ⟨l, d, od, us, n, kvs, o1, o2, rfl, hl, hd, hdl, hm, hU, hI, hO, hV, rfl⟩ F1 N1
    try dsimp only
    k_extra "x stmt"
    k_extra "x stmt"
    ((rename Fr g L _ _ => F8); (rename News g L _ _ => N8))
    refine bytes_at F8 N8 (.head _) (IA_push hI) ?_ ?_ fun h3 t3 k3 F3 N3 => ?_
    · intro n hn
      rcases List.mem_append.mp hn with h | h
      · exact litAcc_byte (fun k hk => KBw.ints_in (hks ▸ hk)) _ n h
      · rw [List.mem_singleton.mp h]; omega
    · have := litAcc_len ks b.size
      rw [List.length_append, List.length_singleton]; omega
    exact ⟨_, [], [], _, _, rfl, F3, news_tail (news_tail N3), rfl, (fun _ _ _ h => nomatch h), rfl, _, by rw [litOct, hks]⟩

theorem ln_B8 : True := by
  k_with_none
  (k_with "ite" => first | with_reducible refine ite_tt ?_ | with_reducible refine ite_ff ?_)
  (k_with "execs nil" => (with_reducible refine wpAny_execs_nil ?_; (try dsimp only)))
  (k_with "execs cons" => (k_here; k_dflt (refine seqK ?_; (try dsimp only))))
  (k_with "x lia" => ((try clear cc); (try clear c2); (try clear lf); lia))
  (k_with "x n7" => ((rename News _ _ _ _ => N7); exact N7))
  (k_with "x room" => (first | exact room1 (by assumption) (by rfl) | exact room2 (by assumption) (by rfl) | omega))
  (k_with "x unit" => (first | exact unit1 (by assumption) (by rfl) | exact unit2 (by assumption) (by rfl) | omega))
  (k_with "x got" => ((first | ((with_reducible intro r9 h9 tk9 F9 N9 P9); (first | (obtain ⟨t9, e9⟩ := P9; subst e9) | (subst P9) | skip)) | (with_reducible intro t9 h9 tk9 F9 N9) | (with_reducible intro h9 tk9 F9 N9)); (try k_sweep)))
  (k_with "x one" => (first | (k_unfold; (try dsimp only)) | walk1 | (dsimp only; walk1)))
  (k_with "x g" => ((fail_if_success plain_pass); k_here))
  (k_with "x k" => (k_asm; k_extra "x n7"; k_extra "x ix"))
  (k_with "x c" => (k_extra "x k"; k_extra "x ev"; k_extra "x ev"))
  (k_with "x if" => (k_dflt (k_here; (with_reducible show wpAny _ _ (execs (Stmt.If (PySem.Expr.Compare (PySem.Expr.Name _ _) [CmpOp.Eq] [PySem.Expr.Constant (Const.str _) _ _] _) _ _ _ :: _) _) _ _ _); first | (apply xif_f; k_extra "x c"; exact rfl) | (apply xif_t; k_extra "x c"; exact rfl))))
  (k_with "x stmt" => ((first | k_extra "x if" | refine seqK ?_ | refine wpAny_execs_cons ?_); (repeat' ((fail_if_success (with_reducible refine mark_execs ?_)); k_extra "x one"))))
  (k_with "x steps" => (repeat' k_extra "x one"))
  (k_with "x ix" => (first | exact isX1 rfl | exact isX2 rfl | exact isX3 rfl))
  (k_with "x ev" => (first | exact Ev.str | exact Ev.int | exact Ev.none | exact Ev.bool | (apply Ev.name; exact rfl; exact rfl; exact rfl) | (apply Ev.cell; exact rfl; exact rfl; exact rfl; (first | k_mem | (repeat (first | exact List.mem_cons_self .. | refine List.mem_cons_of_mem _ ?_))); k_asm)))
  (k_with "x evs" => (focus ((repeat' (first | exact Evs.nil | apply Evs.int | (apply Evs.name; exact rfl; exact rfl; exact rfl) | (apply Evs.cell; exact rfl; exact rfl; exact rfl; (first | k_mem | (repeat (first | exact List.mem_cons_self .. | refine List.mem_cons_of_mem _ ?_))); k_asm) | exact Ev.str | exact Ev.none | exact Ev.bool | apply Evs.cons)); done)))
  (k_with "execs cons If" => ((fail_if_success plain_pass); k_extra "x if"))
  (k_with "isTrue Compare" => (k_extra "x g"; (with_reducible show wpAny _ _ (PySem.isTrue (PySem.Expr.Compare _ [_] [_] _) _ _) _ _ _); k_dflt (first | ((with_reducible show wpAny _ _ (PySem.isTrue (PySem.Expr.Compare _ [CmpOp.Eq] [_] _) _ _) _ _ _); apply ist_strL; k_extra "x c") | (apply ist_int; k_extra "x c"; exact rfl))))
  (k_with "eval Call Name" => (k_extra "x g"; k_dflt (first | (apply call_ev; exact rfl; exact rfl; exact rfl; k_extra "x k"; k_extra "x evs"; k_asm; k_asm; k_is; k_is) | (apply bcall_ev; exact rfl; exact rfl; exact rfl; exact rfl; k_extra "x k"; k_extra "x evs"; k_asm; k_asm; k_is; boot_fast; decide))))
  (k_with "callWith" => (k_extra "x g"; k_dflt (apply meth_ev; exact rfl; k_extra "x k"; k_extra "x evs")))
  (k_with "spliced" => (k_extra "x g"; k_dflt (apply args_ev; exact rfl; k_extra "x k"; k_extra "x evs")))
  (k_with "eval Attribute Name" => (k_extra "x g"; k_dflt (apply attr_ev; k_extra "x k"; k_extra "x ev")))
  (k_with "x ho" => ((try simp only [List.nil_append, List.cons_append]); (repeat' (first | (refine off1_of ?_; assumption) | (refine off1_lt ?_; assumption) | (refine off1_all ?_; assumption) | refine And.intro ?_ ?_ | exact trivial | ((show @Ne Nat _ _); omega) | refine off1_app ?_ ?_))))
  (k_with "x hz" => ((try simp only [Array.size_push, List.size_toArray, List.length_cons, List.length_nil, List.length_append]); omega))
  (k_with "x hm" => (repeat (first | exact List.mem_cons_self .. | exact List.mem_append_left _ (by assumption) | refine List.mem_cons_of_mem _ ?_)))
  (k_with "call builtin:list.append" => (k_here; k_dflt ((rename News _ _ _ _ => N7); (first | (refine' append_at [] _ ?zcF N7 ?zho ?zhz ?_) | (refine' append_at [_] _ ?zcF N7 ?zho ?zhz ?_) | (refine' append_at [_, _] _ ?zcF N7 ?zho ?zhz ?_) | (refine' append_at [_, _, _] _ ?zcF N7 ?zho ?zhz ?_)); (case zcF => k_asm); (case zho => k_extra "x ho"); (case zhz => k_extra "x hz"); ((intro h9 F9 N9); (try simp only [List.nil_append, List.cons_append] at N9); (try k_sweep)))))
  (k_with "call builtin:list.extend" => (k_here; k_dflt ((rename News _ _ _ _ => N7); (first | (refine' extend_at [] _ ?zcF N7 ?zhb ?zho ?zhne ?zhz ?_) | (refine' extend_at [_] _ ?zcF N7 ?zhb ?zho ?zhne ?zhz ?_) | (refine' extend_at [_, _] _ ?zcF N7 ?zhb ?zho ?zhne ?zhz ?_) | (refine' extend_at [_, _, _] _ ?zcF N7 ?zhb ?zho ?zhne ?zhz ?_)); (case zcF => k_asm); (case zhb => k_extra "x hm"); (case zho => k_extra "x ho"); (case zhne => k_extra "x hz"); (case zhz => k_extra "x hz"); ((intro h9 F9 N9); (try simp only [List.nil_append, List.cons_append] at N9); (try k_sweep)))))
  (k_with "setItem ref int" => (k_here; k_dflt ((rename News _ _ _ _ => N7); (first | (refine' dset_at (K := Int) (knd := intKind prg _) [] _ ?zcF N7 ?zhd ?zhk ?zho ?zhz ?_; (case zhd => assumption)) | (refine' dset_at (K := Int) (knd := intKind prg _) [_] _ ?zcF N7 ?zhd ?zhk ?zho ?zhz ?_; (case zhd => assumption)) | (refine' dset_at (K := Int) (knd := intKind prg _) [_, _] _ ?zcF N7 ?zhd ?zhk ?zho ?zhz ?_; (case zhd => assumption))); (case zcF => k_asm); (case zhk => exact is_int); (case zho => k_extra "x ho"); (case zhz => omega); ((intro h9 o9 F9 N9 hd9); (try simp only [List.nil_append, List.cons_append] at N9); (try k_sweep)))))
  (k_with "call builtin:list.pop" => (k_here; k_dflt ((rename News _ _ _ _ => N7); (first | (refine' pop_at [] _ ?zcF N7 ?zhi ?zho ?zhne ?zhz ?_; (case zhi => assumption)) | (refine' pop_at [_] _ ?zcF N7 ?zhi ?zho ?zhne ?zhz ?_; (case zhi => assumption))); (case zcF => k_asm); (case zho => k_extra "x ho"); (case zhne => omega); (case zhz => omega); ((intro h9 t9 us9 n9 F9 N9 hI9 hs9); (try simp only [List.nil_append, List.cons_append] at N9); (try k_sweep)))))
  (k_with "truthy ref" => (k_here; k_dflt ((rename News _ _ _ _ => N7); refine' truthy_at N7 ?zhm ?zhz ?_ ?_; (case zhm => k_extra "x hm"); (case zhz => omega)); intro htr))
  trivial
theorem litOct_len (b : Array UInt8) : (litOct b).length ≤ 2 + 2 * b.size := by
  have := litAcc_len (KBw.bInts b) b.size
  simp only [litOct, List.length_append, List.length_singleton]; omega
theorem len_byteArr {prog : Program} {w : World} {A : Around} {E : Value → Shared → Prop} {s : Shared} {ns : List Int} {t : Tok} {Q : Value → Shared → Prop} (hz : ns.length ≤ 100000) (h : Q (.int ns.length (s.toks + 1)) { s with toks := s.toks + 1 + 1 }) : wpAny (model prog w) A (call (.builtin "len") [.bytes (byteArr ns) t]) Q E s := by
  have e : (KBw.bInts (byteArr ns)).length = ns.length := by rw [KBw.ints_length, byteArr_size]
  exact KBw.len_K rfl (by omega) (by rw [e]; exact h)
theorem ln_B8_1 : True := by
  (k_with "call builtin:len cons nil" => (k_here; k_dflt (refine' len_byteArr ?zhz ?_; (case zhz => omega))))
  trivial
theorem ln_B8_2 : True := by
  (k_with "call ref" => (k_here; k_dflt ((first | refine' Does.use0E (literal_octets_d ?zp0) ?zcB ?zcF ?zcX ?zcN ?zcT ?zchd ?zchu ?_ | refine' Does.use0V (literal_octets_d ?zp0) ?zcB ?zcF ?zcX ?zcN ?zcT ?zchd ?zchu ?_ | refine' Does.use0 (literal_octets_d ?zp0) ?zcB ?zcF ?zcX ?zcN ?zcT ?zchd ?zchu ?_); (case zcB => assumption); (case zcF => k_asm); (case zcX => assumption); (case zcN => k_asm); (case zcT => assumption); (case zchd => k_extra "x room"); (case zchu => k_extra "x unit"); (case zp0 => omega); (k_extra "x got"))))
  trivial
theorem ln_B8_3 : True := by
  (k_with "call ref" => (k_here; k_dflt ((first | refine' Does.use0E (hex_octets_d ?zp0) ?zcB ?zcF ?zcX ?zcN ?zcT ?zchd ?zchu ?_ | refine' Does.use0V (hex_octets_d ?zp0) ?zcB ?zcF ?zcX ?zcN ?zcT ?zchd ?zchu ?_ | refine' Does.use0 (hex_octets_d ?zp0) ?zcB ?zcF ?zcX ?zcN ?zcT ?zchd ?zchu ?_); (case zcB => assumption); (case zcF => k_asm); (case zcX => assumption); (case zcN => k_asm); (case zcT => assumption); (case zchd => k_extra "x room"); (case zchu => k_extra "x unit"); (case zp0 => omega); (k_extra "x got"))))
  trivial
theorem string_octets_d {w : World} {x dx : Addr} {n : Nat} {k1 k2 : Int} {t1 t2 ta : Tok} {b : Array UInt8} {hx : Bool} {rest : Led} (m1 : (x, instObj 205 dx) ∈ rest) (m2 : (dx, dictOf [⟨k1, .str (Str.ofString "octets") t1, .bytes b ta⟩, ⟨k2, .str (Str.ofString "is_hex") t2, .bool hx⟩] n) ∈ rest) (hz : b.size ≤ 20) :
    Does w 445 [.ref x, .bool true] 6 [] rest (fun r _ tl => tl = [] ∧ ∃ tk, r = .bytes (byteArr (litOct b)) tk) := by
  refine' Does.of (binds := [(Str.ofString "value", .ref x), (Str.ofString "is_least", .bool true)]) (al := [(Str.ofString "is_least", some (.bool true)), (Str.ofString "value", some (.ref x))]) ?k6 ?kb ?ks ?k7 ?k9 ?kB ?c5 ?c2 ?c3 ?c4 ?lv ?kal ?_
  (case k6 => k_dflt k_is); (case kb => conv => lhs; whnf); (case ks => conv => lhs; whnf); (case k7 => k_dflt k_is); (case k9 => exact rfl); (case kB => exact locs rfl); (case c5 => decide); (case c2 => exact rfl); (case c3 => exact rfl); (case c4 => exact rfl); (case lv => decide); (case kal => exact rfl)
  intro mean mg mb dp un outer base g L s E F N hap B X T hlt hdp hun
  (try simp only [List.nil_append, List.cons_append] at N hlt)
  k_fold
  have e1 := litOct_len b
  have e2 := hexOct_len b
  k_extra "x steps"
  ((rename Fr g L _ _ => F8); (rename News g L _ _ => N8))
  exact ⟨_, [], [], _, _, rfl, F8, N8, rfl, (fun _ _ _ h => nomatch h), rfl, _, rfl⟩

theorem ln_B9_1 : True := by
  (k_with "call ref" => (k_here; k_dflt ((first | refine' Does.use0E (sign_text_d ) ?zcB ?zcF ?zcX ?zcN ?zcT ?zchd ?zchu ?_ | refine' Does.use0V (sign_text_d ) ?zcB ?zcF ?zcX ?zcN ?zcT ?zchd ?zchu ?_ | refine' Does.use0 (sign_text_d ) ?zcB ?zcF ?zcX ?zcN ?zcT ?zchd ?zchu ?_); (case zcB => assumption); (case zcF => k_asm); (case zcX => assumption); (case zcN => k_asm); (case zcT => assumption); (case zchd => k_extra "x room"); (case zchu => k_extra "x unit"); (k_extra "x got"))))
  trivial
noncomputable def decN (a : Int) : Str := Str.ofString (toString (if a < 0 then -a else a))
noncomputable def decPad (a b : Int) : Str := Txt.mul (Str.ofString "0") (b + 1 - ((decN a).cps.size : Int)) ++ decN a
noncomputable def decText (a b : Int) : Str := (if a < 0 then Str.ofString "-" else Str.ofString "") ++ ((Txt.slice (decPad a b) none (some (-b)) ++ Str.ofString ".") ++ Txt.slice (decPad a b) (some (-b)) none)
section
variable {prog : Program} {w : World} {A : Around} {E : Value → Shared → Prop} {s : Shared}
theorem len_strL {x : Str} {t : Tok} {Q : Value → Shared → Prop} (hz : x.cps.size ≤ 100000) (h : Q (.int (x.cps.size : Nat) (s.toks + 1)) { s with toks := s.toks + 1 + 1 }) : wpAny (model prog w) A (call (.builtin "len") [.str x t]) Q E s :=
  PySem.P.len_str (by show ¬ ((x.cps.size : Nat) : Int) ≥ 2 ^ 63; omega) h
theorem zeros_size (n : Nat) : ∀ (acc : Array Nat), ((List.replicate n (Str.ofString "0").cps).foldl (· ++ ·) acc).size = acc.size + n := by
  induction n with
  | zero => intro acc; rfl
  | succ n ih =>
    intro acc
    rw [List.replicate_succ, List.foldl_cons, ih, Array.size_append]
    have : (Str.ofString "0").cps.size = 1 := rfl
    omega
theorem ofString_size1 : (Str.ofString ".").cps.size = 1 := rfl
theorem mul0_size {n : Int} (h : n ≤ 100) : (Txt.mul (Str.ofString "0") n).cps.size ≤ 100 := by
  unfold Txt.mul
  split
  · show (Str.empty).cps.size ≤ 100; decide
  · split
    · show (Str.ofString "0").cps.size ≤ 100; decide
    · show (Array.size _) ≤ 100
      rw [zeros_size]
      show 0 + n.toNat ≤ 100
      omega
theorem mul0 {n : Int} {t u : Tok} {Q : Value → Shared → Prop} (h1 : n ≤ 100) (h0 : -100 ≤ n) (h : ∀ y t' k, y = Txt.mul (Str.ofString "0") n → y.cps.size ≤ 100 → Q (.str y t') { s with toks := k }) : wpAny (model prog w) A (binaryOp .Mult (.str (Str.ofString "0") t) (.int n u)) Q E s := by
  refine SB.mul ⟨?_, ?_, ?_⟩ fun t' k => h _ t' k rfl (mul0_size h1)
  · simp; omega
  · intro a _ hb
    have e : ((Str.ofString "0").length : Int) = 1 := rfl
    rw [e] at hb
    have : (2 ^ 63 - 1 : Int) / n ≥ 1 := by
      refine (Int.le_ediv_iff_mul_le (by omega)).mpr (by omega)
    omega
  · intro _ _
    have e : (Str.ofString "0").length = 1 := rfl
    rw [e]
    unfold Builtin.Str.tooLong
    rw [decide_eq_false_iff_not, sizeLine_eq]
    omega
theorem add_strL {x y : Str} {t u : Tok} {Q : Value → Shared → Prop} (hz : x.cps.size + y.cps.size ≤ 100000) (h : ∀ z t' k, z = x ++ y → z.cps.size = x.cps.size + y.cps.size → Q (.str z t') { s with toks := k }) : wpAny (model prog w) A (binaryOp .Add (.str x t) (.str y u)) Q E s :=
  PySem.SB.add (fun t' k => h _ t' k rfl (by show (x.cps ++ y.cps).size = _; rw [Array.size_append])) (by show x.cps.size + y.cps.size ≤ _; rw [sizeLine_eq]; omega)
theorem slice_nsL {h₀ : Heap} {L : Addr} {m : Str → Option Value} {news : Led} {x : Str} {t : Tok} {j : Int} {uj : Tok} {value slice : PySem.Expr} {Q : Value → Shared → Prop} (hF : Fr h₀ L s.heap m) (hN : News h₀ L s.heap news) (hz : x.cps.size ≤ 100000) (h : ∀ z h' t' k, Fr h₀ L h' m → News h₀ L h' news → z = Txt.slice x none (some j) → z.cps.size ≤ x.cps.size → Q (.str z t') { s with heap := h', toks := k })
    (hs : subscripted slice false (.str x t) (.ref s.heap.objs.size) = operate [.ref s.heap.objs.size, .str x t] (getItem (.str x t) (.ref s.heap.objs.size)) := by with_unfolding_all rfl)
    (ht : ∀ r, letTemporaryGo value (.str x t) r = pure () := by intro _; with_unfolding_all rfl) :
    wpAny (model prog w) A (subscriptTail value slice (.str x t) (.ref s.heap.objs.size)) Q E { s with heap := s.heap.push { cls := .type "slice", data := .fields #[.none, .int j uj, .none] } } :=
  slice_strN_ns hF hN (fun h' t' k F N => h _ h' t' k F N rfl (Txt.slice_le x _ _)) hs ht (by show x.cps.size ≤ _; rw [sizeLine_eq]; omega)
theorem slice_snL {h₀ : Heap} {L : Addr} {m : Str → Option Value} {news : Led} {x : Str} {t : Tok} {i : Int} {ui : Tok} {value slice : PySem.Expr} {Q : Value → Shared → Prop} (hF : Fr h₀ L s.heap m) (hN : News h₀ L s.heap news) (hz : x.cps.size ≤ 100000) (h : ∀ z h' t' k, Fr h₀ L h' m → News h₀ L h' news → z = Txt.slice x (some i) none → z.cps.size ≤ x.cps.size → Q (.str z t') { s with heap := h', toks := k })
    (hs : subscripted slice false (.str x t) (.ref s.heap.objs.size) = operate [.ref s.heap.objs.size, .str x t] (getItem (.str x t) (.ref s.heap.objs.size)) := by with_unfolding_all rfl)
    (ht : ∀ r, letTemporaryGo value (.str x t) r = pure () := by intro _; with_unfolding_all rfl) :
    wpAny (model prog w) A (subscriptTail value slice (.str x t) (.ref s.heap.objs.size)) Q E { s with heap := s.heap.push { cls := .type "slice", data := .fields #[.int i ui, .none, .none] } } :=
  slice_strN_sn hF hN (fun h' t' k F N => h _ h' t' k F N rfl (Txt.slice_le x _ _)) hs ht (by show x.cps.size ≤ _; rw [sizeLine_eq]; omega)
end
theorem ln_B9_2 : True := by
  (k_with "call builtin:len cons nil" => (k_here; k_dflt (refine' len_strL ?zhz ?_; (case zhz => omega))))
  trivial
theorem ln_B9_3 : True := by
  (k_with "binaryOp Mult str int" => (k_here; k_dflt (refine' mul0 ?zh1 ?zh0 ?_; (case zh1 => omega); (case zh0 => omega); intro y9 t9 k9 hy9 hs9)))
  trivial
theorem ln_B9_4 : True := by
  (k_with "binaryOp Add str str" => (k_here; k_dflt (refine' add_strL ?zhz ?_; (case zhz => ((try simp only [ofString_size1]); omega)); intro y9 t9 k9 hy9 hs9; (try simp only [ofString_size1] at hs9))))
  trivial
theorem ln_B9_5 : True := by
  (k_with "subscriptTail Name Slice str ref" => (k_here; k_dflt ((first | (refine' slice_nsL ?zhF ?zhN ?zhz ?_) | (refine' slice_snL ?zhF ?zhN ?zhz ?_)); (case zhF => k_asm); (case zhN => k_asm); (case zhz => omega); (intro z9 h9 t9 k9 F9 N9 hz9 hs9); (try k_sweep))))
  trivial
theorem dec_text_d {w : World} {x dx : Addr} {n : Nat} {k1 k2 : Int} {t1 t2 ta tb : Tok} {a b : Int} {rest : Led} (m1 : (x, instObj 155 dx) ∈ rest) (m2 : (dx, dictOf [⟨k1, .str (Str.ofString "top") t1, .int a ta⟩, ⟨k2, .str (Str.ofString "places") t2, .int b tb⟩] n) ∈ rest)
   (h0 : -1000 ≤ a) (h1 : a ≤ 1000) (h2 : 0 < b) (h3 : b ≤ 3) : Does w 145 [.ref x] 3 [] rest (fun r _ tl => tl = [] ∧ ∃ tk, r = .str (decText a b) tk) := by
  have hN2 : (decN a).cps.size ≤ 8 := int_len (by split <;> omega) (by split <;> omega)
  have hsg : (if a < 0 then Str.ofString "-" else Str.ofString "").cps.size ≤ 1 := by split <;> decide
  have hd : decN a = Str.ofString (toString (if a < 0 then -a else a)) := rfl
  refine' Does.of (binds := [(Str.ofString "self", .ref x)]) (al := [(Str.ofString "self", some (.ref x))]) ?k6 ?kb ?ks ?k7 ?k9 ?kB ?c5 ?c2 ?c3 ?c4 ?lv ?kal ?_
  (case k6 => k_dflt k_is); (case kb => conv => lhs; whnf); (case ks => conv => lhs; whnf); (case k7 => k_dflt k_is); (case k9 => exact rfl); (case kB => exact locs rfl); (case c5 => decide); (case c2 => exact rfl); (case c3 => exact rfl); (case c4 => exact rfl); (case lv => decide); (case kal => exact rfl)
  intro mean mg mb dp un outer base g L s E F N hap B X T hlt hdp hun
  (try simp only [List.nil_append, List.cons_append] at N hlt)
  k_fold
  k_extra "x stmt"
  rw [← hd] at *
  generalize hN : decN a = N at *
  k_extra "x stmt"
  k_extra "x stmt"
  k_extra "x stmt"
  k_extra "x steps"
  ((rename Fr g L _ _ => F8); (rename News g L _ _ => N8))
  refine ⟨_, [], [], _, _, rfl, F8, N8, rfl, (fun _ _ _ h => nomatch h), rfl, _, congrArg (Value.str · _) ?_⟩
  subst_vars
  rfl

theorem ln_BA : True := by
  k_with_none
  (k_with "ite" => first | with_reducible refine ite_tt ?_ | with_reducible refine ite_ff ?_)
  (k_with "execs nil" => (with_reducible refine wpAny_execs_nil ?_; (try dsimp only)))
  (k_with "execs cons" => (k_here; k_dflt (refine seqK ?_; (try dsimp only))))
  (k_with "x lia" => ((try clear cc); (try clear c2); (try clear lf); lia))
  (k_with "x n7" => ((rename News _ _ _ _ => N7); exact N7))
  (k_with "x room" => (first | exact room1 (by assumption) (by rfl) | exact room2 (by assumption) (by rfl) | omega))
  (k_with "x unit" => (first | exact unit1 (by assumption) (by rfl) | exact unit2 (by assumption) (by rfl) | omega))
  (k_with "x got" => ((first | ((with_reducible intro r9 h9 tk9 F9 N9 P9); (first | (obtain ⟨t9, e9⟩ := P9; subst e9) | (subst P9) | skip)) | (with_reducible intro t9 h9 tk9 F9 N9) | (with_reducible intro h9 tk9 F9 N9)); (try k_sweep)))
  (k_with "x one" => (first | (k_unfold; (try dsimp only)) | walk1 | (dsimp only; walk1)))
  (k_with "x g" => ((fail_if_success plain_pass); k_here))
  (k_with "x k" => (k_asm; k_extra "x n7"; k_extra "x ix"))
  (k_with "x c" => (k_extra "x k"; k_extra "x ev"; k_extra "x ev"))
  (k_with "x if" => (k_dflt (k_here; (with_reducible show wpAny _ _ (execs (Stmt.If (PySem.Expr.Compare (PySem.Expr.Name _ _) [CmpOp.Eq] [PySem.Expr.Constant (Const.str _) _ _] _) _ _ _ :: _) _) _ _ _); first | (apply xif_f; k_extra "x c"; exact rfl) | (apply xif_t; k_extra "x c"; exact rfl))))
  (k_with "x stmt" => ((first | k_extra "x if" | refine seqK ?_ | refine wpAny_execs_cons ?_); (repeat' ((fail_if_success (with_reducible refine mark_execs ?_)); k_extra "x one"))))
  (k_with "x steps" => (repeat' k_extra "x one"))
  (k_with "x ix" => (first | exact isX1 rfl | exact isX2 rfl | exact isX3 rfl))
  (k_with "x ev" => (first | exact Ev.str | exact Ev.int | exact Ev.none | exact Ev.bool | (apply Ev.name; exact rfl; exact rfl; exact rfl) | (apply Ev.cell; exact rfl; exact rfl; exact rfl; (first | k_mem | (repeat (first | exact List.mem_cons_self .. | refine List.mem_cons_of_mem _ ?_))); k_asm)))
  (k_with "x evs" => (focus ((repeat' (first | exact Evs.nil | apply Evs.int | (apply Evs.name; exact rfl; exact rfl; exact rfl) | (apply Evs.cell; exact rfl; exact rfl; exact rfl; (first | k_mem | (repeat (first | exact List.mem_cons_self .. | refine List.mem_cons_of_mem _ ?_))); k_asm) | exact Ev.str | exact Ev.none | exact Ev.bool | apply Evs.cons)); done)))
  (k_with "execs cons If" => ((fail_if_success plain_pass); k_extra "x if"))
  (k_with "isTrue Compare" => (k_extra "x g"; (with_reducible show wpAny _ _ (PySem.isTrue (PySem.Expr.Compare _ [_] [_] _) _ _) _ _ _); k_dflt (first | ((with_reducible show wpAny _ _ (PySem.isTrue (PySem.Expr.Compare _ [CmpOp.Eq] [_] _) _ _) _ _ _); apply ist_strL; k_extra "x c") | (apply ist_int; k_extra "x c"; exact rfl))))
  (k_with "eval Call Name" => (k_extra "x g"; k_dflt (first | (apply call_ev; exact rfl; exact rfl; exact rfl; k_extra "x k"; k_extra "x evs"; k_asm; k_asm; k_is; k_is) | (apply bcall_ev; exact rfl; exact rfl; exact rfl; exact rfl; k_extra "x k"; k_extra "x evs"; k_asm; k_asm; k_is; boot_fast; decide))))
  (k_with "callWith" => (k_extra "x g"; k_dflt (apply meth_ev; exact rfl; k_extra "x k"; k_extra "x evs")))
  (k_with "spliced" => (k_extra "x g"; k_dflt (apply args_ev; exact rfl; k_extra "x k"; k_extra "x evs")))
  (k_with "eval Attribute Name" => (k_extra "x g"; k_dflt (apply attr_ev; k_extra "x k"; k_extra "x ev")))
  (k_with "x ho" => ((try simp only [List.nil_append, List.cons_append]); (repeat' (first | (refine off1_of ?_; assumption) | (refine off1_lt ?_; assumption) | (refine off1_all ?_; assumption) | refine And.intro ?_ ?_ | exact trivial | ((show @Ne Nat _ _); omega) | refine off1_app ?_ ?_))))
  (k_with "x hz" => ((try simp only [Array.size_push, List.size_toArray, List.length_cons, List.length_nil, List.length_append]); omega))
  (k_with "x hm" => (repeat (first | exact List.mem_cons_self .. | exact List.mem_append_left _ (by assumption) | refine List.mem_cons_of_mem _ ?_)))
  (k_with "call builtin:list.append" => (k_here; k_dflt ((rename News _ _ _ _ => N7); (first | (refine' append_at [] _ ?zcF N7 ?zho ?zhz ?_) | (refine' append_at [_] _ ?zcF N7 ?zho ?zhz ?_) | (refine' append_at [_, _] _ ?zcF N7 ?zho ?zhz ?_) | (refine' append_at [_, _, _] _ ?zcF N7 ?zho ?zhz ?_)); (case zcF => k_asm); (case zho => k_extra "x ho"); (case zhz => k_extra "x hz"); ((intro h9 F9 N9); (try simp only [List.nil_append, List.cons_append] at N9); (try k_sweep)))))
  (k_with "call builtin:list.extend" => (k_here; k_dflt ((rename News _ _ _ _ => N7); (first | (refine' extend_at [] _ ?zcF N7 ?zhb ?zho ?zhne ?zhz ?_) | (refine' extend_at [_] _ ?zcF N7 ?zhb ?zho ?zhne ?zhz ?_) | (refine' extend_at [_, _] _ ?zcF N7 ?zhb ?zho ?zhne ?zhz ?_) | (refine' extend_at [_, _, _] _ ?zcF N7 ?zhb ?zho ?zhne ?zhz ?_)); (case zcF => k_asm); (case zhb => k_extra "x hm"); (case zho => k_extra "x ho"); (case zhne => k_extra "x hz"); (case zhz => k_extra "x hz"); ((intro h9 F9 N9); (try simp only [List.nil_append, List.cons_append] at N9); (try k_sweep)))))
  (k_with "binaryOp Add str str" => (k_here; k_dflt (refine' add_strL ?zhz ?_; (case zhz => ((try simp only [ofString_size1]); omega)); intro y9 t9 k9 hy9 hs9; (try simp only [ofString_size1] at hs9))))
  (k_with "subscriptTail Name Slice str ref" => (k_here; k_dflt ((first | (refine' slice_nsL ?zhF ?zhN ?zhz ?_) | (refine' slice_snL ?zhF ?zhN ?zhz ?_)); (case zhF => k_asm); (case zhN => k_asm); (case zhz => omega); (intro z9 h9 t9 k9 F9 N9 hz9 hs9); (try k_sweep))))
  (k_with "setItem ref int" => (k_here; k_dflt ((rename News _ _ _ _ => N7); (first | (refine' dset_at (K := Int) (knd := intKind prg _) [] _ ?zcF N7 ?zhd ?zhk ?zho ?zhz ?_; (case zhd => assumption)) | (refine' dset_at (K := Int) (knd := intKind prg _) [_] _ ?zcF N7 ?zhd ?zhk ?zho ?zhz ?_; (case zhd => assumption)) | (refine' dset_at (K := Int) (knd := intKind prg _) [_, _] _ ?zcF N7 ?zhd ?zhk ?zho ?zhz ?_; (case zhd => assumption))); (case zcF => k_asm); (case zhk => exact is_int); (case zho => k_extra "x ho"); (case zhz => omega); ((intro h9 o9 F9 N9 hd9); (try simp only [List.nil_append, List.cons_append] at N9); (try k_sweep)))))
  (k_with "call builtin:list.pop" => (k_here; k_dflt ((rename News _ _ _ _ => N7); (first | (refine' pop_at [] _ ?zcF N7 ?zhi ?zho ?zhne ?zhz ?_; (case zhi => assumption)) | (refine' pop_at [_] _ ?zcF N7 ?zhi ?zho ?zhne ?zhz ?_; (case zhi => assumption))); (case zcF => k_asm); (case zho => k_extra "x ho"); (case zhne => omega); (case zhz => omega); ((intro h9 t9 us9 n9 F9 N9 hI9 hs9); (try simp only [List.nil_append, List.cons_append] at N9); (try k_sweep)))))
  (k_with "truthy ref" => (k_here; k_dflt ((rename News _ _ _ _ => N7); refine' truthy_at N7 ?zhm ?zhz ?_ ?_; (case zhm => k_extra "x hm"); (case zhz => omega)); intro htr))
  trivial
open PySem.StrLaws PySem.Builtin.Str
noncomputable def dot : Str := Str.ofString "."
theorem at_dot (p s1 s2 : Str) : At (p ++ ((s1 ++ dot) ++ s2)) dot (p ++ ((s1 ++ dot) ++ s2)).length (p.cps.size + s1.cps.size) := by
  have e : (p ++ ((s1 ++ dot) ++ s2)).cps = p.cps ++ ((s1.cps ++ dot.cps) ++ s2.cps) := rfl
  have hd : dot.cps.size = 1 := rfl
  have hl : dot.length = 1 := rfl
  have ht : dot.cps.toList = [46] := rfl
  refine ⟨?_, ?_⟩
  · show _ ≤ (p ++ ((s1 ++ dot) ++ s2)).cps.size
    rw [e, hl, Array.size_append, Array.size_append, Array.size_append, hd]
    omega
  · rw [subAt_eq, e, hl, ht]
    have : (p.cps ++ ((s1.cps ++ dot.cps) ++ s2.cps)).toList = (p.cps.toList ++ s1.cps.toList) ++ 46 :: s2.cps.toList := by
      simp [Array.toList_append, ht]
    rw [this, List.drop_append_of_le_length (by simp), List.drop_of_length_le (by simp)]
    rfl
theorem find_dot {p s1 s2 : Str} : (occurrences (p ++ ((s1 ++ dot) ++ s2)) dot 0 (p ++ ((s1 ++ dot) ++ s2)).length 1) ≠ [] := by
  rcases occ_head (p ++ ((s1 ++ dot) ++ s2)) dot 1 (by decide) with ⟨h, hn⟩ | ⟨i, r, h, _⟩
  · exact absurd (at_dot p s1 s2) (hn _)
  · rw [h]; exact List.cons_ne_nil _ _
theorem index_dot {prog : Program} {w : World} {A : Around} {E : Value → Shared → Prop} {s : Shared} {a b : Int} {t u : Tok} {Q : Value → Shared → Prop} (h : Q (.int (Txt.find (decText a b) dot) s.toks) { s with toks := s.toks + 1 }) (hA : A.handled = none := by rfl) : wpAny (model prog w) A (call (.builtin "str.index") [.str (decText a b) t, .str dot u]) Q E s := by
  refine PyProof.Rows.index_or hA (fun _ he => ?_) fun _ _ => h
  have : (occurrences (decText a b) dot 0 (decText a b).length 1) ≠ [] := find_dot
  rw [List.isEmpty_iff] at he
  exact absurd he this
noncomputable def decLeast (a b : Int) : Str := if (10 : Int) ^ b.toNat ≤ (if a < 0 then -a else a) ∨ a = 0 then decText a b else (if a < 0 then Str.ofString "-" else Str.ofString "") ++ Txt.slice (decText a b) (some (Txt.find (decText a b) dot)) none
theorem mul0_size' (n : Int) : (Txt.mul (Str.ofString "0") n).cps.size ≤ n.toNat := by
  unfold Txt.mul
  split
  · show (Str.empty).cps.size ≤ _; exact Nat.zero_le _
  · split
    · rename_i h1 h2
      simp only [Bool.or_eq_true, beq_iff_eq] at h2
      rcases h2 with h2 | h2
      · subst h2; decide
      · exact absurd h2 (by decide)
    · show (Array.size _) ≤ _
      rw [zeros_size]
      show 0 + n.toNat ≤ _
      omega
theorem decText_size {a b : Int} (h0 : -1000 ≤ a) (h1 : a ≤ 1000) (hb : b ≤ 3) : (decText a b).cps.size ≤ 26 := by
  have hsg : (if a < 0 then Str.ofString "-" else Str.ofString "").cps.size ≤ 1 := by split <;> decide
  have hN2 : (decN a).cps.size ≤ 8 := int_len (by split <;> omega) (by split <;> omega)
  have hp : (decPad a b).cps.size ≤ 12 := by
    show (_ ++ _ : Array Nat).size ≤ 12
    rw [Array.size_append]
    have := mul0_size' (b + 1 - ((decN a).cps.size : Int))
    omega
  show ((if a < 0 then Str.ofString "-" else Str.ofString "").cps ++ (((Txt.slice (decPad a b) none (some (-b))).cps ++ (Str.ofString ".").cps) ++ (Txt.slice (decPad a b) (some (-b)) none).cps)).size ≤ 26
  rw [Array.size_append, Array.size_append, Array.size_append]
  have h3 : (Txt.slice (decPad a b) none (some (-b))).cps.size ≤ (decPad a b).cps.size := Txt.slice_le _ _ _
  have h4 : (Txt.slice (decPad a b) (some (-b)) none).cps.size ≤ (decPad a b).cps.size := Txt.slice_le _ _ _
  rw [ofString_size1]
  omega
theorem ln_BA_1 : True := by
  (k_with "call ref" => (k_here; k_dflt ((first | refine' Does.use0E (sign_text_d ) ?zcB ?zcF ?zcX ?zcN ?zcT ?zchd ?zchu ?_ | refine' Does.use0V (sign_text_d ) ?zcB ?zcF ?zcX ?zcN ?zcT ?zchd ?zchu ?_ | refine' Does.use0 (sign_text_d ) ?zcB ?zcF ?zcX ?zcN ?zcT ?zchd ?zchu ?_); (case zcB => assumption); (case zcF => k_asm); (case zcX => assumption); (case zcN => k_asm); (case zcT => assumption); (case zchd => k_extra "x room"); (case zchu => k_extra "x unit"); (k_extra "x got"))))
  trivial
theorem ln_BA_2 : True := by
  (k_with "call ref" => (k_here; k_dflt ((first | refine' Does.use0E (dec_text_d ?zp0 ?zp1 ?zp2 ?zp3 ?zp4 ?zp5) ?zcB ?zcF ?zcX ?zcN ?zcT ?zchd ?zchu ?_ | refine' Does.use0V (dec_text_d ?zp0 ?zp1 ?zp2 ?zp3 ?zp4 ?zp5) ?zcB ?zcF ?zcX ?zcN ?zcT ?zchd ?zchu ?_ | refine' Does.use0 (dec_text_d ?zp0 ?zp1 ?zp2 ?zp3 ?zp4 ?zp5) ?zcB ?zcF ?zcX ?zcN ?zcT ?zchd ?zchu ?_); (case zcB => assumption); (case zcF => k_asm); (case zcX => assumption); (case zcN => k_asm); (case zcT => assumption); (case zchd => k_extra "x room"); (case zchu => k_extra "x unit"); (case zp0 => first | assumption | omega); (case zp1 => first | assumption | omega); (case zp2 => first | assumption | omega); (case zp3 => first | assumption | omega); (case zp4 => first | assumption | omega); (case zp5 => first | assumption | omega); (k_extra "x got"))))
  trivial
theorem ln_BA_3 : True := by
  (k_with "call builtin:str.index" => (k_here; k_dflt (refine index_dot ?_)))
  trivial
theorem pow10L {prog : Program} {w : World} {A : Around} {E : Value → Shared → Prop} {s : Shared} {b : Int} {t u : Tok} {Q : Value → Shared → Prop} (h0 : 0 ≤ b) (h1 : b ≤ 3) (h : ∀ p, p = (10 : Int) ^ b.toNat → Q (.int p s.toks) { s with toks := s.toks + 1 }) : wpAny (model prog w) A (binaryOp .Pow (.int 10 t) (.int b u)) Q E s :=
  pow_int_small h0 (by omega) (by decide) (h _ rfl)
theorem ln_BA_4 : True := by
  (k_with "binaryOp Pow int int" => (k_here; k_dflt (refine' pow10L ?zh1 ?zh2 ?_; (case zh1 => omega); (case zh2 => omega); intro p9 hp9)))
  trivial
theorem least_text_d {w : World} {x dx : Addr} {n : Nat} {k1 k2 : Int} {t1 t2 ta tb : Tok} {a b : Int} {rest : Led} (m1 : (x, instObj 155 dx) ∈ rest) (m2 : (dx, dictOf [⟨k1, .str (Str.ofString "top") t1, .int a ta⟩, ⟨k2, .str (Str.ofString "places") t2, .int b tb⟩] n) ∈ rest)
   (h0 : -1000 ≤ a) (h1 : a ≤ 1000) (h2 : 0 < b) (h3 : b ≤ 3) : Does w 152 [.ref x] 5 [] rest (fun r _ tl => tl = [] ∧ ∃ tk, r = .str (decLeast a b) tk) := by
  have hsz := decText_size h0 h1 h3
  have hsg : (if a < 0 then Str.ofString "-" else Str.ofString "").cps.size ≤ 1 := by split <;> decide
  refine' Does.of (binds := [(Str.ofString "self", .ref x)]) (al := [(Str.ofString "self", some (.ref x))]) ?k6 ?kb ?ks ?k7 ?k9 ?kB ?c5 ?c2 ?c3 ?c4 ?lv ?kal ?_
  (case k6 => k_dflt k_is); (case kb => conv => lhs; whnf); (case ks => conv => lhs; whnf); (case k7 => k_dflt k_is); (case k9 => exact rfl); (case kB => exact locs rfl); (case c5 => decide); (case c2 => exact rfl); (case c3 => exact rfl); (case c4 => exact rfl); (case lv => decide); (case kal => exact rfl)
  intro mean mg mb dp un outer base g L s E F N hap B X T hlt hdp hun
  (try simp only [List.nil_append, List.cons_append] at N hlt)
  k_fold
  k_extra "x stmt"
  k_extra "x stmt"
  · k_extra "x stmt"
    ((rename Fr g L _ _ => F8); (rename News g L _ _ => N8))
    refine ⟨_, [], [], _, _, rfl, F8, N8, rfl, (fun _ _ _ h => nomatch h), rfl, _, congrArg (Value.str · _) ?_⟩
    rw [decLeast, if_pos (.inl (by subst_vars; assumption))]
  · k_extra "x stmt"
    ((rename Fr g L _ _ => F8); (rename News g L _ _ => N8))
    refine ⟨_, [], [], _, _, rfl, F8, N8, rfl, (fun _ _ _ h => nomatch h), rfl, _, congrArg (Value.str · _) ?_⟩
    rw [decLeast, if_pos (.inr (by assumption))]
  k_extra "x steps"
  ((rename Fr g L _ _ => F8); (rename News g L _ _ => N8))
  refine ⟨_, [], [], _, _, rfl, F8, N8, rfl, (fun _ _ _ h => nomatch h), rfl, _, congrArg (Value.str · _) ?_⟩
  rename ¬ _ ≤ _ => hn1
  rename a ≠ 0 => hn2
  rename _ = (10 : Int) ^ _ => hp9
  rename _ = Txt.slice _ _ _ => hz9
  rename _ = _ ++ _ => hy9
  rw [decLeast, if_neg (fun h => h.elim (hp9 ▸ hn1) hn2), hy9, hz9]

open PySem.StrLaws PySem.Builtin.Str
noncomputable def ascii (x : Str) : Prop := ∀ c ∈ x.cps.toList, c < 128
theorem ascii_app {x y : Str} (hx : ascii x) (hy : ascii y) : ascii (x ++ y) := by
  intro c hc
  have : (x ++ y).cps.toList = x.cps.toList ++ y.cps.toList := by show (x.cps ++ y.cps).toList = _; rw [Array.toList_append]
  rw [this] at hc
  exact (List.mem_append.mp hc).elim (hx c) (hy c)
theorem ascii_int (i : Int) : ascii (Str.ofString (toString i)) := by
  intro c hc
  have := int_signs i c hc
  omega
theorem ascii_slice {x : Str} (l u : Option Int) (hx : ascii x) : ascii (Txt.slice x l u) := by
  intro c hc
  unfold Txt.slice at hc
  split at hc
  · exact hx c hc
  · simp only [List.mem_filterMap] at hc
    obtain ⟨i, _, h⟩ := hc
    refine hx c ?_
    rw [← Array.getElem?_toList] at h
    exact List.mem_of_getElem? h
theorem zeros_ascii (n : Nat) : ∀ (acc : Array Nat), (∀ c ∈ acc.toList, c < 128) → ∀ c ∈ ((List.replicate n (Str.ofString "0").cps).foldl (· ++ ·) acc).toList, c < 128 := by
  induction n with
  | zero => intro acc h; exact h
  | succ n ih =>
    intro acc h
    rw [List.replicate_succ, List.foldl_cons]
    refine ih _ fun c hc => ?_
    rw [Array.toList_append] at hc
    rcases List.mem_append.mp hc with hc | hc
    · exact h c hc
    · have : (Str.ofString "0").cps.toList = [48] := rfl
      rw [this, List.mem_singleton] at hc
      omega
theorem ascii_mul (n : Int) : ascii (Txt.mul (Str.ofString "0") n) := by
  unfold Txt.mul
  split
  · intro c hc; cases hc
  · split
    · intro c hc
      have : (Str.ofString "0").cps.toList = [48] := rfl
      rw [this, List.mem_singleton] at hc
      omega
    · exact zeros_ascii _ _ (fun c hc => nomatch hc)
theorem ascii_sgn (a : Int) : ascii (if a < 0 then Str.ofString "-" else Str.ofString "") := by
  split
  · intro c hc
    have : (Str.ofString "-").cps.toList = [45] := rfl
    rw [this, List.mem_singleton] at hc; omega
  · intro c hc
    have : (Str.ofString "").cps.toList = [] := rfl
    rw [this] at hc; cases hc
theorem ascii_dot : ascii (Str.ofString ".") := by
  intro c hc
  have : (Str.ofString ".").cps.toList = [46] := rfl
  rw [this, List.mem_singleton] at hc; omega
theorem ascii_text (a b : Int) : ascii (decText a b) := by
  have hp : ascii (decPad a b) := ascii_app (ascii_mul _) (ascii_int _)
  exact ascii_app (ascii_sgn a) (ascii_app (ascii_app (ascii_slice _ _ hp) ascii_dot) (ascii_slice _ _ hp))
theorem ascii_least (a b : Int) : ascii (decLeast a b) := by
  unfold decLeast
  by_cases h : ((10 : Int) ^ b.toNat ≤ (if a < 0 then -a else a) ∨ a = 0)
  · rw [if_pos h]; exact ascii_text a b
  · rw [if_neg h]; exact ascii_app (ascii_sgn a) (ascii_slice _ _ (ascii_text a b))
theorem ascii_codes {x : Str} (h : ascii x) : ∀ c ∈ codes x, 0 ≤ c ∧ c < 256 := by
  intro c hc
  obtain ⟨k, hk, rfl⟩ := List.mem_map.mp hc
  have := h k hk
  omega
theorem decLeast_size {a b : Int} (h0 : -1000 ≤ a) (h1 : a ≤ 1000) (hb : b ≤ 3) : (decLeast a b).cps.size ≤ 27 := by
  have h := decText_size h0 h1 hb
  unfold decLeast
  by_cases hc : ((10 : Int) ^ b.toNat ≤ (if a < 0 then -a else a) ∨ a = 0)
  · rw [if_pos hc]; omega
  · rw [if_neg hc]
    have hsg : (if a < 0 then Str.ofString "-" else Str.ofString "").cps.size ≤ 1 := by split <;> decide
    show ((if a < 0 then Str.ofString "-" else Str.ofString "").cps ++ _).size ≤ 27
    rw [Array.size_append]
    have h4 : (Txt.slice (decText a b) (some (Txt.find (decText a b) dot)) none).cps.size ≤ (decText a b).cps.size := Txt.slice_le _ _ _
    omega
noncomputable def decOct (a b : Int) : Str := if b = 0 then Str.ofString (toString a) ++ Str.ofString "." else decLeast a b
theorem ascii_oct (a b : Int) : ascii (decOct a b) := by
  unfold decOct
  split
  · exact ascii_app (ascii_int a) ascii_dot
  · exact ascii_least a b
theorem decOct_size {a b : Int} (h0 : -1000 ≤ a) (h1 : a ≤ 1000) (hb : b ≤ 3) : (decOct a b).cps.size ≤ 27 := by
  unfold decOct
  split
  · show ((Str.ofString (toString a)).cps ++ (Str.ofString ".").cps).size ≤ 27
    rw [Array.size_append, ofString_size1]
    have := int_len (i := a) (by omega) (by omega)
    omega
  · exact decLeast_size h0 h1 hb

theorem ln_BC_1 : True := by
  (k_with "call ref" => (k_here; k_dflt ((first | refine' Does.use0E (least_text_d ?zp0 ?zp1 ?zp2 ?zp3 ?zp4 ?zp5) ?zcB ?zcF ?zcX ?zcN ?zcT ?zchd ?zchu ?_ | refine' Does.use0V (least_text_d ?zp0 ?zp1 ?zp2 ?zp3 ?zp4 ?zp5) ?zcB ?zcF ?zcX ?zcN ?zcT ?zchd ?zchu ?_ | refine' Does.use0 (least_text_d ?zp0 ?zp1 ?zp2 ?zp3 ?zp4 ?zp5) ?zcB ?zcF ?zcX ?zcN ?zcT ?zchd ?zchu ?_); (case zcB => assumption); (case zcF => k_asm); (case zcX => assumption); (case zcN => k_asm); (case zcT => assumption); (case zchd => k_extra "x room"); (case zchu => k_extra "x unit"); (case zp0 => first | assumption | omega); (case zp1 => first | assumption | omega); (case zp2 => first | assumption | omega); (case zp3 => first | assumption | omega); (case zp4 => first | assumption | omega); (case zp5 => first | assumption | omega); (k_extra "x got"))))
  trivial
theorem ln_BC_2 : True := by
  (k_with "call ref" => (k_here; k_dflt ((first | refine' Does.use0E (text_octets_d ?zp0 ?zp1) ?zcB ?zcF ?zcX ?zcN ?zcT ?zchd ?zchu ?_ | refine' Does.use0V (text_octets_d ?zp0 ?zp1) ?zcB ?zcF ?zcX ?zcN ?zcT ?zchd ?zchu ?_ | refine' Does.use0 (text_octets_d ?zp0 ?zp1) ?zcB ?zcF ?zcX ?zcN ?zcT ?zchd ?zchu ?_); (case zcB => assumption); (case zcF => k_asm); (case zcX => assumption); (case zcN => k_asm); (case zcT => assumption); (case zchd => k_extra "x room"); (case zchu => k_extra "x unit"); (case zp0 => first | assumption | omega); (case zp1 => first | assumption | omega); (k_extra "x got"))))
  trivial
theorem ln_BC_3 : True := by
  (k_with "exec Raise some none" => (exfalso; first | omega | exact big40 (by assumption) (by first | omega | (split <;> omega))))
  trivial
theorem decimal_octets_d {w : World} {x dx : Addr} {n : Nat} {k1 k2 : Int} {t1 t2 ta tb : Tok} {a b : Int} {rest : Led} (m1 : (x, instObj 155 dx) ∈ rest) (m2 : (dx, dictOf [⟨k1, .str (Str.ofString "top") t1, .int a ta⟩, ⟨k2, .str (Str.ofString "places") t2, .int b tb⟩] n) ∈ rest)
   (h0 : -1000 ≤ a) (h1 : a ≤ 1000) (h2 : 0 ≤ b) (h3 : b ≤ 3) : Does w 417 [.ref x, .bool true] 7 [] rest (fun r _ tl => tl = [] ∧ ∃ tk, r = .bytes (byteArr (codes (decOct a b))) tk) := by
  have hsz := decOct_size h0 h1 h3
  have hcs := ascii_codes (ascii_oct a b)
  refine' Does.of (binds := [(Str.ofString "value", .ref x), (Str.ofString "is_least", .bool true)]) (al := [(Str.ofString "is_least", some (.bool true)), (Str.ofString "value", some (.ref x))]) ?k6 ?kb ?ks ?k7 ?k9 ?kB ?c5 ?c2 ?c3 ?c4 ?lv ?kal ?_
  (case k6 => k_dflt k_is); (case kb => conv => lhs; whnf); (case ks => conv => lhs; whnf); (case k7 => k_dflt k_is); (case k9 => exact rfl); (case kB => exact locs rfl); (case c5 => decide); (case c2 => exact rfl); (case c3 => exact rfl); (case c4 => exact rfl); (case lv => decide); (case kal => exact rfl)
  intro mean mg mb dp un outer base g L s E F N hap B X T hlt hdp hun
  (try simp only [List.nil_append, List.cons_append] at N hlt)
  k_fold
  k_extra "x stmt"
  refine seqK ?_
  refine wpAny_mono (Q := fun fl s' => Halt (fl = .next ∧ ∃ h' tk' t', s' = { s with heap := h', toks := tk' } ∧ Fr g L h' (lkm [(Str.ofString "text", some (.str (decOct a b) t')), (Str.ofString "is_least", some (.bool true)), (Str.ofString "value", some (.ref x))]) ∧ News g L h' rest)) ?_ (fun fl s' hq => ?_) (fun _ _ e => e)
  · k_extra "x steps"
    · rename b = 0 => hb0
      ((rename Fr g L _ _ => F7); (rename News g L _ _ => N8); (have F8 : Fr _ _ _ (lkm [(_, _), (_, _), (_, _)]) := F7); clear F7)
      have e : decOct a b = Str.ofString (toString a) ++ Str.ofString "." := by rw [decOct, if_pos hb0]
      rw [e]
      exact ⟨rfl, _, _, _, rfl, F8, N8⟩
    · rename b ≠ 0 => hb0
      ((rename Fr g L _ _ => F7); (rename News g L _ _ => N8); (have F8 : Fr _ _ _ (lkm [(_, _), (_, _), (_, _)]) := F7); clear F7)
      have e : decOct a b = decLeast a b := by rw [decOct, if_neg hb0]
      rw [e]
      exact ⟨rfl, _, _, _, rfl, F8, N8⟩
  · obtain ⟨rfl, h5, tk5, t5, rfl, F5, N5⟩ := hq
    try dsimp only
    generalize hT : decOct a b = T at *
    refine seqK ?_
    (repeat' ((fail_if_success (with_reducible refine mark_lc ?_)); k_extra "x one"))
    refine ListComp_ST (cl := []) F5 rfl (by decide) rfl (by decide) rfl ?_
    refine ld F5 rfl ⟨_, _, _, rfl, rfl, F5, N5, by rw [sizeLine_eq]; omega, fun s₂ ⟨h9, e9⟩ => ?_⟩
    subst e9
    refine comp_ruleT (fun i ys nw => nw = rest ∧ ys.length ≤ i) ⟨rfl, Nat.zero_le _⟩ (fun ys nw hj => ?_) (fun i v I oI C oC D m₂ h tk E' ys nw hi hP hj hC hv F1 N1 off ne => ?_)
    rotate_left
    · obtain ⟨c, u, hc, rfl⟩ := hP
      obtain ⟨rfl, hj⟩ := hj
      k_extra "x steps"
      · exact ⟨_, _, nw, rfl, F1, N1, off, trivial, rfl, by rw [List.length_append, List.length_singleton]; omega⟩
      · exact ⟨_, _, nw, rfl, F1, N1, off, trivial, rfl, by omega⟩
    obtain ⟨rfl, hj⟩ := hj
    intro D h' tk F2 N2 o1
    refine args_nil ?_
    refine PyProof.Rows.len_list (items := ys.toArray) ⟨_, N2.get (.head _), rfl, _, rfl⟩ (by rw [List.size_toArray]; omega) ?_
    rw [List.size_toArray]
    generalize hyl : ys.length = yl at hj
    k_extra "x steps"
    ((rename Fr g L _ _ => F8); (rename News g L _ _ => N8))
    exact ⟨_, [], [], _, _, rfl, F8, news_tail N8, rfl, (fun _ _ _ h => nomatch h), rfl, _, congrArg (fun z => Value.bytes (byteArr (codes z)) _) hT.symm⟩

theorem ln_BD : True := by
  k_with_none
  (k_with "ite" => first | with_reducible refine ite_tt ?_ | with_reducible refine ite_ff ?_)
  (k_with "execs nil" => (with_reducible refine wpAny_execs_nil ?_; (try dsimp only)))
  (k_with "execs cons" => (k_here; k_dflt (refine seqK ?_; (try dsimp only))))
  (k_with "x lia" => ((try clear cc); (try clear c2); (try clear lf); lia))
  (k_with "x n7" => ((rename News _ _ _ _ => N7); exact N7))
  (k_with "x room" => (first | exact room1 (by assumption) (by rfl) | exact room2 (by assumption) (by rfl) | omega))
  (k_with "x unit" => (first | exact unit1 (by assumption) (by rfl) | exact unit2 (by assumption) (by rfl) | omega))
  (k_with "x got" => ((first | ((with_reducible intro r9 h9 tk9 F9 N9 P9); (first | (obtain ⟨t9, e9⟩ := P9; subst e9) | (subst P9) | skip)) | (with_reducible intro t9 h9 tk9 F9 N9) | (with_reducible intro h9 tk9 F9 N9)); (try k_sweep)))
  (k_with "x one" => (first | (k_unfold; (try dsimp only)) | walk1 | (dsimp only; walk1)))
  (k_with "x g" => ((fail_if_success plain_pass); k_here))
  (k_with "x k" => (k_asm; k_extra "x n7"; k_extra "x ix"))
  (k_with "x c" => (k_extra "x k"; k_extra "x ev"; k_extra "x ev"))
  (k_with "x if" => (k_dflt (k_here; (with_reducible show wpAny _ _ (execs (Stmt.If (PySem.Expr.Compare (PySem.Expr.Name _ _) [CmpOp.Eq] [PySem.Expr.Constant (Const.str _) _ _] _) _ _ _ :: _) _) _ _ _); first | (apply xif_f; k_extra "x c"; exact rfl) | (apply xif_t; k_extra "x c"; exact rfl))))
  (k_with "x stmt" => ((first | k_extra "x if" | refine seqK ?_ | refine wpAny_execs_cons ?_); (repeat' ((fail_if_success (with_reducible refine mark_execs ?_)); k_extra "x one"))))
  (k_with "x steps" => (repeat' k_extra "x one"))
  (k_with "x ix" => (first | exact isX1 rfl | exact isX2 rfl | exact isX3 rfl))
  (k_with "x ev" => (first | exact Ev.str | exact Ev.int | exact Ev.none | exact Ev.bool | (apply Ev.name; exact rfl; exact rfl; exact rfl) | (apply Ev.cell; exact rfl; exact rfl; exact rfl; (first | k_mem | (repeat (first | exact List.mem_cons_self .. | refine List.mem_cons_of_mem _ ?_))); k_asm)))
  (k_with "x evs" => (focus ((repeat' (first | exact Evs.nil | apply Evs.int | (apply Evs.name; exact rfl; exact rfl; exact rfl) | (apply Evs.cell; exact rfl; exact rfl; exact rfl; (first | k_mem | (repeat (first | exact List.mem_cons_self .. | refine List.mem_cons_of_mem _ ?_))); k_asm) | exact Ev.str | exact Ev.none | exact Ev.bool | apply Evs.cons)); done)))
  (k_with "execs cons If" => ((fail_if_success plain_pass); k_extra "x if"))
  (k_with "isTrue Compare" => (k_extra "x g"; (with_reducible show wpAny _ _ (PySem.isTrue (PySem.Expr.Compare _ [_] [_] _) _ _) _ _ _); k_dflt (first | ((with_reducible show wpAny _ _ (PySem.isTrue (PySem.Expr.Compare _ [CmpOp.Eq] [_] _) _ _) _ _ _); apply ist_strL; k_extra "x c") | (apply ist_int; k_extra "x c"; exact rfl))))
  (k_with "eval Call Name" => (k_extra "x g"; k_dflt (first | (apply call_ev; exact rfl; exact rfl; exact rfl; k_extra "x k"; k_extra "x evs"; k_asm; k_asm; k_is; k_is) | (apply bcall_ev; exact rfl; exact rfl; exact rfl; exact rfl; k_extra "x k"; k_extra "x evs"; k_asm; k_asm; k_is; boot_fast; decide))))
  (k_with "callWith" => (k_extra "x g"; k_dflt (apply meth_ev; exact rfl; k_extra "x k"; k_extra "x evs")))
  (k_with "spliced" => (k_extra "x g"; k_dflt (apply args_ev; exact rfl; k_extra "x k"; k_extra "x evs")))
  (k_with "eval Attribute Name" => (k_extra "x g"; k_dflt (apply attr_ev; k_extra "x k"; k_extra "x ev")))
  (k_with "x ho" => ((try simp only [List.nil_append, List.cons_append]); (repeat' (first | (refine off1_of ?_; assumption) | (refine off1_lt ?_; assumption) | (refine off1_all ?_; assumption) | refine And.intro ?_ ?_ | exact trivial | ((show @Ne Nat _ _); omega) | refine off1_app ?_ ?_))))
  (k_with "x hz" => ((try simp only [Array.size_push, List.size_toArray, List.length_cons, List.length_nil, List.length_append]); omega))
  (k_with "x hm" => (repeat (first | exact List.mem_cons_self .. | exact List.mem_append_left _ (by assumption) | refine List.mem_cons_of_mem _ ?_)))
  (k_with "call builtin:list.append" => (k_here; k_dflt ((rename News _ _ _ _ => N7); (first | (refine' append_at [] _ ?zcF N7 ?zho ?zhz ?_) | (refine' append_at [_] _ ?zcF N7 ?zho ?zhz ?_) | (refine' append_at [_, _] _ ?zcF N7 ?zho ?zhz ?_) | (refine' append_at [_, _, _] _ ?zcF N7 ?zho ?zhz ?_)); (case zcF => k_asm); (case zho => k_extra "x ho"); (case zhz => k_extra "x hz"); ((intro h9 F9 N9); (try simp only [List.nil_append, List.cons_append] at N9); (try k_sweep)))))
  (k_with "call builtin:list.extend" => (k_here; k_dflt ((rename News _ _ _ _ => N7); (first | (refine' extend_at [] _ ?zcF N7 ?zhb ?zho ?zhne ?zhz ?_) | (refine' extend_at [_] _ ?zcF N7 ?zhb ?zho ?zhne ?zhz ?_) | (refine' extend_at [_, _] _ ?zcF N7 ?zhb ?zho ?zhne ?zhz ?_) | (refine' extend_at [_, _, _] _ ?zcF N7 ?zhb ?zho ?zhne ?zhz ?_)); (case zcF => k_asm); (case zhb => k_extra "x hm"); (case zho => k_extra "x ho"); (case zhne => k_extra "x hz"); (case zhz => k_extra "x hz"); ((intro h9 F9 N9); (try simp only [List.nil_append, List.cons_append] at N9); (try k_sweep)))))
  (k_with "setItem ref int" => (k_here; k_dflt ((rename News _ _ _ _ => N7); (first | (refine' dset_at (K := Int) (knd := intKind prg _) [] _ ?zcF N7 ?zhd ?zhk ?zho ?zhz ?_; (case zhd => assumption)) | (refine' dset_at (K := Int) (knd := intKind prg _) [_] _ ?zcF N7 ?zhd ?zhk ?zho ?zhz ?_; (case zhd => assumption)) | (refine' dset_at (K := Int) (knd := intKind prg _) [_, _] _ ?zcF N7 ?zhd ?zhk ?zho ?zhz ?_; (case zhd => assumption))); (case zcF => k_asm); (case zhk => exact is_int); (case zho => k_extra "x ho"); (case zhz => omega); ((intro h9 o9 F9 N9 hd9); (try simp only [List.nil_append, List.cons_append] at N9); (try k_sweep)))))
  (k_with "call builtin:list.pop" => (k_here; k_dflt ((rename News _ _ _ _ => N7); (first | (refine' pop_at [] _ ?zcF N7 ?zhi ?zho ?zhne ?zhz ?_; (case zhi => assumption)) | (refine' pop_at [_] _ ?zcF N7 ?zhi ?zho ?zhne ?zhz ?_; (case zhi => assumption))); (case zcF => k_asm); (case zho => k_extra "x ho"); (case zhne => omega); (case zhz => omega); ((intro h9 t9 us9 n9 F9 N9 hI9 hs9); (try simp only [List.nil_append, List.cons_append] at N9); (try k_sweep)))))
  (k_with "truthy ref" => (k_here; k_dflt ((rename News _ _ _ _ => N7); refine' truthy_at N7 ?zhm ?zhz ?_ ?_; (case zhm => k_extra "x hm"); (case zhz => omega)); intro htr))
  trivial
theorem ln_BD_1 : True := by
  (k_with "call ref" => (k_here; k_dflt ((first | refine' Does.use0E (is_regular_d ) ?zcB ?zcF ?zcX ?zcN ?zcT ?zchd ?zchu ?_ | refine' Does.use0V (is_regular_d ) ?zcB ?zcF ?zcX ?zcN ?zcT ?zchd ?zchu ?_ | refine' Does.use0 (is_regular_d ) ?zcB ?zcF ?zcX ?zcN ?zcT ?zchd ?zchu ?_); (case zcB => assumption); (case zcF => k_asm); (case zcX => assumption); (case zcN => k_asm); (case zcT => assumption); (case zchd => k_extra "x room"); (case zchu => k_extra "x unit"); (k_extra "x got"))))
  trivial
noncomputable def runT (b c : Array UInt8) : Bool := regular ((KBw.bInts c).getD (Int.toNat 0) 0) && (regular ((KBw.bInts b).getD (-1 + ((KBw.bInts b).length : Int)).toNat 0) || (b.toList == #[47].toList))
theorem getD_in {b : Array UInt8} {i : Nat} : 0 ≤ (KBw.bInts b).getD i 0 ∧ (KBw.bInts b).getD i 0 < 256 := by
  by_cases hi : i < (KBw.bInts b).length
  · rw [List.getD_eq_getElem?_getD, List.getElem?_eq_getElem hi]; exact KBw.ints_in (List.getElem_mem hi)
  · rw [List.getD_eq_getElem?_getD, List.getElem?_eq_none (by omega)]; exact ⟨by decide, by decide⟩
theorem run_together_d {w : World} {b c : Array UInt8} {t u : Tok} {rest : Led} (hb : 0 < b.size) (hc : 0 < c.size) (hb2 : b.size ≤ 1000) (hc2 : c.size ≤ 1000) : Does w 480 [.bytes b t, .bytes c u] 2 [] rest (fun r _ tl => tl = [] ∧ r = .bool (runT b c)) := by
  refine' Does.of (binds := [(Str.ofString "before", .bytes b t), (Str.ofString "behind", .bytes c u)]) (al := [(Str.ofString "behind", some (.bytes c u)), (Str.ofString "before", some (.bytes b t))]) ?k6 ?kb ?ks ?k7 ?k9 ?kB ?c5 ?c2 ?c3 ?c4 ?lv ?kal ?_
  (case k6 => k_dflt k_is); (case kb => conv => lhs; whnf); (case ks => conv => lhs; whnf); (case k7 => k_dflt k_is); (case k9 => exact rfl); (case kB => exact locs rfl); (case c5 => decide); (case c2 => exact rfl); (case c3 => exact rfl); (case c4 => exact rfl); (case lv => decide); (case kal => exact rfl)
  intro mean mg mb dp un outer base g L s E F N hap B X T hlt hdp hun
  (try simp only [List.nil_append, List.cons_append] at N hlt)
  k_fold
  generalize hkb : KBw.bInts b = kb
  generalize hkc : KBw.bInts c = kc
  have hlb : kb.length = b.size := by rw [← hkb, KBw.ints_length]
  have hlc : kc.length = c.size := by rw [← hkc, KBw.ints_length]
  have hxc : 0 ≤ kc.getD (Int.toNat 0) 0 ∧ kc.getD (Int.toNat 0) 0 < 256 := hkc ▸ getD_in
  have hxb : 0 ≤ kb.getD (-1 + (kb.length : Int)).toNat 0 ∧ kb.getD (-1 + (kb.length : Int)).toNat 0 < 256 := hkb ▸ getD_in
  k_extra "x steps"
  all_goals rename Fr g L _ (lkm _) => F8
  all_goals rename News g L _ _ => N8
  all_goals simp only [if_pos hxb, if_pos hxc] at *
  · rename regular (List.getD kc _ _) = true => r1
    rename regular (List.getD kb _ _) = true => r2
    exact ⟨_, [], [], _, _, rfl, F8, N8, rfl, (fun _ _ _ h => nomatch h), rfl, congrArg Value.bool (by unfold runT; rw [hkb, hkc, r1, r2]; rfl)⟩
  · rename regular (List.getD kc _ _) = true => r1
    rename regular (List.getD kb _ _) = false => r2
    exact ⟨_, [], [], _, _, rfl, F8, N8, rfl, (fun _ _ _ h => nomatch h), rfl, congrArg Value.bool (by unfold runT; rw [hkb, hkc, r1, r2]; rfl)⟩
  · rename regular (List.getD kc _ _) = false => r1
    exact ⟨_, [], [], _, _, rfl, F8, N8, rfl, (fun _ _ _ h => nomatch h), rfl, congrArg Value.bool (by unfold runT; rw [hkb, hkc, r1]; rfl)⟩

noncomputable def BsAre (vs : List Value) (l : List (List Int)) : Prop := All2 (fun v ns => ∃ t, v = Value.bytes (byteArr ns) t) vs l
theorem BsAre.push {vs : Array Value} {l : List (List Int)} {ns : List Int} {t : Tok} (h : BsAre vs.toList l) : BsAre (vs.push (.bytes (byteArr ns) t)).toList (l ++ [ns]) := by
  rw [Array.toList_push]; exact All2.snoc h ⟨t, rfl⟩
theorem BsAre.len {vs : Array Value} {l : List (List Int)} (h : BsAre vs.toList l) : vs.size = l.length := by
  have := All2.length h
  rwa [Array.length_toList] at this
noncomputable def layRef (a b : Int) : List (List Int) := [codes (Str.ofString (toString a)), codes (Str.ofString (toString b)), [82]]
theorem ln_BE_1 : True := by
  (k_with "call ref" => (k_here; k_dflt ((first | refine' Does.use0E (whole_octets_d ?zp0 ?zp1) ?zcB ?zcF ?zcX ?zcN ?zcT ?zchd ?zchu ?_ | refine' Does.use0V (whole_octets_d ?zp0 ?zp1) ?zcB ?zcF ?zcX ?zcN ?zcT ?zchd ?zchu ?_ | refine' Does.use0 (whole_octets_d ?zp0 ?zp1) ?zcB ?zcF ?zcX ?zcN ?zcT ?zchd ?zchu ?_); (case zcB => assumption); (case zcF => k_asm); (case zcX => assumption); (case zcN => k_asm); (case zcT => assumption); (case zchd => k_extra "x room"); (case zchu => k_extra "x unit"); (case zp0 => omega); (case zp1 => omega); (k_extra "x got"))))
  trivial
theorem lay_reference_d {w : World} {x dx P : Addr} {n np : Nat} {k1 k2 : Int} {t1 t2 ta tb : Tok} {a b : Int} {ps : Array Value} {l : List (List Int)} {rest : Led} (m1 : (x, instObj 254 dx) ∈ rest) (m2 : (dx, dictOf [⟨k1, .str (Str.ofString "number") t1, .int a ta⟩, ⟨k2, .str (Str.ofString "generation") t2, .int b tb⟩] n) ∈ rest)
   (h0 : 0 ≤ a) (h1 : a ≤ 1000) (h2 : 0 ≤ b) (h3 : b ≤ 1000) (hp : ps.size ≤ 1000) (hl : BsAre ps.toList l) : Does w 459 [.ref P, .ref x] 5 [(P, W.listOf ps np)] rest (fun r mu' tl => An3 (r = .none) (tl = []) (Ex2 fun ps' np' => An3 (mu' = [(P, W.listOf ps' np')]) (BsAre ps'.toList (l ++ layRef a b)) (ps'.size ≤ ps.size + 3))) := by
  refine' Does.of (binds := [(Str.ofString "parts", .ref P), (Str.ofString "value", .ref x)]) (al := [(Str.ofString "value", some (.ref x)), (Str.ofString "parts", some (.ref P))]) ?k6 ?kb ?ks ?k7 ?k9 ?kB ?c5 ?c2 ?c3 ?c4 ?lv ?kal ?_
  (case k6 => k_dflt k_is); (case kb => conv => lhs; whnf); (case ks => conv => lhs; whnf); (case k7 => k_dflt k_is); (case k9 => exact rfl); (case kB => exact locs rfl); (case c5 => decide); (case c2 => exact rfl); (case c3 => exact rfl); (case c4 => exact rfl); (case lv => decide); (case kal => exact rfl)
  intro mean mg mb dp un outer base g L s E F N hap B X T hlt hdp hun
  (try simp only [List.nil_append, List.cons_append] at N hlt)
  k_fold
  have hP : ∀ p ∈ rest, p.1 ≠ P := hap _ (List.mem_singleton_self _)
  k_extra "x steps"
  ((rename Fr g L _ _ => F8); (rename News g L _ _ => N8))
  refine ⟨_, [(_, _)], [], _, _, rfl, F8, N8, rfl, (fun _ _ _ h => nomatch h), rfl, rfl, _, _, rfl, ?_, by simp⟩
  rw [show l ++ layRef a b = ((l ++ [codes (Str.ofString (toString a))]) ++ [codes (Str.ofString (toString b))]) ++ [[82]] by simp [layRef]]
  exact BsAre.push (ns := [82]) (BsAre.push (BsAre.push hl))

noncomputable def plainOct : Lf → List Int
  | .null => [110, 117, 108, 108]
  | .truth b => if b then [116, 114, 117, 101] else [102, 97, 108, 115, 101]
  | .int i => codes (Str.ofString (toString i))
  | .real a b => codes (decOct a b)
  | .name x => nameOct x
  | .str o _ => litOct o
  | .ref _ _ => []
theorem name_codes {x : Str} (h : x ∈ [Str.ofString "A", Str.ofString "Type", Str.ofString "x y", Str.ofString "#4", Str.ofString "(/"]) : (∀ c ∈ codes x, 0 < c ∧ c < 256) ∧ x.cps.size ≤ 20 := by
  simp only [List.mem_cons, List.not_mem_nil, or_false] at h
  rcases h with rfl | rfl | rfl | rfl | rfl <;> exact ⟨by decide, by decide⟩
theorem ln_BF_1 : True := by
  (k_with "call ref" => (k_here; k_dflt ((first | refine' Does.use0E (whole_octets_d ?zp0 ?zp1) ?zcB ?zcF ?zcX ?zcN ?zcT ?zchd ?zchu ?_ | refine' Does.use0V (whole_octets_d ?zp0 ?zp1) ?zcB ?zcF ?zcX ?zcN ?zcT ?zchd ?zchu ?_ | refine' Does.use0 (whole_octets_d ?zp0 ?zp1) ?zcB ?zcF ?zcX ?zcN ?zcT ?zchd ?zchu ?_); (case zcB => assumption); (case zcF => k_asm); (case zcX => assumption); (case zcN => k_asm); (case zcT => assumption); (case zchd => k_extra "x room"); (case zchu => k_extra "x unit"); (case zp0 => omega); (case zp1 => omega); (k_extra "x got"))))
  trivial
theorem ln_BF_2 : True := by
  (k_with "call ref" => (k_here; k_dflt ((first | refine' Does.use0E (decimal_octets_d ?zp0 ?zp1 ?zp2 ?zp3 ?zp4 ?zp5) ?zcB ?zcF ?zcX ?zcN ?zcT ?zchd ?zchu ?_ | refine' Does.use0V (decimal_octets_d ?zp0 ?zp1 ?zp2 ?zp3 ?zp4 ?zp5) ?zcB ?zcF ?zcX ?zcN ?zcT ?zchd ?zchu ?_ | refine' Does.use0 (decimal_octets_d ?zp0 ?zp1 ?zp2 ?zp3 ?zp4 ?zp5) ?zcB ?zcF ?zcX ?zcN ?zcT ?zchd ?zchu ?_); (case zcB => assumption); (case zcF => k_asm); (case zcX => assumption); (case zcN => k_asm); (case zcT => assumption); (case zchd => k_extra "x room"); (case zchu => k_extra "x unit"); (case zp0 => first | assumption | omega); (case zp1 => first | assumption | omega); (case zp2 => first | assumption | omega); (case zp3 => first | assumption | omega); (case zp4 => first | assumption | omega); (case zp5 => first | assumption | omega); (k_extra "x got"))))
  trivial
theorem ln_BF_3 : True := by
  (k_with "call ref" => (k_here; k_dflt ((first | refine' Does.use0E (name_octets_d ?zp0 ?zp1) ?zcB ?zcF ?zcX ?zcN ?zcT ?zchd ?zchu ?_ | refine' Does.use0V (name_octets_d ?zp0 ?zp1) ?zcB ?zcF ?zcX ?zcN ?zcT ?zchd ?zchu ?_ | refine' Does.use0 (name_octets_d ?zp0 ?zp1) ?zcB ?zcF ?zcX ?zcN ?zcT ?zchd ?zchu ?_); (case zcB => assumption); (case zcF => k_asm); (case zcX => assumption); (case zcN => k_asm); (case zcT => assumption); (case zchd => k_extra "x room"); (case zchu => k_extra "x unit"); (case zp0 => assumption); (case zp1 => assumption); (k_extra "x got"))))
  trivial
theorem ln_BF_4 : True := by
  (k_with "call ref" => (k_here; k_dflt ((first | refine' Does.use0E (string_octets_d ?zp0 ?zp1 ?zp2) ?zcB ?zcF ?zcX ?zcN ?zcT ?zchd ?zchu ?_ | refine' Does.use0V (string_octets_d ?zp0 ?zp1 ?zp2) ?zcB ?zcF ?zcX ?zcN ?zcT ?zchd ?zchu ?_ | refine' Does.use0 (string_octets_d ?zp0 ?zp1 ?zp2) ?zcB ?zcF ?zcX ?zcN ?zcT ?zchd ?zchu ?_); (case zcB => assumption); (case zcF => k_asm); (case zcX => assumption); (case zcN => k_asm); (case zcT => assumption); (case zchd => k_extra "x room"); (case zchu => k_extra "x unit"); (case zp0 => first | assumption | omega); (case zp1 => first | assumption | omega); (case zp2 => first | assumption | omega); (k_extra "x got"))))
  trivial
theorem plain_part_d {w : World} {v : Value} {l : Lf} {t : Tok} {rest : Led} (R : LfIn rest v l) (hok : l.ok) (hr : ∀ a b, l ≠ .ref a b) : Does w 452 [.str l.kind t, v, .bool true] 9 [] rest (fun r _ tl => tl = [] ∧ ∃ tk, r = .bytes (byteArr (plainOct l)) tk) := by
  cases R with
  | null =>
    refine' Does.of (binds := [(Str.ofString "kind", .str (Str.ofString "null") t), (Str.ofString "value", .none), (Str.ofString "is_least", .bool true)]) (al := [(Str.ofString "is_least", some (.bool true)), (Str.ofString "value", some (.none)), (Str.ofString "kind", some (.str (Str.ofString "null") t))]) ?k6 ?kb ?ks ?k7 ?k9 ?kB ?c5 ?c2 ?c3 ?c4 ?lv ?kal ?_
    (case k6 => k_dflt k_is); (case kb => conv => lhs; whnf); (case ks => conv => lhs; whnf); (case k7 => k_dflt k_is); (case k9 => exact rfl); (case kB => exact locs rfl); (case c5 => decide); (case c2 => exact rfl); (case c3 => exact rfl); (case c4 => exact rfl); (case lv => decide); (case kal => exact rfl)
    intro mean mg mb dp un outer base g L s E F N hap B X T hlt hdp hun
    (try simp only [List.nil_append, List.cons_append] at N hlt)
    k_fold
    k_extra "x steps"
    ((rename Fr g L _ _ => F8); (rename News g L _ _ => N8))
    exact ⟨_, [], [], _, _, rfl, F8, N8, rfl, (fun _ _ _ h => nomatch h), rfl, _, rfl⟩
  | truth b =>
    refine' Does.of (binds := [(Str.ofString "kind", .str (Str.ofString "truth") t), (Str.ofString "value", .bool b), (Str.ofString "is_least", .bool true)]) (al := [(Str.ofString "is_least", some (.bool true)), (Str.ofString "value", some (.bool b)), (Str.ofString "kind", some (.str (Str.ofString "truth") t))]) ?k6 ?kb ?ks ?k7 ?k9 ?kB ?c5 ?c2 ?c3 ?c4 ?lv ?kal ?_
    (case k6 => k_dflt k_is); (case kb => conv => lhs; whnf); (case ks => conv => lhs; whnf); (case k7 => k_dflt k_is); (case k9 => exact rfl); (case kB => exact locs rfl); (case c5 => decide); (case c2 => exact rfl); (case c3 => exact rfl); (case c4 => exact rfl); (case lv => decide); (case kal => exact rfl)
    intro mean mg mb dp un outer base g L s E F N hap B X T hlt hdp hun
    (try simp only [List.nil_append, List.cons_append] at N hlt)
    k_fold
    cases b
    · k_extra "x steps"
      ((rename Fr g L _ _ => F8); (rename News g L _ _ => N8))
      exact ⟨_, [], [], _, _, rfl, F8, N8, rfl, (fun _ _ _ h => nomatch h), rfl, _, rfl⟩
    · k_extra "x steps"
      ((rename Fr g L _ _ => F8); (rename News g L _ _ => N8))
      exact ⟨_, [], [], _, _, rfl, F8, N8, rfl, (fun _ _ _ h => nomatch h), rfl, _, rfl⟩
  | int i t9 =>
    have hok' : -500 ≤ i ∧ i ≤ 499 := hok
    refine' Does.of (binds := [(Str.ofString "kind", .str (Str.ofString "int") t), (Str.ofString "value", .int i t9), (Str.ofString "is_least", .bool true)]) (al := [(Str.ofString "is_least", some (.bool true)), (Str.ofString "value", some (.int i t9)), (Str.ofString "kind", some (.str (Str.ofString "int") t))]) ?k6 ?kb ?ks ?k7 ?k9 ?kB ?c5 ?c2 ?c3 ?c4 ?lv ?kal ?_
    (case k6 => k_dflt k_is); (case kb => conv => lhs; whnf); (case ks => conv => lhs; whnf); (case k7 => k_dflt k_is); (case k9 => exact rfl); (case kB => exact locs rfl); (case c5 => decide); (case c2 => exact rfl); (case c3 => exact rfl); (case c4 => exact rfl); (case lv => decide); (case kal => exact rfl)
    intro mean mg mb dp un outer base g L s E F N hap B X T hlt hdp hun
    (try simp only [List.nil_append, List.cons_append] at N hlt)
    k_fold
    k_extra "x steps"
    ((rename Fr g L _ _ => F8); (rename News g L _ _ => N8))
    exact ⟨_, [], [], _, _, rfl, F8, N8, rfl, (fun _ _ _ h => nomatch h), rfl, _, rfl⟩
  | real h1 h2 =>
    rename_i x dx n k1 k2 t1 t2 ta tb a b
    have hok' : -1000 ≤ a ∧ a ≤ 1000 ∧ 0 ≤ b ∧ b ≤ 3 := hok
    refine' Does.of (binds := [(Str.ofString "kind", .str (Str.ofString "real") t), (Str.ofString "value", .ref x), (Str.ofString "is_least", .bool true)]) (al := [(Str.ofString "is_least", some (.bool true)), (Str.ofString "value", some (.ref x)), (Str.ofString "kind", some (.str (Str.ofString "real") t))]) ?k6 ?kb ?ks ?k7 ?k9 ?kB ?c5 ?c2 ?c3 ?c4 ?lv ?kal ?_
    (case k6 => k_dflt k_is); (case kb => conv => lhs; whnf); (case ks => conv => lhs; whnf); (case k7 => k_dflt k_is); (case k9 => exact rfl); (case kB => exact locs rfl); (case c5 => decide); (case c2 => exact rfl); (case c3 => exact rfl); (case c4 => exact rfl); (case lv => decide); (case kal => exact rfl)
    intro mean mg mb dp un outer base g L s E F N hap B X T hlt hdp hun
    (try simp only [List.nil_append, List.cons_append] at N hlt)
    k_fold
    k_extra "x steps"
    ((rename Fr g L _ _ => F8); (rename News g L _ _ => N8))
    exact ⟨_, [], [], _, _, rfl, F8, N8, rfl, (fun _ _ _ h => nomatch h), rfl, _, rfl⟩
  | name h1 h2 =>
    rename_i x dx n k1 t1 ta a
    obtain ⟨hn1, hn2⟩ := name_codes hok
    refine' Does.of (binds := [(Str.ofString "kind", .str (Str.ofString "name") t), (Str.ofString "value", .ref x), (Str.ofString "is_least", .bool true)]) (al := [(Str.ofString "is_least", some (.bool true)), (Str.ofString "value", some (.ref x)), (Str.ofString "kind", some (.str (Str.ofString "name") t))]) ?k6 ?kb ?ks ?k7 ?k9 ?kB ?c5 ?c2 ?c3 ?c4 ?lv ?kal ?_
    (case k6 => k_dflt k_is); (case kb => conv => lhs; whnf); (case ks => conv => lhs; whnf); (case k7 => k_dflt k_is); (case k9 => exact rfl); (case kB => exact locs rfl); (case c5 => decide); (case c2 => exact rfl); (case c3 => exact rfl); (case c4 => exact rfl); (case lv => decide); (case kal => exact rfl)
    intro mean mg mb dp un outer base g L s E F N hap B X T hlt hdp hun
    (try simp only [List.nil_append, List.cons_append] at N hlt)
    k_fold
    k_extra "x steps"
    ((rename Fr g L _ _ => F8); (rename News g L _ _ => N8))
    exact ⟨_, [], [], _, _, rfl, F8, N8, rfl, (fun _ _ _ h => nomatch h), rfl, _, rfl⟩
  | str h1 h2 =>
    rename_i x dx n k1 k2 t1 t2 ta a b
    have ho : a.size ≤ 4 := hok.1
    refine' Does.of (binds := [(Str.ofString "kind", .str (Str.ofString "string") t), (Str.ofString "value", .ref x), (Str.ofString "is_least", .bool true)]) (al := [(Str.ofString "is_least", some (.bool true)), (Str.ofString "value", some (.ref x)), (Str.ofString "kind", some (.str (Str.ofString "string") t))]) ?k6 ?kb ?ks ?k7 ?k9 ?kB ?c5 ?c2 ?c3 ?c4 ?lv ?kal ?_
    (case k6 => k_dflt k_is); (case kb => conv => lhs; whnf); (case ks => conv => lhs; whnf); (case k7 => k_dflt k_is); (case k9 => exact rfl); (case kB => exact locs rfl); (case c5 => decide); (case c2 => exact rfl); (case c3 => exact rfl); (case c4 => exact rfl); (case lv => decide); (case kal => exact rfl)
    intro mean mg mb dp un outer base g L s E F N hap B X T hlt hdp hun
    (try simp only [List.nil_append, List.cons_append] at N hlt)
    k_fold
    k_extra "x steps"
    ((rename Fr g L _ _ => F8); (rename News g L _ _ => N8))
    exact ⟨_, [], [], _, _, rfl, F8, N8, rfl, (fun _ _ _ h => nomatch h), rfl, _, rfl⟩
  | ref h1 h2 => exact absurd rfl (hr _ _)

noncomputable def layLf : Lf → List (List Int)
  | .ref a b => layRef a b
  | l => [plainOct l]
theorem plain_part_k {w : World} {v : Value} {l : Lf} {k : Str} {t : Tok} {rest : Led} (R : LfIn rest v l) (hk : k = l.kind) (hok : l.ok) (hr : ∀ a b, l ≠ .ref a b) : Does w 452 [.str k t, v, .bool true] 9 [] rest (fun r _ tl => tl = [] ∧ ∃ tk, r = .bytes (byteArr (plainOct l)) tk) := hk ▸ plain_part_d R hok hr
theorem kind_lf' {w : World} {v : Value} {l : Lf} {a : Addr × Obj} {rest : Led} (R : LfIn rest v l) : Does w 265 [v] 1 [] (a :: rest) (fun r _ tl => tl = [] ∧ ∃ tk, r = .str l.kind tk) := kind_lf (R.mono fun _ h => .tail _ h)
theorem ln_BG_1 : True := by
  (k_with "call ref" => (k_here; k_dflt ((first | refine' Does.use0E (kind_lf' ?zp0) ?zcB ?zcF ?zcX ?zcN ?zcT ?zchd ?zchu ?_ | refine' Does.use0V (kind_lf' ?zp0) ?zcB ?zcF ?zcX ?zcN ?zcT ?zchd ?zchu ?_ | refine' Does.use0 (kind_lf' ?zp0) ?zcB ?zcF ?zcX ?zcN ?zcT ?zchd ?zchu ?_); (case zcB => assumption); (case zcF => k_asm); (case zcX => assumption); (case zcN => k_asm); (case zcT => assumption); (case zchd => k_extra "x room"); (case zchu => k_extra "x unit"); (case zp0 => assumption); (k_extra "x got"); (try simp only [Lf.kind, Dt.kind]))))
  trivial
theorem ln_BG_2 : True := by
  (k_with "call ref" => (k_here; k_dflt ((first | refine' Does.use0E (plain_part_k ?zp0 ?zp1 ?zp2 ?zp3) ?zcB ?zcF ?zcX ?zcN ?zcT ?zchd ?zchu ?_ | refine' Does.use0V (plain_part_k ?zp0 ?zp1 ?zp2 ?zp3) ?zcB ?zcF ?zcX ?zcN ?zcT ?zchd ?zchu ?_ | refine' Does.use0 (plain_part_k ?zp0 ?zp1 ?zp2 ?zp3) ?zcB ?zcF ?zcX ?zcN ?zcT ?zchd ?zchu ?_); (case zcB => assumption); (case zcF => k_asm); (case zcX => assumption); (case zcN => k_asm); (case zcT => assumption); (case zchd => k_extra "x room"); (case zchu => k_extra "x unit"); (case zp0 => first | (exact LfIn.mono (fun _ h => .tail _ h) (by assumption)) | exact rfl | assumption | (intro _ _ h; cases h)); (case zp1 => first | (exact LfIn.mono (fun _ h => .tail _ h) (by assumption)) | exact rfl | assumption | (intro _ _ h; cases h)); (case zp2 => first | (exact LfIn.mono (fun _ h => .tail _ h) (by assumption)) | exact rfl | assumption | (intro _ _ h; cases h)); (case zp3 => first | (exact LfIn.mono (fun _ h => .tail _ h) (by assumption)) | exact rfl | assumption | (intro _ _ h; cases h)); (k_extra "x got"))))
  trivial
theorem ln_BG_3 : True := by
  (k_with "call ref" => (k_here; k_dflt ((first | (refine' Does.useAt [] _ (lay_reference_d ?zm1 ?zm2 ?zh0 ?zh1 ?zh2 ?zh3 ?zhp ?zhl) ?zcB ?zcF ?zcX ?zcN ?zcT ?zcA ?zchd ?zchu ?_; (case zcN => k_extra "x n7"))); (case zcB => assumption); (case zcF => k_asm); (case zcX => assumption); (case zcT => assumption); (case zchd => k_extra "x room"); (case zchu => k_extra "x unit"); (case zm1 => assumption); (case zm2 => assumption); (case zh0 => omega); (case zh1 => omega); (case zh2 => omega); (case zh3 => omega); (case zhp => omega); (case zhl => assumption); (case zcA => (first | (intro q9 hq9; exact absurd hq9 List.not_mem_nil) | (refine apart1 ?_; (try simp only [List.nil_append, List.cons_append]); (repeat' (first | (refine off1_of ?_; assumption) | refine And.intro ?_ ?_ | exact trivial | ((show @Ne Nat _ _); omega) | refine off1_app ?_ ?_))))); ((intro r9 mu9 tl9 h9 tk9 F9 N9 e9 o9 P9); (obtain ⟨z0, z1, ps9, np9, z2, hb9, hs9⟩ := P9); (subst z0); (subst z1); (subst z2); (simp only [List.nil_append, List.cons_append] at N9 o9); (try k_sweep); skip))))
  trivial
theorem lfk_ne {prog : Program} {w : World} {A : Around} {E : Value → Shared → Prop} {s : Shared} {l : Lf} {y : Str} {u v : Tok} {Q : Value → Shared → Prop} (hy : y ∈ [Str.ofString "array", Str.ofString "dict", Str.ofString "stream"]) (h : Q (.bool false) s) : wpAny (model prog w) A (compareOp .Eq (.str l.kind u) (.str y v)) Q E s := by
  refine eq_str ?_
  have e : (l.kind == y) = false := by
    simp only [List.mem_cons, List.not_mem_nil, or_false] at hy
    rcases hy with rfl | rfl | rfl <;> cases l <;> rfl
  rw [e]; exact h
theorem lfk_nr {prog : Program} {w : World} {A : Around} {E : Value → Shared → Prop} {s : Shared} {l : Lf} {u v : Tok} {Q : Value → Shared → Prop} (hr : ∀ a b, l ≠ .ref a b) (h : Q (.bool false) s) : wpAny (model prog w) A (compareOp .Eq (.str l.kind u) (.str (Str.ofString "ref") v)) Q E s := by
  refine eq_str ?_
  have e : (l.kind == Str.ofString "ref") = false := by cases l <;> first | rfl | exact absurd rfl (hr _ _)
  rw [e]; exact h
theorem layLf_nr {l : Lf} (hr : ∀ a b, l ≠ .ref a b) : layLf l = [plainOct l] := by cases l <;> first | rfl | exact absurd rfl (hr _ _)
theorem ln_BG_4 : True := by
  (k_with "compareOp Eq str str" => (k_here; (first | ((with_reducible refine lfk_ne ?zhy ?_); (case zhy => decide)) | ((with_reducible refine lfk_nr ?zhr ?_); (case zhr => assumption)))))
  trivial
theorem lf_kind_k {w : World} {v : Value} {l : Lf} {a : Addr × Obj} {rest : Led} (R : LfIn rest v l) : Does w 265 [v] 1 [] (a :: rest) (fun r _ tl => tl = [] ∧ ∃ tk, r = .str l.kind tk) := kind_lf' R
theorem ln_BG_5 : True := by
  (k_with "call ref" => (k_here; k_dflt ((first | refine' Does.use0E (lf_kind_k ?zp0) ?zcB ?zcF ?zcX ?zcN ?zcT ?zchd ?zchu ?_ | refine' Does.use0V (lf_kind_k ?zp0) ?zcB ?zcF ?zcX ?zcN ?zcT ?zchd ?zchu ?_ | refine' Does.use0 (lf_kind_k ?zp0) ?zcB ?zcF ?zcX ?zcN ?zcT ?zchd ?zchu ?_); (case zcB => assumption); (case zcF => k_asm); (case zcX => assumption); (case zcN => k_asm); (case zcT => assumption); (case zchd => k_extra "x room"); (case zchu => k_extra "x unit"); (case zp0 => assumption); (k_extra "x got"))))
  trivial
theorem lay_nr_d {w : World} {v : Value} {l : Lf} {P : Addr} {np : Nat} {ps : Array Value} {ls : List (List Int)} {rest : Led} (R : LfIn rest v l) (hr : ∀ a b, l ≠ .ref a b) (hok : l.ok) (hp : ps.size ≤ 900) (hl : BsAre ps.toList ls) : Does w 473 [.ref P, v, .bool true] 11 [(P, W.listOf ps np)] rest (fun r mu' tl => An3 (r = .none) (tl = []) (Ex2 fun ps' np' => An3 (mu' = [(P, W.listOf ps' np')]) (BsAre ps'.toList (ls ++ layLf l)) (ps'.size ≤ ps.size + 3))) := by
  have R' := R
  refine' Does.of (binds := [(Str.ofString "parts", .ref P), (Str.ofString "value", v), (Str.ofString "is_least", .bool true)]) (al := [(Str.ofString "is_least", some (.bool true)), (Str.ofString "value", some (v)), (Str.ofString "parts", some (.ref P))]) ?k6 ?kb ?ks ?k7 ?k9 ?kB ?c5 ?c2 ?c3 ?c4 ?lv ?kal ?_
  (case k6 => k_dflt k_is); (case kb => conv => lhs; whnf); (case ks => conv => lhs; whnf); (case k7 => k_dflt k_is); (case k9 => exact rfl); (case kB => exact locs rfl); (case c5 => decide); (case c2 => exact rfl); (case c3 => exact rfl); (case c4 => exact rfl); (case lv => decide); (case kal => exact rfl)
  intro mean mg mb dp un outer base g L s E F N hap B X T hlt hdp hun
  (try simp only [List.nil_append, List.cons_append] at N hlt)
  k_fold
  have hP : ∀ p ∈ rest, p.1 ≠ P := hap _ (List.mem_singleton_self _)
  k_extra "x steps"
  ((rename Fr g L _ _ => F8); (rename News g L _ _ => N8))
  refine ⟨_, [(_, _)], [], _, _, rfl, F8, N8, rfl, (fun _ _ _ h => nomatch h), rfl, rfl, _, _, rfl, ?_, by simp⟩
  rw [layLf_nr hr]
  exact BsAre.push hl
theorem ln_BG_6 : True := by
  (k_with "call ref" => (k_here; k_dflt ((first | refine' Does.use0E (kind_lf' ?zp0) ?zcB ?zcF ?zcX ?zcN ?zcT ?zchd ?zchu ?_ | refine' Does.use0V (kind_lf' ?zp0) ?zcB ?zcF ?zcX ?zcN ?zcT ?zchd ?zchu ?_ | refine' Does.use0 (kind_lf' ?zp0) ?zcB ?zcF ?zcX ?zcN ?zcT ?zchd ?zchu ?_); (case zcB => assumption); (case zcF => k_asm); (case zcX => assumption); (case zcN => k_asm); (case zcT => assumption); (case zchd => k_extra "x room"); (case zchu => k_extra "x unit"); (case zp0 => assumption); (k_extra "x got"); (try simp only [Lf.kind, Dt.kind]))))
  trivial
theorem lay_leaf_d {w : World} {v : Value} {l : Lf} {P : Addr} {np : Nat} {ps : Array Value} {ls : List (List Int)} {rest : Led} (R : LfIn rest v l) (hok : l.ok) (hp : ps.size ≤ 900) (hl : BsAre ps.toList ls) : Does w 473 [.ref P, v, .bool true] 11 [(P, W.listOf ps np)] rest (fun r mu' tl => An3 (r = .none) (tl = []) (Ex2 fun ps' np' => An3 (mu' = [(P, W.listOf ps' np')]) (BsAre ps'.toList (ls ++ layLf l)) (ps'.size ≤ ps.size + 3))) := by
  by_cases hr : ∀ a b, l ≠ .ref a b
  · exact lay_nr_d R hr hok hp hl
  have R' := R
  cases R with
  | ref h1 h2 =>
    rename_i x dx n k1 k2 t1 t2 ta tb a b
    have hok' : 1 ≤ a ∧ a ≤ 9 ∧ 0 ≤ b ∧ b ≤ 2 := hok
    refine' Does.of (binds := [(Str.ofString "parts", .ref P), (Str.ofString "value", .ref x), (Str.ofString "is_least", .bool true)]) (al := [(Str.ofString "is_least", some (.bool true)), (Str.ofString "value", some (.ref x)), (Str.ofString "parts", some (.ref P))]) ?k6 ?kb ?ks ?k7 ?k9 ?kB ?c5 ?c2 ?c3 ?c4 ?lv ?kal ?_
    (case k6 => k_dflt k_is); (case kb => conv => lhs; whnf); (case ks => conv => lhs; whnf); (case k7 => k_dflt k_is); (case k9 => exact rfl); (case kB => exact locs rfl); (case c5 => decide); (case c2 => exact rfl); (case c3 => exact rfl); (case c4 => exact rfl); (case lv => decide); (case kal => exact rfl)
    intro mean mg mb dp un outer base g L s E F N hap B X T hlt hdp hun
    (try simp only [List.nil_append, List.cons_append] at N hlt)
    k_fold
    have hP : ∀ p ∈ rest, p.1 ≠ P := hap _ (List.mem_singleton_self _)
    k_extra "x steps"
    ((rename Fr g L _ _ => F8); (rename News g L _ _ => N8))
    rename BsAre _ (_ ++ layRef _ _) => hb9
    rename Array.size _ ≤ _ => hs9
    exact ⟨_, [(_, _)], [], _, _, rfl, F8, N8, rfl, (fun _ _ _ h => nomatch h), rfl, rfl, _, _, rfl, hb9, hs9⟩
  | _ => exact absurd (fun _ _ h => nomatch h) hr

theorem ln_BH : True := by
  k_with_none
  (k_with "ite" => first | with_reducible refine ite_tt ?_ | with_reducible refine ite_ff ?_)
  (k_with "execs nil" => (with_reducible refine wpAny_execs_nil ?_; (try dsimp only)))
  (k_with "execs cons" => (k_here; k_dflt (refine seqK ?_; (try dsimp only))))
  (k_with "x lia" => ((try clear cc); (try clear c2); (try clear lf); lia))
  (k_with "x n7" => ((rename News _ _ _ _ => N7); exact N7))
  (k_with "x room" => (first | exact room1 (by assumption) (by rfl) | exact room2 (by assumption) (by rfl) | omega))
  (k_with "x unit" => (first | exact unit1 (by assumption) (by rfl) | exact unit2 (by assumption) (by rfl) | omega))
  (k_with "x got" => ((first | ((with_reducible intro r9 h9 tk9 F9 N9 P9); (first | (obtain ⟨t9, e9⟩ := P9; subst e9) | (subst P9) | skip)) | (with_reducible intro t9 h9 tk9 F9 N9) | (with_reducible intro h9 tk9 F9 N9)); (try k_sweep)))
  (k_with "x one" => (first | (k_unfold; (try dsimp only)) | walk1 | (dsimp only; walk1)))
  (k_with "x g" => ((fail_if_success plain_pass); k_here))
  (k_with "x k" => (k_asm; k_extra "x n7"; k_extra "x ix"))
  (k_with "x c" => (k_extra "x k"; k_extra "x ev"; k_extra "x ev"))
  (k_with "x if" => (k_dflt (k_here; (with_reducible show wpAny _ _ (execs (Stmt.If (PySem.Expr.Compare (PySem.Expr.Name _ _) [CmpOp.Eq] [PySem.Expr.Constant (Const.str _) _ _] _) _ _ _ :: _) _) _ _ _); first | (apply xif_f; k_extra "x c"; exact rfl) | (apply xif_t; k_extra "x c"; exact rfl))))
  (k_with "x stmt" => ((first | k_extra "x if" | refine seqK ?_ | refine wpAny_execs_cons ?_); (repeat' ((fail_if_success (with_reducible refine mark_execs ?_)); k_extra "x one"))))
  (k_with "x steps" => (repeat' k_extra "x one"))
  (k_with "x ix" => (first | exact isX1 rfl | exact isX2 rfl | exact isX3 rfl))
  (k_with "x ev" => (first | exact Ev.str | exact Ev.int | exact Ev.none | exact Ev.bool | (apply Ev.name; exact rfl; exact rfl; exact rfl) | (apply Ev.cell; exact rfl; exact rfl; exact rfl; (first | k_mem | (repeat (first | exact List.mem_cons_self .. | refine List.mem_cons_of_mem _ ?_))); k_asm)))
  (k_with "x evs" => (focus ((repeat' (first | exact Evs.nil | apply Evs.int | (apply Evs.name; exact rfl; exact rfl; exact rfl) | (apply Evs.cell; exact rfl; exact rfl; exact rfl; (first | k_mem | (repeat (first | exact List.mem_cons_self .. | refine List.mem_cons_of_mem _ ?_))); k_asm) | exact Ev.str | exact Ev.none | exact Ev.bool | apply Evs.cons)); done)))
  (k_with "execs cons If" => ((fail_if_success plain_pass); k_extra "x if"))
  (k_with "isTrue Compare" => (k_extra "x g"; (with_reducible show wpAny _ _ (PySem.isTrue (PySem.Expr.Compare _ [_] [_] _) _ _) _ _ _); k_dflt (first | ((with_reducible show wpAny _ _ (PySem.isTrue (PySem.Expr.Compare _ [CmpOp.Eq] [_] _) _ _) _ _ _); apply ist_strL; k_extra "x c") | (apply ist_int; k_extra "x c"; exact rfl))))
  (k_with "eval Call Name" => (k_extra "x g"; k_dflt (first | (apply call_ev; exact rfl; exact rfl; exact rfl; k_extra "x k"; k_extra "x evs"; k_asm; k_asm; k_is; k_is) | (apply bcall_ev; exact rfl; exact rfl; exact rfl; exact rfl; k_extra "x k"; k_extra "x evs"; k_asm; k_asm; k_is; boot_fast; decide))))
  (k_with "callWith" => (k_extra "x g"; k_dflt (apply meth_ev; exact rfl; k_extra "x k"; k_extra "x evs")))
  (k_with "spliced" => (k_extra "x g"; k_dflt (apply args_ev; exact rfl; k_extra "x k"; k_extra "x evs")))
  (k_with "eval Attribute Name" => (k_extra "x g"; k_dflt (apply attr_ev; k_extra "x k"; k_extra "x ev")))
  (k_with "x ho" => ((try simp only [List.nil_append, List.cons_append]); (repeat' (first | (refine off1_of ?_; assumption) | (refine off1_lt ?_; assumption) | (refine off1_all ?_; assumption) | refine And.intro ?_ ?_ | exact trivial | ((show @Ne Nat _ _); omega) | refine off1_app ?_ ?_))))
  (k_with "x hz" => ((try simp only [Array.size_push, List.size_toArray, List.length_cons, List.length_nil, List.length_append]); omega))
  (k_with "x hm" => (repeat (first | exact List.mem_cons_self .. | exact List.mem_append_left _ (by assumption) | refine List.mem_cons_of_mem _ ?_)))
  (k_with "call builtin:list.append" => (k_here; k_dflt ((rename News _ _ _ _ => N7); (first | (refine' append_at [] _ ?zcF N7 ?zho ?zhz ?_) | (refine' append_at [_] _ ?zcF N7 ?zho ?zhz ?_) | (refine' append_at [_, _] _ ?zcF N7 ?zho ?zhz ?_) | (refine' append_at [_, _, _] _ ?zcF N7 ?zho ?zhz ?_)); (case zcF => k_asm); (case zho => k_extra "x ho"); (case zhz => k_extra "x hz"); ((intro h9 F9 N9); (try simp only [List.nil_append, List.cons_append] at N9); (try k_sweep)))))
  (k_with "call builtin:list.extend" => (k_here; k_dflt ((rename News _ _ _ _ => N7); (first | (refine' extend_at [] _ ?zcF N7 ?zhb ?zho ?zhne ?zhz ?_) | (refine' extend_at [_] _ ?zcF N7 ?zhb ?zho ?zhne ?zhz ?_) | (refine' extend_at [_, _] _ ?zcF N7 ?zhb ?zho ?zhne ?zhz ?_) | (refine' extend_at [_, _, _] _ ?zcF N7 ?zhb ?zho ?zhne ?zhz ?_)); (case zcF => k_asm); (case zhb => k_extra "x hm"); (case zho => k_extra "x ho"); (case zhne => k_extra "x hz"); (case zhz => k_extra "x hz"); ((intro h9 F9 N9); (try simp only [List.nil_append, List.cons_append] at N9); (try k_sweep)))))
  (k_with "setItem ref int" => (k_here; k_dflt ((rename News _ _ _ _ => N7); (first | (refine' dset_at (K := Int) (knd := intKind prg _) [] _ ?zcF N7 ?zhd ?zhk ?zho ?zhz ?_; (case zhd => assumption)) | (refine' dset_at (K := Int) (knd := intKind prg _) [_] _ ?zcF N7 ?zhd ?zhk ?zho ?zhz ?_; (case zhd => assumption)) | (refine' dset_at (K := Int) (knd := intKind prg _) [_, _] _ ?zcF N7 ?zhd ?zhk ?zho ?zhz ?_; (case zhd => assumption))); (case zcF => k_asm); (case zhk => exact is_int); (case zho => k_extra "x ho"); (case zhz => omega); ((intro h9 o9 F9 N9 hd9); (try simp only [List.nil_append, List.cons_append] at N9); (try k_sweep)))))
  (k_with "call builtin:list.pop" => (k_here; k_dflt ((rename News _ _ _ _ => N7); (first | (refine' pop_at [] _ ?zcF N7 ?zhi ?zho ?zhne ?zhz ?_; (case zhi => assumption)) | (refine' pop_at [_] _ ?zcF N7 ?zhi ?zho ?zhne ?zhz ?_; (case zhi => assumption))); (case zcF => k_asm); (case zho => k_extra "x ho"); (case zhne => omega); (case zhz => omega); ((intro h9 t9 us9 n9 F9 N9 hI9 hs9); (try simp only [List.nil_append, List.cons_append] at N9); (try k_sweep)))))
  (k_with "truthy ref" => (k_here; k_dflt ((rename News _ _ _ _ => N7); refine' truthy_at N7 ?zhm ?zhz ?_ ?_; (case zhm => k_extra "x hm"); (case zhz => omega)); intro htr))
  trivial
open PySem.Builtin
theorem joined_go (sep : Array UInt8) : ∀ (l : List (Array UInt8)) (k : Nat) (acc : Array UInt8), 0 < k → ((l.zipIdx k).foldl (fun out (p, i) => (if i > 0 then out ++ sep else out) ++ p) acc).toList = acc.toList ++ (l.map fun p => sep.toList ++ p.toList).flatten
  | [], k, acc, _ => by simp
  | a :: r, k, acc, hk => by
    rw [List.zipIdx_cons, List.foldl_cons, joined_go sep r (k + 1) _ (by omega)]
    try dsimp only
    rw [if_pos hk]
    simp
theorem joined_cons (sep : Array UInt8) (b : Array UInt8) (r : List (Array UInt8)) : (Bytes.joined sep (b :: r)).toList = b.toList ++ (r.map fun p => sep.toList ++ p.toList).flatten := by
  unfold Bytes.joined
  rw [List.zipIdx_cons, List.foldl_cons, joined_go sep r 1 _ (by omega)]
  simp
theorem byteArr_list (l : List Int) : (byteArr l).toList = l.map fun n => n.toNat.toUInt8 := rfl
theorem joined_bytes (sep : List Int) (b : List Int) (r : List (List Int)) : Bytes.joined (byteArr sep) ((b :: r).map byteArr) = byteArr (b ++ (r.map fun p => sep ++ p).flatten) := by
  apply Array.toList_inj.mp
  rw [List.map_cons, joined_cons, byteArr_list, byteArr_list, byteArr_list, List.map_append, List.map_flatten, List.map_map, List.map_map]
  congr 3
  funext p
  simp [byteArr_list]
theorem BsAre.bytes {vs : List Value} {l : List (List Int)} (h : BsAre vs l) : All2 (fun v b => ∃ t, v = Value.bytes b t) vs (l.map byteArr) := by
  induction h with
  | nil => exact .nil
  | cons a _ ih => exact .cons a ih
theorem join_size (sep : Nat) : ∀ (bs : List (Array UInt8)) (k m : Nat), (∀ b ∈ bs, b.size ≤ m) → bs.toArray.foldl (fun (a : Nat) (b : Array UInt8) => a + b.size) k ≤ k + m * bs.length := by
  intro bs
  induction bs with
  | nil => intro k m _; simp
  | cons b r ih =>
    intro k m h
    have h1 := h b (.head _)
    have h2 := ih (k + b.size) m fun x hx => h x (.tail _ hx)
    rw [← Array.foldl_toList] at h2 ⊢
    simp only [List.foldl_cons, List.length_cons, Nat.mul_add, Nat.mul_one] at h2 ⊢
    omega
noncomputable def glue (l : List (List Int)) : Nat → List (List Int)
  | 0 => [l.getD 0 []]
  | i + 1 => glue l i ++ (if runT (byteArr (l.getD i [])) (byteArr (l.getD (i + 1) [])) then [[32]] else []) ++ [l.getD (i + 1) []]
noncomputable def joinT (l : List (List Int)) : List Int := (glue l (l.length - 1)).flatten
theorem item_bs {prog : Program} {w : World} {A : Around} {E : Value → Shared → Prop} {s : Shared} {h₀ : Heap} {L c : Addr} {news : Led} {ps : Array Value} {l : List (List Int)} {n : Nat} {k : Int} {u : Tok} {value slice : PySem.Expr} {Q : Value → Shared → Prop} (N : News h₀ L s.heap news) (hb : BsAre ps.toList l) (hm : (c, W.listOf ps n) ∈ news) (h0 : 0 ≤ k) (h1 : k < l.length) (h2 : l.length ≤ 100000)
    (h : ∀ t, Q (.bytes (byteArr (l.getD k.toNat [])) t) s)
    (hs : subscripted slice false (.ref c) (.int k u) = operate [.ref c, .int k u] (getItem (.ref c) (.int k u)) := by with_unfolding_all rfl) : wpAny (model prog w) A (subscriptTail value slice (.ref c) (.int k u)) Q E s := by
  have hl := hb.len
  refine item_of N hm h0 (by omega) (by omega) (fun v hv => ?_) hs
  rw [← Array.getElem?_toList] at hv
  obtain ⟨ns, hns, t, rfl⟩ := All2.get hb hv
  have e : l.getD k.toNat [] = ns := by rw [List.getD_eq_getElem?_getD, hns]; rfl
  have := h t
  rwa [e] at this
theorem run_together_b {w : World} {x y : List Int} {t u : Tok} {rest : Led} (hx : 0 < x.length ∧ x.length ≤ 500) (hy : 0 < y.length ∧ y.length ≤ 500) : Does w 480 [.bytes (byteArr x) t, .bytes (byteArr y) u] 2 [] rest (fun r _ tl => tl = [] ∧ r = .bool (runT (byteArr x) (byteArr y))) :=
  run_together_d (by rw [byteArr_size]; omega) (by rw [byteArr_size]; omega) (by rw [byteArr_size]; omega) (by rw [byteArr_size]; omega)
theorem hne_of {l : List (List Int)} {i : Nat} (h : ∀ ns ∈ l, 0 < ns.length ∧ ns.length ≤ 500) (hi : i < l.length) : 0 < (l.getD i []).length ∧ (l.getD i []).length ≤ 500 := by
  rw [List.getD_eq_getElem?_getD, List.getElem?_eq_getElem hi]; exact h _ (List.getElem_mem hi)
theorem ln_BH_1 : True := by
  (k_with "call ref" => (k_here; k_dflt ((first | refine' Does.use0E (run_together_b ?zp0 ?zp1) ?zcB ?zcF ?zcX ?zcN ?zcT ?zchd ?zchu ?_ | refine' Does.use0V (run_together_b ?zp0 ?zp1) ?zcB ?zcF ?zcX ?zcN ?zcT ?zchd ?zchu ?_ | refine' Does.use0 (run_together_b ?zp0 ?zp1) ?zcB ?zcF ?zcX ?zcN ?zcT ?zchd ?zchu ?_); (case zcB => assumption); (case zcF => k_asm); (case zcX => assumption); (case zcN => k_asm); (case zcT => assumption); (case zchd => k_extra "x room"); (case zchu => k_extra "x unit"); (case zp0 => first | assumption | (apply hne_of; assumption; omega)); (case zp1 => first | assumption | (apply hne_of; assumption; omega)); (k_extra "x got"))))
  trivial
theorem ln_BH_2 : True := by
  (k_with "subscriptTail Name" => (k_here; k_dflt (refine' item_bs ?zcN ?zhb ?zhm ?zh0 ?zh1 ?zh2 ?_; (case zcN => ((rename News _ _ _ _ => N7); exact N7)); (case zhm => (repeat (first | assumption | exact List.mem_append_left _ (by assumption) | refine List.mem_cons_of_mem _ ?_))); (case zhb => assumption); (case zh0 => omega); (case zh1 => omega); (case zh2 => omega); intro t9)))
  trivial
theorem len_bs {prog : Program} {w : World} {A : Around} {E : Value → Shared → Prop} {s : Shared} {h₀ : Heap} {L c : Addr} {news : Led} {ps : Array Value} {l : List (List Int)} {n : Nat} {Q : Value → Shared → Prop} (N : News h₀ L s.heap news) (hb : BsAre ps.toList l) (hm : (c, W.listOf ps n) ∈ news) (hl : l.length ≤ 100000)
    (h : Q (.int (l.length : Nat) (s.toks + 1)) { s with toks := s.toks + 1 + 1 }) : wpAny (model prog w) A (call (.builtin "len") [.ref c]) Q E s := by
  have e := hb.len
  refine PyProof.Rows.len_list (items := ps) ⟨_, N.get hm, rfl, n, rfl⟩ (by omega) ?_
  rw [e]; exact h
theorem ln_BH_3 : True := by
  (k_with "call builtin:len cons nil" => (k_here; k_dflt (refine' len_bs ?zcN ?zhb ?zhm ?zhl ?_; (case zcN => ((rename News _ _ _ _ => N7); exact N7)); (case zhm => (repeat (first | assumption | exact List.mem_append_left _ (by assumption) | refine List.mem_cons_of_mem _ ?_))); (case zhb => assumption); (case zhl => omega))))
  trivial
theorem ln_BH_4 : True := by
  (k_with "getMethod bytes" => (k_here; k_dflt (refine bytes_method_join ?_)))
  trivial
theorem glue_size (l : List (List Int)) : ∀ i, (glue l i).length ≤ 1 + 2 * i
  | 0 => by simp [glue]
  | i + 1 => by
    have := glue_size l i
    simp only [glue, List.length_append, List.length_singleton]
    split <;> simp <;> omega
theorem glue_mem {l : List (List Int)} (h : ∀ i, (l.getD i []).length ≤ 500) : ∀ i, ∀ x ∈ glue l i, x.length ≤ 500
  | 0, x, hx => by rw [glue, List.mem_singleton] at hx; rw [hx]; exact h 0
  | i + 1, x, hx => by
    simp only [glue, List.mem_append, List.mem_singleton] at hx
    rcases hx with (hx | hx) | hx
    · exact glue_mem h i x hx
    · split at hx
      · rw [List.mem_singleton.mp hx]; decide
      · cases hx
    · rw [hx]; exact h (i + 1)
theorem flat_le {l : List (List Int)} {m : Nat} (h : ∀ x ∈ l, x.length ≤ m) : l.flatten.length ≤ m * l.length := by
  induction l with
  | nil => simp
  | cons a r ih =>
    have h1 := h a (.head _)
    have h2 := ih fun x hx => h x (.tail _ hx)
    simp only [List.flatten_cons, List.length_append, List.length_cons, Nat.mul_add, Nat.mul_one]
    omega
theorem glue_ne (l : List (List Int)) : ∀ i, glue l i ≠ []
  | 0 => by simp [glue]
  | i + 1 => by simp [glue]
theorem join_nil (l : List (List Int)) (h : l ≠ []) : Bytes.joined (byteArr []) (l.map byteArr) = byteArr l.flatten := by
  cases l with
  | nil => exact absurd rfl h
  | cons b r => rw [joined_bytes]; simp
theorem joined_parts_d {w : World} {P : Addr} {np : Nat} {ps : Array Value} {l : List (List Int)} {rest : Led} (m1 : (P, W.listOf ps np) ∈ rest) (hb : BsAre ps.toList l) (h0 : 0 < l.length) (h1 : l.length ≤ 100) (hne : ∀ ns ∈ l, 0 < ns.length ∧ ns.length ≤ 500) : Does w 487 [.ref P, .bool true] 4 [] rest (fun r _ tl => tl = [] ∧ ∃ tk, r = .bytes (byteArr (joinT l)) tk) := by
  refine' Does.of (binds := [(Str.ofString "parts", .ref P), (Str.ofString "is_least", .bool true)]) (al := [(Str.ofString "is_least", some (.bool true)), (Str.ofString "parts", some (.ref P))]) ?k6 ?kb ?ks ?k7 ?k9 ?kB ?c5 ?c2 ?c3 ?c4 ?lv ?kal ?_
  (case k6 => k_dflt k_is); (case kb => conv => lhs; whnf); (case ks => conv => lhs; whnf); (case k7 => k_dflt k_is); (case k9 => exact rfl); (case kB => exact locs rfl); (case c5 => decide); (case c2 => exact rfl); (case c3 => exact rfl); (case c4 => exact rfl); (case lv => decide); (case kal => exact rfl)
  intro mean mg mb dp un outer base g L s E F N hap B X T hlt hdp hun
  (try simp only [List.nil_append, List.cons_append] at N hlt)
  k_fold
  k_extra "x stmt"
  k_extra "x stmt"
  ((rename Fr g L _ _ => F7); (rename News g L _ _ => N8); (have F8 : Fr _ _ _ (lkm [(_, _), (_, _), (_, _)]) := F7); clear F7)
  rename ∀ p ∈ rest, _ < _ => l1
  have F9 := Fr_rows [(Str.ofString "at", none), (Str.ofString "found", some (.ref _)), (Str.ofString "is_least", some (.bool true)), (Str.ofString "parts", some (.ref P))] F8 (by repeat' (first | exact rfl | exact trivial | refine And.intro ?_ ?_)) (by repeat' (first | exact rfl | exact trivial | refine And.intro ?_ ?_))
  clear F8
  refine seqK ?_
  refine For_invVF F9 (by rfl) (by rfl) ?_
  (repeat' ((fail_if_success (with_reducible refine mark_pi ?_)); k_extra "x one"))
  rename IsRange _ _ _ _ _ _ _ _ => hR
  rename_i FR NR hkeep
  refine range_loop (n := l.length - 1) (fun i al nx => Ex4 fun D us n o1 => An5 (nx = (D, W.listOf us n) :: rest) ((∀ p ∈ rest, p.1 < D)) (us.size ≤ 1 + 2 * i) (BsAre us.toList (glue l i)) (al = [(Str.ofString "at", o1), (Str.ofString "found", some (.ref D)), (Str.ofString "is_least", some (.bool true)), (Str.ofString "parts", some (.ref P))])) hR (small_one (by decide) (by decide) (by omega) (by omega)) (by rw [rangeSize_nat]; congr 1; omega) FR NR ⟨_, _, _, _, rfl, l1, by simp, .cons ⟨_, rfl⟩ .nil, rfl⟩ ?_ ?_
  · rintro i v al₁ news₁ h tk own hi9 hP ho ⟨D, us, n, o1, rfl, hD, hU, hB, rfl⟩ F1 N1
    obtain ⟨u, rfl⟩ := hP
    have hDo : ∀ p ∈ own, p.1 ≠ D := fun p hp => ho p hp D (.head _)
    replace N1 : News g L h ((D, W.listOf us n) :: (rest ++ own)) := N1
    have m1' : (P, W.listOf ps np) ∈ rest ++ own := List.mem_append.mpr (.inl m1)
    have e1 : (1 + (i : Int)).toNat = i + 1 := by omega
    have e2 : (1 + (i : Int) - 1).toNat = i := by omega
    k_extra "x steps"
    all_goals simp only [e1, e2] at *
    · ((rename Fr g L _ _ => F7); (rename News g L _ _ => N8); (have F8 := Fr_norm (al := [(_, _), (_, _), (_, _), (_, _), (_, _)]) F7); clear F7)
      rename runT _ _ = true => hrt
      refine ⟨_, _, _, (D, _) :: rest, rfl, F8, N8, ho, D, _, _, _, rfl, hD, by simp; omega, ?_, rfl⟩
      rw [glue, if_pos hrt]
      exact BsAre.push (BsAre.push (ns := [32]) hB)
    · ((rename Fr g L _ _ => F7); (rename News g L _ _ => N8); (have F8 := Fr_norm (al := [(_, _), (_, _), (_, _), (_, _), (_, _)]) F7); clear F7)
      rename runT _ _ = false => hrt
      refine ⟨_, _, _, (D, _) :: rest, rfl, F8, N8, ho, D, _, _, _, rfl, hD, by simp; omega, ?_, rfl⟩
      rw [glue, if_neg (by rw [hrt]; decide), List.append_nil]
      exact BsAre.push hB
  · rintro al₁ news₁ h tk ⟨D, us, n, o1, rfl, hD, hU, hB, rfl⟩ F1 N1
    try dsimp only
    refine seqK ?_
    (repeat' ((fail_if_success (with_reducible refine mark_bc ?_)); (first | (k_unfold; (try dsimp only)) | walk1 | (dsimp only; walk1))))
    have hgl := glue_size l (l.length - 1)
    have hg5 := glue_mem (l := l) (fun i => by
      by_cases hi : i < l.length
      · exact (hne_of hne hi).2
      · rw [List.getD_eq_getElem?_getD, List.getElem?_eq_none (by omega)]; decide) (l.length - 1)
    have hfl := flat_le hg5
    refine join_bytes (sep := #[]) (vs := us.toList) (nn := n) (by rw [Array.toArray_toList]; exact N1.get (.head _)) hB.bytes ?_ ?_ (by simpa using glue_ne l _) fun t' k => ?_
    · have := join_size 0 ((glue l (l.length - 1)).map byteArr) ((#[] : Array UInt8).size * (((glue l (l.length - 1)).map byteArr).toArray.size - 1)) 500 (fun b hb => by
        obtain ⟨x, hx, rfl⟩ := List.mem_map.mp hb
        rw [byteArr_size]; exact hg5 x hx)
      refine Nat.le_trans this ?_
      rw [show (#[] : Array UInt8).size = 0 from rfl, Nat.zero_mul, List.length_map]
      omega
    · show (Bytes.joined (byteArr []) ((glue l (l.length - 1)).map byteArr)).size ≤ _
      rw [join_nil _ (glue_ne l _), byteArr_size]; omega
    · exact ⟨_, [], [], _, _, rfl, F1, news_tail N1, rfl, (fun _ _ _ h => nomatch h), rfl, _, congrArg (Value.bytes · _) (join_nil _ (glue_ne l _))⟩

theorem ln_BI : True := by
  k_with_none
  (k_with "ite" => first | with_reducible refine ite_tt ?_ | with_reducible refine ite_ff ?_)
  (k_with "execs nil" => (with_reducible refine wpAny_execs_nil ?_; (try dsimp only)))
  (k_with "execs cons" => (k_here; k_dflt (refine seqK ?_; (try dsimp only))))
  (k_with "x lia" => ((try clear cc); (try clear c2); (try clear lf); lia))
  (k_with "x n7" => ((rename News _ _ _ _ => N7); exact N7))
  (k_with "x room" => (first | exact room1 (by assumption) (by rfl) | exact room2 (by assumption) (by rfl) | omega))
  (k_with "x unit" => (first | exact unit1 (by assumption) (by rfl) | exact unit2 (by assumption) (by rfl) | omega))
  (k_with "x got" => ((first | ((with_reducible intro r9 h9 tk9 F9 N9 P9); (first | (obtain ⟨t9, e9⟩ := P9; subst e9) | (subst P9) | skip)) | (with_reducible intro t9 h9 tk9 F9 N9) | (with_reducible intro h9 tk9 F9 N9)); (try k_sweep)))
  (k_with "x one" => (first | (k_unfold; (try dsimp only)) | walk1 | (dsimp only; walk1)))
  (k_with "x g" => ((fail_if_success plain_pass); k_here))
  (k_with "x k" => (k_asm; k_extra "x n7"; k_extra "x ix"))
  (k_with "x c" => (k_extra "x k"; k_extra "x ev"; k_extra "x ev"))
  (k_with "x if" => (k_dflt (k_here; (with_reducible show wpAny _ _ (execs (Stmt.If (PySem.Expr.Compare (PySem.Expr.Name _ _) [CmpOp.Eq] [PySem.Expr.Constant (Const.str _) _ _] _) _ _ _ :: _) _) _ _ _); first | (apply xif_f; k_extra "x c"; exact rfl) | (apply xif_t; k_extra "x c"; exact rfl))))
  (k_with "x stmt" => ((first | k_extra "x if" | refine seqK ?_ | refine wpAny_execs_cons ?_); (repeat' ((fail_if_success (with_reducible refine mark_execs ?_)); k_extra "x one"))))
  (k_with "x steps" => (repeat' k_extra "x one"))
  (k_with "x ix" => (first | exact isX1 rfl | exact isX2 rfl | exact isX3 rfl))
  (k_with "x ev" => (first | exact Ev.str | exact Ev.int | exact Ev.none | exact Ev.bool | (apply Ev.name; exact rfl; exact rfl; exact rfl) | (apply Ev.cell; exact rfl; exact rfl; exact rfl; (first | k_mem | (repeat (first | exact List.mem_cons_self .. | refine List.mem_cons_of_mem _ ?_))); k_asm)))
  (k_with "x evs" => (focus ((repeat' (first | exact Evs.nil | apply Evs.int | (apply Evs.name; exact rfl; exact rfl; exact rfl) | (apply Evs.cell; exact rfl; exact rfl; exact rfl; (first | k_mem | (repeat (first | exact List.mem_cons_self .. | refine List.mem_cons_of_mem _ ?_))); k_asm) | exact Ev.str | exact Ev.none | exact Ev.bool | apply Evs.cons)); done)))
  (k_with "execs cons If" => ((fail_if_success plain_pass); k_extra "x if"))
  (k_with "isTrue Compare" => (k_extra "x g"; (with_reducible show wpAny _ _ (PySem.isTrue (PySem.Expr.Compare _ [_] [_] _) _ _) _ _ _); k_dflt (first | ((with_reducible show wpAny _ _ (PySem.isTrue (PySem.Expr.Compare _ [CmpOp.Eq] [_] _) _ _) _ _ _); apply ist_strL; k_extra "x c") | (apply ist_int; k_extra "x c"; exact rfl))))
  (k_with "eval Call Name" => (k_extra "x g"; k_dflt (first | (apply call_ev; exact rfl; exact rfl; exact rfl; k_extra "x k"; k_extra "x evs"; k_asm; k_asm; k_is; k_is) | (apply bcall_ev; exact rfl; exact rfl; exact rfl; exact rfl; k_extra "x k"; k_extra "x evs"; k_asm; k_asm; k_is; boot_fast; decide))))
  (k_with "callWith" => (k_extra "x g"; k_dflt (apply meth_ev; exact rfl; k_extra "x k"; k_extra "x evs")))
  (k_with "spliced" => (k_extra "x g"; k_dflt (apply args_ev; exact rfl; k_extra "x k"; k_extra "x evs")))
  (k_with "eval Attribute Name" => (k_extra "x g"; k_dflt (apply attr_ev; k_extra "x k"; k_extra "x ev")))
  (k_with "x ho" => ((try simp only [List.nil_append, List.cons_append]); (repeat' (first | (refine off1_of ?_; assumption) | (refine off1_lt ?_; assumption) | (refine off1_all ?_; assumption) | refine And.intro ?_ ?_ | exact trivial | ((show @Ne Nat _ _); omega) | refine off1_app ?_ ?_))))
  (k_with "x hz" => ((try simp only [Array.size_push, List.size_toArray, List.length_cons, List.length_nil, List.length_append]); omega))
  (k_with "x hm" => (repeat (first | exact List.mem_cons_self .. | exact List.mem_append_left _ (by assumption) | refine List.mem_cons_of_mem _ ?_)))
  (k_with "call builtin:list.append" => (k_here; k_dflt ((rename News _ _ _ _ => N7); (first | (refine' append_at [] _ ?zcF N7 ?zho ?zhz ?_) | (refine' append_at [_] _ ?zcF N7 ?zho ?zhz ?_) | (refine' append_at [_, _] _ ?zcF N7 ?zho ?zhz ?_) | (refine' append_at [_, _, _] _ ?zcF N7 ?zho ?zhz ?_)); (case zcF => k_asm); (case zho => k_extra "x ho"); (case zhz => k_extra "x hz"); ((intro h9 F9 N9); (try simp only [List.nil_append, List.cons_append] at N9); (try k_sweep)))))
  (k_with "call builtin:list.extend" => (k_here; k_dflt ((rename News _ _ _ _ => N7); (first | (refine' extend_at [] _ ?zcF N7 ?zhb ?zho ?zhne ?zhz ?_) | (refine' extend_at [_] _ ?zcF N7 ?zhb ?zho ?zhne ?zhz ?_) | (refine' extend_at [_, _] _ ?zcF N7 ?zhb ?zho ?zhne ?zhz ?_) | (refine' extend_at [_, _, _] _ ?zcF N7 ?zhb ?zho ?zhne ?zhz ?_)); (case zcF => k_asm); (case zhb => k_extra "x hm"); (case zho => k_extra "x ho"); (case zhne => k_extra "x hz"); (case zhz => k_extra "x hz"); ((intro h9 F9 N9); (try simp only [List.nil_append, List.cons_append] at N9); (try k_sweep)))))
  (k_with "setItem ref int" => (k_here; k_dflt ((rename News _ _ _ _ => N7); (first | (refine' dset_at (K := Int) (knd := intKind prg _) [] _ ?zcF N7 ?zhd ?zhk ?zho ?zhz ?_; (case zhd => assumption)) | (refine' dset_at (K := Int) (knd := intKind prg _) [_] _ ?zcF N7 ?zhd ?zhk ?zho ?zhz ?_; (case zhd => assumption)) | (refine' dset_at (K := Int) (knd := intKind prg _) [_, _] _ ?zcF N7 ?zhd ?zhk ?zho ?zhz ?_; (case zhd => assumption))); (case zcF => k_asm); (case zhk => exact is_int); (case zho => k_extra "x ho"); (case zhz => omega); ((intro h9 o9 F9 N9 hd9); (try simp only [List.nil_append, List.cons_append] at N9); (try k_sweep)))))
  (k_with "call builtin:list.pop" => (k_here; k_dflt ((rename News _ _ _ _ => N7); (first | (refine' pop_at [] _ ?zcF N7 ?zhi ?zho ?zhne ?zhz ?_; (case zhi => assumption)) | (refine' pop_at [_] _ ?zcF N7 ?zhi ?zho ?zhne ?zhz ?_; (case zhi => assumption))); (case zcF => k_asm); (case zho => k_extra "x ho"); (case zhne => omega); (case zhz => omega); ((intro h9 t9 us9 n9 F9 N9 hI9 hs9); (try simp only [List.nil_append, List.cons_append] at N9); (try k_sweep)))))
  (k_with "truthy ref" => (k_here; k_dflt ((rename News _ _ _ _ => N7); refine' truthy_at N7 ?zhm ?zhz ?_ ?_; (case zhm => k_extra "x hm"); (case zhz => omega)); intro htr))
  trivial
noncomputable def layArr (ls : List Lf) : List (List Int) := [[91]] ++ ls.flatMap layLf ++ [[93]]
theorem flat_snocL {l : List Lf} {i : Nat} {c : Lf} (f : Lf → List (List Int)) (h : l[i]? = some c) : (l.take (i + 1)).flatMap f = (l.take i).flatMap f ++ f c := by
  rw [take_snoc h, List.flatMap_append]; simp
theorem kind_dt' {w : World} {v : Value} {d : Dt} {a : Addr × Obj} {rest : Led} (R : DtIn w rest v d) : Does w 265 [v] 1 [] (a :: rest) (fun r _ tl => tl = [] ∧ ∃ tk, r = .str d.kind tk) := kind_dt (R.mono fun _ h => .tail _ h)
theorem ln_BI_1 : True := by
  (k_with "call ref" => (k_here; k_dflt ((first | refine' Does.use0E (kind_dt' ?zp0) ?zcB ?zcF ?zcX ?zcN ?zcT ?zchd ?zchu ?_ | refine' Does.use0V (kind_dt' ?zp0) ?zcB ?zcF ?zcX ?zcN ?zcT ?zchd ?zchu ?_ | refine' Does.use0 (kind_dt' ?zp0) ?zcB ?zcF ?zcX ?zcN ?zcT ?zchd ?zchu ?_); (case zcB => assumption); (case zcF => k_asm); (case zcX => assumption); (case zcN => k_asm); (case zcT => assumption); (case zchd => k_extra "x room"); (case zchu => k_extra "x unit"); (case zp0 => assumption); (k_extra "x got"); (try simp only [Lf.kind, Dt.kind]))))
  trivial
theorem mem_l {a b : Led} {p : Addr × Obj} (h : p ∈ a) : p ∈ [] ++ (a ++ b) := (List.mem_append.mpr (.inl h) : p ∈ a ++ b)
theorem ln_BI_2 : True := by
  (k_with "call ref" => (k_here; k_dflt ((first | (refine' Does.useAt [] _ (lay_leaf_d ?zR ?zhok ?zhp ?zhl) ?zcB ?zcF ?zcX ?zcN ?zcT ?zcA ?zchd ?zchu ?_; (case zcN => k_extra "x n7"))); (case zcB => assumption); (case zcF => k_asm); (case zcX => assumption); (case zcT => assumption); (case zchd => k_extra "x room"); (case zchu => k_extra "x unit"); (case zR => (exact LfIn.mono (fun _ h => mem_l h) (by assumption))); (case zhok => assumption); (case zhp => omega); (case zhl => assumption); (case zcA => (first | (intro q9 hq9; exact absurd hq9 List.not_mem_nil) | (refine apart1 ?_; (try simp only [List.nil_append, List.cons_append]); (repeat' (first | (refine off1_of ?_; assumption) | refine And.intro ?_ ?_ | exact trivial | ((show @Ne Nat _ _); omega) | refine off1_app ?_ ?_))))); ((intro r9 mu9 tl9 h9 tk9 F9 N9 e9 o9 P9); (obtain ⟨z0, z1, ps9, np9, z2, hb9, hs9⟩ := P9); (subst z0); (subst z1); (subst z2); (simp only [List.nil_append, List.cons_append] at N9 o9); (try k_sweep); skip))))
  trivial
theorem lay_arr_d {w : World} {v : Value} {ls : List Lf} {P : Addr} {np : Nat} {ps : Array Value} {l : List (List Int)} {rest : Led} (R : DtIn w rest v (.arr ls)) (hok : ∀ x ∈ ls, x.ok) (hn : ls.length ≤ 3) (hp : ps.size ≤ 500) (hl : BsAre ps.toList l) : Does w 473 [.ref P, v, .bool true] 13 [(P, W.listOf ps np)] rest (fun r mu' tl => An3 (r = .none) (tl = []) (Ex2 fun ps' np' => An3 (mu' = [(P, W.listOf ps' np')]) (BsAre ps'.toList (l ++ layArr ls)) (ps'.size ≤ ps.size + 11))) := by
  have R' := R
  cases R with
  | arr h1 h2 =>
    rename_i x vs n
    refine' Does.of (binds := [(Str.ofString "parts", .ref P), (Str.ofString "value", .ref x), (Str.ofString "is_least", .bool true)]) (al := [(Str.ofString "is_least", some (.bool true)), (Str.ofString "value", some (.ref x)), (Str.ofString "parts", some (.ref P))]) ?k6 ?kb ?ks ?k7 ?k9 ?kB ?c5 ?c2 ?c3 ?c4 ?lv ?kal ?_
    (case k6 => k_dflt k_is); (case kb => conv => lhs; whnf); (case ks => conv => lhs; whnf); (case k7 => k_dflt k_is); (case k9 => exact rfl); (case kB => exact locs rfl); (case c5 => decide); (case c2 => exact rfl); (case c3 => exact rfl); (case c4 => exact rfl); (case lv => decide); (case kal => exact rfl)
    intro mean mg mb dp un outer base g L s E F N hap B X T hlt hdp hun
    (try simp only [List.nil_append, List.cons_append] at N hlt)
    k_fold
    have hP : ∀ p ∈ rest, p.1 ≠ P := hap _ (List.mem_singleton_self _)
    k_extra "x stmt"
    k_extra "x stmt"
    k_extra "x stmt"
    ((rename Fr g L _ _ => F7); (rename News g L _ _ => N8); (have F8 : Fr _ _ _ (lkm [(_, _), (_, _), (_, _), (_, _)]) := F7); clear F7)
    have F9 := Fr_rows [(Str.ofString "part", none), (Str.ofString "kind", some (.str _ _)), (Str.ofString "is_least", some (.bool true)), (Str.ofString "value", some (.ref x)), (Str.ofString "parts", some (.ref P))] F8 (by repeat' (first | exact rfl | exact trivial | refine And.intro ?_ ?_)) (by repeat' (first | exact rfl | exact trivial | refine And.intro ?_ ?_))
    clear F8
    refine seqK ?_
    refine For_invVF F9 (by rfl) (by rfl) ?_
    refine ld F9 rfl ?_
    have hvl := h2.length
    refine list_loop (fun i al nx => Ex4 fun ps' np' o1 tk1 => An4 (nx = (P, W.listOf ps' np') :: rest) (BsAre ps'.toList (l ++ [[91]] ++ (ls.take i).flatMap layLf)) (ps'.size ≤ ps.size + 1 + 3 * i) (al = [(Str.ofString "part", o1), (Str.ofString "kind", some (.str (Str.ofString "array") tk1)), (Str.ofString "is_least", some (.bool true)), (Str.ofString "value", some (.ref x)), (Str.ofString "parts", some (.ref P))])) F9 N8 (.tail _ h1) ⟨_, _, _, _, rfl, by rw [List.take_zero, List.flatMap_nil, List.append_nil]; exact BsAre.push (ns := [91]) hl, by simp, rfl⟩ ?_ ?_
    · rintro i v al₁ news₁ h tk own hv ho hmm ⟨ps', np', o1, tk1, rfl, hB, hS, rfl⟩ F1 N1
      obtain ⟨lf, hlf, hin⟩ := h2.get hv
      have hlo := hok lf (List.mem_of_getElem? hlf)
      have hi3 : i < ls.length := (List.getElem?_eq_some_iff.mp hlf).1
      have hPo : ∀ p ∈ own, p.1 ≠ P := fun p hp => ho p hp P (.head _)
      replace N1 : News g L h ((P, W.listOf ps' np') :: (rest ++ own)) := N1
      k_extra "x steps"
      ((rename Fr g L _ _ => F7); (rename News g L _ _ => N8); (have F8 := Fr_norm (al := [(_, _), (_, _), (_, _), (_, _), (_, _), (_, _)]) F7); clear F7)
      rename BsAre _ (_ ++ layLf lf) => hb9
      rename Array.size _ ≤ Array.size ps' + 3 => hs9
      refine ⟨_, _, _, (P, _) :: rest, rfl, F8, N8, ho, .tail _ h1, _, _, _, _, rfl, ?_, by omega, rfl⟩
      rw [flat_snocL layLf hlf, ← List.append_assoc]
      exact hb9
    · rintro al₁ news₁ h tk ⟨ps', np', o1, tk1, rfl, hB, hS, rfl⟩ F1 N1
      try dsimp only
      rw [hvl, List.take_length] at hB
      k_extra "x steps"
      ((rename Fr g L _ _ => F8); (rename News g L _ _ => N8))
      refine ⟨_, [(_, _)], [], _, _, rfl, F8, N8, rfl, (fun _ _ _ h => nomatch h), rfl, rfl, _, _, rfl, ?_, by simp; omega⟩
      rw [show l ++ layArr ls = (l ++ [[91]] ++ ls.flatMap layLf) ++ [[93]] by simp [layArr]]
      exact BsAre.push (ns := [93]) hB

theorem sort_heap {h₀ h : Heap} {L D : Addr} {m : Str → Option Value} {news : Led} {vs : List Value} {n : Nat} (F : Fr h₀ L h m) (N : News h₀ L h ((D, W.listOf vs.toArray n) :: news)) (hD : ∀ q ∈ news, q.1 < D) (out : Array Value) :
    Fr h₀ L (sortedHeap h D vs out) m ∧ ∃ e, News h₀ L (sortedHeap h D vs out) ((D, W.listOf out e) :: news) := by
  obtain ⟨g1, g2, g3⟩ := N _ (.head _)
  refine ⟨⟨F.ns.at fun o e => (sortedHeap_old (Ne.symm g2) (Heap.lt_size e)).trans e, fun b o e => (sortedHeap_old (fun hb => by subst hb; rw [g3] at e; cases e) (Heap.lt_size (F.keep b o e))).trans (F.keep b o e), F.above⟩, ?_⟩
  obtain ⟨e, he⟩ := sortedHeap_at (out := out) (show h.get? D = some (seqObj "list" vs.toArray n) from g1)
  refine ⟨e, fun p hp => ?_⟩
  cases hp with
  | head => exact ⟨he, g2, g3⟩
  | tail _ hp =>
    obtain ⟨k1, k2, k3⟩ := N _ (.tail _ hp)
    exact ⟨(sortedHeap_old (Nat.ne_of_lt (hD p hp)) (Heap.lt_size k1)).trans k1, k2, k3⟩
noncomputable def leS (a b : Str) : Prop := a.cps.toList ≤ b.cps.toList
theorem leS_of {a b : Str} (h : (!PySem.Spec.ltCps b.cps.toList a.cps.toList) = true) : leS a b := by
  rw [ltCps_eq] at h
  simp only [Bool.not_eq_true', decide_eq_false_iff_not] at h
  exact h
theorem rising_pw : ∀ (l : List Str) (p : Str), risingS p l = true → (p :: l).Pairwise leS
  | [], p, _ => List.pairwise_singleton _ _
  | x :: r, p, h => by
    have h' : (!PySem.Spec.ltCps x.cps.toList p.cps.toList && risingS x r) = true := h
    rw [Bool.and_eq_true] at h'
    have h1 := leS_of h'.1
    have h2 := rising_pw r x h'.2
    refine List.pairwise_cons.mpr ⟨fun y hy => ?_, h2⟩
    rcases List.mem_cons.mp hy with rfl | hy
    · exact h1
    · exact List.le_trans h1 ((List.pairwise_cons.mp h2).1 y hy)
theorem sortedS_pw : ∀ (l : List Str), sortedS l = true → l.Pairwise leS
  | [], _ => .nil
  | x :: r, h => rising_pw r x h
theorem leS_anti {a b : Str} (h1 : leS a b) (h2 : leS b a) : a = b := by
  have := List.le_antisymm h1 h2
  cases a; cases b
  simp only [Str.mk.injEq] at this ⊢
  first | exact Array.toList_inj.mp this | simpa using this
theorem sortedS_uniq {a b : List Str} (hp : a.Perm b) (ha : sortedS a = true) (hb : sortedS b = true) : a = b :=
  List.Perm.eq_of_pairwise (fun x y _ _ h1 h2 => leS_anti h1 h2) (sortedS_pw a ha) (sortedS_pw b hb) hp
theorem strs_of_get : ∀ (vs : List Value) (ss : List Str), vs.length = ss.length → (∀ (j : Nat) (v : Value), vs[j]? = some v → ∃ k t, ss[j]? = some k ∧ v = .str k t) → StrsAre vs ss
  | [], [], _, _ => .nil
  | [], _ :: _, h, _ => by cases h
  | _ :: _, [], h, _ => by cases h
  | v :: vs, x :: ss, h, hv => by
    obtain ⟨k, t, e, rfl⟩ := hv 0 v rfl
    simp only [List.getElem?_cons_zero, Option.some.injEq] at e
    subst e
    exact .cons _ _ (strs_of_get vs ss (by simpa using h) fun j u hu => by simpa using hv (j + 1) u (by simpa using hu))
theorem ints_of_get : ∀ (vs : List Value) (ss : List Int), vs.length = ss.length → (∀ (j : Nat) (v : Value), vs[j]? = some v → ∃ k t, ss[j]? = some k ∧ v = .int k t) → PyProof.Rows.IntsAre vs ss
  | [], [], _, _ => .nil
  | [], _ :: _, h, _ => by cases h
  | _ :: _, [], h, _ => by cases h
  | v :: vs, x :: ss, h, hv => by
    obtain ⟨k, t, e, rfl⟩ := hv 0 v rfl
    simp only [List.getElem?_cons_zero, Option.some.injEq] at e
    subst e
    exact .cons _ _ (ints_of_get vs ss (by simpa using h) fun j u hu => by simpa using hv (j + 1) u (by simpa using hu))
section
variable {prog : Program} {w : World} {A : Around} {E : Value → Shared → Prop} {s : Shared} {h₀ : Heap} {L x : Addr} {m : Str → Option Value} {news : Led} {od : Obj} {Q : Value → Shared → Prop}
theorem sorted_dict_str {kvs : List (Str × Value)} {ks : List Str} (F : Fr h₀ L s.heap m) (N : News h₀ L s.heap news) (hm : (x, od) ∈ news) (lo : (x == sysModules) = false) (hd : od.IsDictOf (PySem.strKind prog w) kvs) (hp : (kvs.map (·.1)).Perm ks) (hs : sortedS ks = true) (h64 : kvs.length < 64)
    (h : ∀ (D : Addr) (h' : Heap) (tk : Nat) (vs : List Value) (e : Nat), Fr h₀ L h' m → News h₀ L h' ((D, W.listOf vs.toArray e) :: news) → (∀ q ∈ news, q.1 < D) → StrsAre vs ks → Q (.ref D) { s with heap := h', toks := tk }) (hh : A.handled = none := by rfl) :
    wpAny (model prog w) A (call (.builtin "sorted") [.ref x]) Q E s := by
  obtain ⟨ep, hat⟩ := (Heap.dictOf_iff.mpr ⟨od, N.get hm, hd⟩).dictAt
  refine kdu_sorted (kdl_dict (knd := PySem.strKind prog w) (kvs := kvs) (ep := ep) lo) hh F N hat (by rw [sizeLine_eq]; omega) fun D h' tk vs F' N' l1 hl hv => ?_
  have hS : StrsAre vs (kvs.map (·.1)) := strs_of_get _ _ (by rw [hl, List.length_map]) fun j v e => by
    obtain ⟨k, y, hk, hi⟩ := hv j v e
    obtain ⟨t, rfl⟩ := Value.isStrOf_shape hi
    exact ⟨k, t, by rw [List.getElem?_map, hk]; rfl, rfl⟩
  refine wpAny_call_entry PyProof.Rows.slot_list_sort ⟨_, N'.get (.head _), rfl⟩ PyProof.Rows.entry_list_sort (list_sort_treeK (n := 0) strKind_oneLt (N'.get (.head _)) hS.keysOf (fun v₁ v₂ rest e => keyKind_strs (by rw [← e]; exact hS)) (by omega) fun st' hp' hs' => ⟨.none, rfl, ?_⟩) (PyProof.Rows.args_list_sort _)
  obtain ⟨ss', h1, h2, h3⟩ := sorted_out_str hS hp' hs'
  have : ss' = ks := sortedS_uniq (h2.trans hp) h3 hs
  subst this
  obtain ⟨F2, e, N2⟩ := sort_heap F' N' l1 ((arrOf st').map (·.2))
  exact h D _ tk _ e F2 (by rw [Array.toArray_toList]; exact N2) l1 h1
theorem sorted_dict_int {kvs : List (Int × Value)} (F : Fr h₀ L s.heap m) (N : News h₀ L s.heap news) (hm : (x, od) ∈ news) (lo : (x == sysModules) = false) (hd : od.IsDictOf (intKind prog w) kvs) (hs : (kvs.map (·.1)).Pairwise (· ≤ ·)) (h64 : kvs.length < 64)
    (h : ∀ (D : Addr) (h' : Heap) (tk : Nat) (vs : List Value) (e : Nat), Fr h₀ L h' m → News h₀ L h' ((D, W.listOf vs.toArray e) :: news) → (∀ q ∈ news, q.1 < D) → PyProof.Rows.IntsAre vs (kvs.map (·.1)) → Q (.ref D) { s with heap := h', toks := tk }) (hh : A.handled = none := by rfl) :
    wpAny (model prog w) A (call (.builtin "sorted") [.ref x]) Q E s := by
  obtain ⟨ep, hat⟩ := (Heap.dictOf_iff.mpr ⟨od, N.get hm, hd⟩).dictAt
  refine kdu_sorted (kdl_dict (knd := intKind prog w) (kvs := kvs) (ep := ep) lo) hh F N hat (by rw [sizeLine_eq]; omega) fun D h' tk vs F' N' l1 hl hv => ?_
  have hS : PyProof.Rows.IntsAre vs (kvs.map (·.1)) := ints_of_get _ _ (by rw [hl, List.length_map]) fun j v e => by
    obtain ⟨k, y, hk, hi⟩ := hv j v e
    cases v with
    | int z t =>
      have : z = k := by simpa [intKind, Value.isInt] using hi
      subst this
      exact ⟨_, t, by rw [List.getElem?_map, hk]; rfl, rfl⟩
    | _ => exact absurd hi (by simp [intKind, Value.isInt])
  refine wpAny_call_entry PyProof.Rows.slot_list_sort ⟨_, N'.get (.head _), rfl⟩ PyProof.Rows.entry_list_sort (list_sort_tree (n := 0) (N'.get (.head _)) hS (by omega) fun out ns' hI hp hP => ⟨.none, rfl, ?_⟩) (PyProof.Rows.args_list_sort _)
  have : ns' = kvs.map (·.1) := List.Perm.eq_of_pairwise (fun x y _ _ h1 h2 => Int.le_antisymm h1 h2) hP hs hp
  subst this
  obtain ⟨F2, e, N2⟩ := sort_heap F' N' l1 out
  exact h D _ tk _ e F2 (by rw [Array.toArray_toList]; exact N2) l1 hI
end

theorem bb_find : typeLookup (.type "bytes") "__bytes__" = pure (some (.builtin "bytes.__bytes__")) := by rw [typeLookup_type, builtinLookup_eq_fast]; kernel_rfl
theorem bb_typeCall (a : Array UInt8) (t : Tok) : checkBuiltinCall "type.__call__" ⟨[.type "bytes", .bytes a t], []⟩ = pure () := by kernel_rfl
section
variable {prog : Program} {w : World} {A : Around} {E : Value → Shared → Prop} {s : Shared}
theorem bb_new {a : Array UInt8} {ta : Tok} {Q : Value → Shared → Prop} 
    (hQ : Q (.bytes a ta) s) :
    codeAny (model prog w) A (.call (.builtin "bytes.__new__") ⟨[.type "bytes", .bytes a ta], []⟩) (wants Q E) s := by
  refine codeAny_of_tree ?_
  show wpAny _ A.in1 (do checkBuiltinCall "bytes.__new__" ⟨[.type "bytes", .bytes a ta], []⟩; again (.builtin "bytes.__new__" ⟨[.type "bytes", .bytes a ta], []⟩)) _ _ s
  refine wpAny_bind (wpAny_of_eq (F.bm_newCall _) (wpAny_pure ⟨plainId_quiet F.bm_plain _, codeAny_builtin F.bm_entry ?_⟩))
  rw [Around.under_plainId F.bm_plain _]
  unfold Builtin.«bytes.__new__»
  refine wpAny_bind (wpAny_of_eq (a := true) rfl ?_)
  refine bm_if_false rfl ?_
  refine wpAny_bind (wpAny_of_eq F.bm_sub ?_)
  refine bm_if_false rfl ?_
  refine wpAny_bind (wpAny_of_eq (F.bm_bind _) ?_)
  refine wpAny_bind (wpAny_of_eq (a := ()) rfl ?_)
  refine wpAny_bind (wpAny_of_eq (a := ()) rfl ?_)
  refine bm_if_false rfl ?_
  refine wpAny_bind (wpAny_specialOf (PySem.W.typeIs_bytes _ _ _) bb_find ?_)
  refine wpAny_bind (wpAny_rule ?_)
  refine wpAny_bind (wpAny_of_eq (a := .type "bytes") rfl ?_)
  refine bm_if_true rfl ?_
  exact wpAny_pure hQ
theorem call_bytes_bytes {a : Array UInt8} {ta : Tok} {Q : Value → Shared → Prop} (hQ : Q (.bytes a ta) s) : wpAny (model prog w) A (call (.type "bytes") [.bytes a ta]) Q E s := by
  refine callType_codes (Q₁ := fun obj s₁ => s₁.TypeIs obj "bytes" ∧ Q obj s₁) F.bm_called (bb_typeCall a ta) F.entry_object_init
    (bb_new ⟨PySem.W.typeIs_bytes _ _ _, hQ⟩) fun obj s₁ h₁ => ?_
  exact ⟨h₁.1, F.args_object_init_2 obj _, object_init_meets F.bm_called.init.lookup F.bm_called.made (by decide) prog w A.in1 _ s₁ ⟨h₁.1, rfl, h₁.2⟩⟩
end

noncomputable def TV : Lf → List Value → Prop
  | .null, vs => ∃ t, vs = [.str (Str.ofString "null") t]
  | .truth b, vs => ∃ t u, vs = [.str (Str.ofString "truth") t, .int (if b then 1 else 0) u]
  | .int i, vs => ∃ t u, vs = [.str (Str.ofString "int") t, .int i u]
  | .real a b, vs => ∃ t u v, vs = [.str (Str.ofString "real") t, .int a u, .int b v]
  | .name x, vs => ∃ t u, vs = [.str (Str.ofString "name") t, .str x u]
  | .str o _, vs => ∃ t u, vs = [.str (Str.ofString "string") t, .bytes o u]
  | .ref a b, vs => ∃ t u v, vs = [.str (Str.ofString "ref") t, .int a u, .int b v]
noncomputable abbrev tupObj (vs : List Value) : Obj := { cls := .type "tuple", data := .seq vs.toArray }
theorem ln_E1_1 : True := by
  (k_with "call type:bytes" => (k_here; k_dflt (refine call_bytes_bytes ?_)))
  trivial
theorem told_plain_d {w : World} {v : Value} {l : Lf} {t : Tok} {rest : Led} (R : LfIn rest v l) : Does w 272 [.str l.kind t, v] 2 [] rest (fun r _ tl => Ex2 fun T vs => An3 (r = .ref T) (tl = [(T, tupObj vs)]) (TV l vs)) := by
  cases R with
  | null =>
    refine' Does.of (binds := [(Str.ofString "kind", .str (Str.ofString "null") t), (Str.ofString "value", .none)]) (al := [(Str.ofString "value", some (.none)), (Str.ofString "kind", some (.str (Str.ofString "null") t))]) ?k6 ?kb ?ks ?k7 ?k9 ?kB ?c5 ?c2 ?c3 ?c4 ?lv ?kal ?_
    (case k6 => k_dflt k_is); (case kb => conv => lhs; whnf); (case ks => conv => lhs; whnf); (case k7 => k_dflt k_is); (case k9 => exact rfl); (case kB => exact locs rfl); (case c5 => decide); (case c2 => exact rfl); (case c3 => exact rfl); (case c4 => exact rfl); (case lv => decide); (case kal => exact rfl)
    intro mean mg mb dp un outer base g L s E F N hap B X T hlt hdp hun
    (try simp only [List.nil_append, List.cons_append] at N hlt)
    k_fold
    k_extra "x steps"
    (((rename Fr g L _ _ => F8); (rename News g L _ _ => N8)); (rename ∀ p ∈ rest, p.1 < _ => l1); refine ⟨_, [], [(_, _)], _, _, rfl, F8, N8, rfl, (fun q hq p hp => by rw [List.mem_singleton.mp hp]; exact Nat.ne_of_lt (l1 q hq)), _, _, rfl, rfl, ?_⟩; first | exact ⟨_, rfl⟩ | exact ⟨_, _, rfl⟩ | exact ⟨_, _, _, rfl⟩)
  | str h1 h2 =>
    rename_i x dx n k1 k2 t1 t2 ta a b
    refine' Does.of (binds := [(Str.ofString "kind", .str (Str.ofString "string") t), (Str.ofString "value", .ref x)]) (al := [(Str.ofString "value", some (.ref x)), (Str.ofString "kind", some (.str (Str.ofString "string") t))]) ?k6 ?kb ?ks ?k7 ?k9 ?kB ?c5 ?c2 ?c3 ?c4 ?lv ?kal ?_
    (case k6 => k_dflt k_is); (case kb => conv => lhs; whnf); (case ks => conv => lhs; whnf); (case k7 => k_dflt k_is); (case k9 => exact rfl); (case kB => exact locs rfl); (case c5 => decide); (case c2 => exact rfl); (case c3 => exact rfl); (case c4 => exact rfl); (case lv => decide); (case kal => exact rfl)
    intro mean mg mb dp un outer base g L s E F N hap B X T hlt hdp hun
    (try simp only [List.nil_append, List.cons_append] at N hlt)
    k_fold
    k_extra "x steps"
    (((rename Fr g L _ _ => F8); (rename News g L _ _ => N8)); (rename ∀ p ∈ rest, p.1 < _ => l1); refine ⟨_, [], [(_, _)], _, _, rfl, F8, N8, rfl, (fun q hq p hp => by rw [List.mem_singleton.mp hp]; exact Nat.ne_of_lt (l1 q hq)), _, _, rfl, rfl, ?_⟩; first | exact ⟨_, rfl⟩ | exact ⟨_, _, rfl⟩ | exact ⟨_, _, _, rfl⟩)
  | truth b =>
    refine' Does.of (binds := [(Str.ofString "kind", .str (Str.ofString "truth") t), (Str.ofString "value", .bool b)]) (al := [(Str.ofString "value", some (.bool b)), (Str.ofString "kind", some (.str (Str.ofString "truth") t))]) ?k6 ?kb ?ks ?k7 ?k9 ?kB ?c5 ?c2 ?c3 ?c4 ?lv ?kal ?_
    (case k6 => k_dflt k_is); (case kb => conv => lhs; whnf); (case ks => conv => lhs; whnf); (case k7 => k_dflt k_is); (case k9 => exact rfl); (case kB => exact locs rfl); (case c5 => decide); (case c2 => exact rfl); (case c3 => exact rfl); (case c4 => exact rfl); (case lv => decide); (case kal => exact rfl)
    intro mean mg mb dp un outer base g L s E F N hap B X T hlt hdp hun
    (try simp only [List.nil_append, List.cons_append] at N hlt)
    k_fold
    cases b with
    | true =>
      k_extra "x steps"
      (((rename Fr g L _ _ => F8); (rename News g L _ _ => N8)); (rename ∀ p ∈ rest, p.1 < _ => l1); refine ⟨_, [], [(_, _)], _, _, rfl, F8, N8, rfl, (fun q hq p hp => by rw [List.mem_singleton.mp hp]; exact Nat.ne_of_lt (l1 q hq)), _, _, rfl, rfl, ?_⟩; first | exact ⟨_, rfl⟩ | exact ⟨_, _, rfl⟩ | exact ⟨_, _, _, rfl⟩)
    | false =>
      k_extra "x steps"
      (((rename Fr g L _ _ => F8); (rename News g L _ _ => N8)); (rename ∀ p ∈ rest, p.1 < _ => l1); refine ⟨_, [], [(_, _)], _, _, rfl, F8, N8, rfl, (fun q hq p hp => by rw [List.mem_singleton.mp hp]; exact Nat.ne_of_lt (l1 q hq)), _, _, rfl, rfl, ?_⟩; first | exact ⟨_, rfl⟩ | exact ⟨_, _, rfl⟩ | exact ⟨_, _, _, rfl⟩)
  | int i u =>
    refine' Does.of (binds := [(Str.ofString "kind", .str (Str.ofString "int") t), (Str.ofString "value", .int i u)]) (al := [(Str.ofString "value", some (.int i u)), (Str.ofString "kind", some (.str (Str.ofString "int") t))]) ?k6 ?kb ?ks ?k7 ?k9 ?kB ?c5 ?c2 ?c3 ?c4 ?lv ?kal ?_
    (case k6 => k_dflt k_is); (case kb => conv => lhs; whnf); (case ks => conv => lhs; whnf); (case k7 => k_dflt k_is); (case k9 => exact rfl); (case kB => exact locs rfl); (case c5 => decide); (case c2 => exact rfl); (case c3 => exact rfl); (case c4 => exact rfl); (case lv => decide); (case kal => exact rfl)
    intro mean mg mb dp un outer base g L s E F N hap B X T hlt hdp hun
    (try simp only [List.nil_append, List.cons_append] at N hlt)
    k_fold
    k_extra "x steps"
    (((rename Fr g L _ _ => F8); (rename News g L _ _ => N8)); (rename ∀ p ∈ rest, p.1 < _ => l1); refine ⟨_, [], [(_, _)], _, _, rfl, F8, N8, rfl, (fun q hq p hp => by rw [List.mem_singleton.mp hp]; exact Nat.ne_of_lt (l1 q hq)), _, _, rfl, rfl, ?_⟩; first | exact ⟨_, rfl⟩ | exact ⟨_, _, rfl⟩ | exact ⟨_, _, _, rfl⟩)
  | name h1 h2 =>
    rename_i x dx n k1 t1 ta a
    refine' Does.of (binds := [(Str.ofString "kind", .str (Str.ofString "name") t), (Str.ofString "value", .ref x)]) (al := [(Str.ofString "value", some (.ref x)), (Str.ofString "kind", some (.str (Str.ofString "name") t))]) ?k6 ?kb ?ks ?k7 ?k9 ?kB ?c5 ?c2 ?c3 ?c4 ?lv ?kal ?_
    (case k6 => k_dflt k_is); (case kb => conv => lhs; whnf); (case ks => conv => lhs; whnf); (case k7 => k_dflt k_is); (case k9 => exact rfl); (case kB => exact locs rfl); (case c5 => decide); (case c2 => exact rfl); (case c3 => exact rfl); (case c4 => exact rfl); (case lv => decide); (case kal => exact rfl)
    intro mean mg mb dp un outer base g L s E F N hap B X T hlt hdp hun
    (try simp only [List.nil_append, List.cons_append] at N hlt)
    k_fold
    k_extra "x steps"
    (((rename Fr g L _ _ => F8); (rename News g L _ _ => N8)); (rename ∀ p ∈ rest, p.1 < _ => l1); refine ⟨_, [], [(_, _)], _, _, rfl, F8, N8, rfl, (fun q hq p hp => by rw [List.mem_singleton.mp hp]; exact Nat.ne_of_lt (l1 q hq)), _, _, rfl, rfl, ?_⟩; first | exact ⟨_, rfl⟩ | exact ⟨_, _, rfl⟩ | exact ⟨_, _, _, rfl⟩)
  | real h1 h2 =>
    rename_i x dx n k1 k2 t1 t2 ta tb a b
    refine' Does.of (binds := [(Str.ofString "kind", .str (Str.ofString "real") t), (Str.ofString "value", .ref x)]) (al := [(Str.ofString "value", some (.ref x)), (Str.ofString "kind", some (.str (Str.ofString "real") t))]) ?k6 ?kb ?ks ?k7 ?k9 ?kB ?c5 ?c2 ?c3 ?c4 ?lv ?kal ?_
    (case k6 => k_dflt k_is); (case kb => conv => lhs; whnf); (case ks => conv => lhs; whnf); (case k7 => k_dflt k_is); (case k9 => exact rfl); (case kB => exact locs rfl); (case c5 => decide); (case c2 => exact rfl); (case c3 => exact rfl); (case c4 => exact rfl); (case lv => decide); (case kal => exact rfl)
    intro mean mg mb dp un outer base g L s E F N hap B X T hlt hdp hun
    (try simp only [List.nil_append, List.cons_append] at N hlt)
    k_fold
    k_extra "x steps"
    (((rename Fr g L _ _ => F8); (rename News g L _ _ => N8)); (rename ∀ p ∈ rest, p.1 < _ => l1); refine ⟨_, [], [(_, _)], _, _, rfl, F8, N8, rfl, (fun q hq p hp => by rw [List.mem_singleton.mp hp]; exact Nat.ne_of_lt (l1 q hq)), _, _, rfl, rfl, ?_⟩; first | exact ⟨_, rfl⟩ | exact ⟨_, _, rfl⟩ | exact ⟨_, _, _, rfl⟩)
  | ref h1 h2 =>
    rename_i x dx n k1 k2 t1 t2 ta tb a b
    refine' Does.of (binds := [(Str.ofString "kind", .str (Str.ofString "ref") t), (Str.ofString "value", .ref x)]) (al := [(Str.ofString "value", some (.ref x)), (Str.ofString "kind", some (.str (Str.ofString "ref") t))]) ?k6 ?kb ?ks ?k7 ?k9 ?kB ?c5 ?c2 ?c3 ?c4 ?lv ?kal ?_
    (case k6 => k_dflt k_is); (case kb => conv => lhs; whnf); (case ks => conv => lhs; whnf); (case k7 => k_dflt k_is); (case k9 => exact rfl); (case kB => exact locs rfl); (case c5 => decide); (case c2 => exact rfl); (case c3 => exact rfl); (case c4 => exact rfl); (case lv => decide); (case kal => exact rfl)
    intro mean mg mb dp un outer base g L s E F N hap B X T hlt hdp hun
    (try simp only [List.nil_append, List.cons_append] at N hlt)
    k_fold
    k_extra "x steps"
    (((rename Fr g L _ _ => F8); (rename News g L _ _ => N8)); (rename ∀ p ∈ rest, p.1 < _ => l1); refine ⟨_, [], [(_, _)], _, _, rfl, F8, N8, rfl, (fun q hq p hp => by rw [List.mem_singleton.mp hp]; exact Nat.ne_of_lt (l1 q hq)), _, _, rfl, rfl, ?_⟩; first | exact ⟨_, rfl⟩ | exact ⟨_, _, rfl⟩ | exact ⟨_, _, _, rfl⟩)

noncomputable def layEnt (p : Str × Lf) : List (List Int) := match p.2 with
  | .null => []
  | l => nameOct p.1 :: layLf l
noncomputable def layDict (ps : List (Str × Lf)) : List (List Int) := [[60, 60]] ++ ps.flatMap layEnt ++ [[62, 62]]
noncomputable def dkeys : List Str := [Str.ofString "A", Str.ofString "Key", Str.ofString "x y"]
theorem keys_sorted {ks : List Str} {k : Nat} (hk : k ≤ 3) (e : ks = dkeys.take k) : sortedS ks = true := by
  subst e
  rcases (by omega : k = 0 ∨ k = 1 ∨ k = 2 ∨ k = 3) with rfl | rfl | rfl | rfl <;> decide
theorem key_mem {ks : List Str} {k : Nat} (e : ks = dkeys.take k) {i : Nat} {x : Str} (hx : ks[i]? = some x) : x ∈ dkeys := by
  subst e
  exact List.mem_of_mem_take (List.mem_of_getElem? hx)
theorem key_codes {x : Str} (hx : x ∈ dkeys) : (∀ c ∈ codes x, 0 < c ∧ c < 256) ∧ x.cps.size ≤ 20 := by
  simp only [dkeys, List.mem_cons, List.not_mem_nil, or_false] at hx
  rcases hx with rfl | rfl | rfl <;> decide
theorem is_not_none {M : Model} {A : Around} {v : Value} {Q : Value → Shared → Prop} {E : Value → Shared → Prop} {s : Shared} (h : Q (.bool (!(v == Value.none))) s) : wpAny M A (compareOp .IsNot v .none) Q E s := by
  cases v <;> exact fun _ _ _ => h
theorem lf_none {news : Led} {v : Value} {l : Lf} (h : LfIn news v l) : (!(v == Value.none)) = false → l = .null := by
  cases h <;> first | exact fun _ => rfl | (intro h; exact absurd h (by decide)) | (intro h; cases h)
theorem lf_some {news : Led} {v : Value} {l : Lf} (h : LfIn news v l) : (!(v == Value.none)) = true → l ≠ .null := by
  cases h <;> first | (intro h; cases h; done) | (intro _ h; cases h)
theorem is_strL {prog : Program} {w : World} {k : Str} {t : Tok} : (PySem.strKind prog w).is k (.str k t) = true := by show Value.isStrOf k (.str k t) = true; simp [Value.isStrOf]
theorem mem_l2 {a b : Led} {c p : Addr × Obj} (h : p ∈ a) : p ∈ [c] ++ (a ++ b) := .tail _ (List.mem_append.mpr (.inl h) : p ∈ a ++ b)
theorem ln_E2_1 : True := by
  (k_with "call builtin:sorted" => (k_here; k_dflt (refine' sorted_dict_str ?zcF ?zcN ?zhm ?zlo ?zhd ?zhp ?zhs ?zh64 ?_; (case zcF => k_asm); (case zcN => ((rename News _ _ _ _ => N7); exact N7)); (case zhm => (repeat (first | assumption | refine List.mem_cons_of_mem _ ?_))); (case zlo => assumption); (case zhd => assumption); (case zhp => assumption); (case zhs => assumption); (case zh64 => omega); (intro D9 h9 tk9 vs9 e9 F9 N9 l9 S9); (try k_sweep))))
  trivial
theorem ln_E2_2 : True := by
  (k_with "call ref" => (k_here; k_dflt ((first | refine' Does.use0E (name_octets_d ?zp0 ?zp1) ?zcB ?zcF ?zcX ?zcN ?zcT ?zchd ?zchu ?_ | refine' Does.use0V (name_octets_d ?zp0 ?zp1) ?zcB ?zcF ?zcX ?zcN ?zcT ?zchd ?zchu ?_ | refine' Does.use0 (name_octets_d ?zp0 ?zp1) ?zcB ?zcF ?zcX ?zcN ?zcT ?zchd ?zchu ?_); (case zcB => assumption); (case zcF => k_asm); (case zcX => assumption); (case zcN => k_asm); (case zcT => assumption); (case zchd => k_extra "x room"); (case zchu => k_extra "x unit"); (case zp0 => first | assumption | exact And.left (by assumption) | exact And.right (by assumption)); (case zp1 => first | assumption | exact And.left (by assumption) | exact And.right (by assumption)); (k_extra "x got"))))
  trivial
theorem ln_E2_3 : True := by
  (k_with "subscriptTail Name Name ref str" => (k_here; k_dflt (refine' kda_item (knd := PySem.strKind prg _) ?zcN ?zhm ?zhd ?zhk ?zhl ?_; (case zcN => ((rename News _ _ _ _ => N7); exact N7)); (case zhd => assumption); (case zhm => (repeat (first | assumption | exact List.mem_append_left _ (by assumption) | refine List.mem_cons_of_mem _ ?_))); (case zhk => exact is_strL); (case zhl => assumption))))
  trivial
theorem ln_E2_4 : True := by
  (k_with "compareOp IsNot" => (k_here; k_dflt (refine is_not_none ?_)))
  trivial
theorem ln_E2_5 : True := by
  (k_with "call ref" => (k_here; k_dflt ((first | (refine' Does.useAt [] _ (lay_leaf_d ?zR ?zhok ?zhp ?zhl) ?zcB ?zcF ?zcX ?zcN ?zcT ?zcA ?zchd ?zchu ?_; (case zcN => k_extra "x n7")) | (refine' Does.useAt [_] _ (lay_leaf_d ?zR ?zhok ?zhp ?zhl) ?zcB ?zcF ?zcX ?zcN ?zcT ?zcA ?zchd ?zchu ?_; (case zcN => k_extra "x n7"))); (case zcB => assumption); (case zcF => k_asm); (case zcX => assumption); (case zcT => assumption); (case zchd => k_extra "x room"); (case zchu => k_extra "x unit"); (case zR => (exact LfIn.mono (fun _ h => mem_l2 h) (by assumption))); (case zhok => assumption); (case zhp => ((simp only [Array.size_push]); omega)); (case zhl => (first | assumption | exact BsAre.push (by assumption))); (case zcA => (first | (intro q9 hq9; exact absurd hq9 List.not_mem_nil) | (refine apart1 ?_; (try simp only [List.nil_append, List.cons_append]); (repeat' (first | (refine off1_of ?_; assumption) | refine And.intro ?_ ?_ | exact trivial | ((show @Ne Nat _ _); omega) | refine off1_app ?_ ?_))))); ((intro r9 mu9 tl9 h9 tk9 F9 N9 e9 o9 P9); (obtain ⟨z0, z1, ps9, np9, z2, hb9, hs9⟩ := P9); (subst z0); (subst z1); (subst z2); (simp only [List.nil_append, List.cons_append] at N9 o9); (try k_sweep); skip))))
  trivial
theorem flat_snocE {α : Type} {l : List α} {i : Nat} {c : α} (f : α → List (List Int)) (h : l[i]? = some c) : (l.take (i + 1)).flatMap f = (l.take i).flatMap f ++ f c := by
  rw [take_snoc h, List.flatMap_append]; simp
theorem layEnt_some {k : Str} {l : Lf} (h : l ≠ .null) : layEnt (k, l) = nameOct k :: layLf l := by
  cases l <;> first | rfl | exact absurd rfl h
theorem news_sw {g h : Heap} {L : Addr} {a b : Addr × Obj} {r : Led} (N : News g L h (a :: b :: r)) : News g L h (b :: a :: r) := (nC (nH (nT N)) (nC (nH N) (nT (nT N))))
theorem ent_keys {news : Led} {kvs : List (Str × Value)} {ps : List (Str × Lf)} (h : All2 (EntIn news) kvs ps) : kvs.map (·.1) = ps.map (·.1) := by
  induction h with
  | nil => rfl
  | cons a _ ih => rw [List.map_cons, List.map_cons, a.1, ih]
theorem ent_at {news : Led} {kvs : List (Str × Value)} {ps : List (Str × Lf)} (h : All2 (EntIn news) kvs ps) {i : Nat} {k : Str} (hk : (ps.map (·.1))[i]? = some k) : ∃ v lf, kvs[i]? = some (k, v) ∧ ps[i]? = some (k, lf) ∧ LfIn news v lf := by
  rw [List.getElem?_map] at hk
  cases hp : ps[i]? with
  | none => rw [hp] at hk; cases hk
  | some p =>
    rw [hp] at hk
    simp only [Option.map_some, Option.some.injEq] at hk
    have hi : i < kvs.length := by rw [h.length]; exact (List.getElem?_eq_some_iff.mp hp).1
    obtain ⟨p', hp', he⟩ := h.get (List.getElem?_eq_getElem hi)
    rw [hp] at hp'; cases hp'
    refine ⟨kvs[i].2, p.2, ?_, by rw [← hk], he.2⟩
    rw [List.getElem?_eq_getElem hi, ← hk, ← he.1]
theorem lay_dict_d {w : World} {v : Value} {es : List (Str × Lf)} {P : Addr} {np : Nat} {ps : Array Value} {l : List (List Int)} {rest : Led} (R : DtIn w rest v (.dict es)) (hok : (Dt.dict es).ok) (hp : ps.size ≤ 500) (hl : BsAre ps.toList l) : Does w 466 [.ref P, v, .bool true] 12 [(P, W.listOf ps np)] rest (fun r mu' tl => An3 (r = .none) (tl = []) (Ex2 fun ps' np' => An3 (mu' = [(P, W.listOf ps' np')]) (BsAre ps'.toList (l ++ layDict es)) (ps'.size ≤ ps.size + 14))) := by
  obtain ⟨⟨kk, hk3, hks⟩, hoks⟩ := hok
  have R' := R
  cases R with
  | dict h1 lo hd h2 =>
    rename_i x od kvs
    have hmap := ent_keys h2
    have hperm : (kvs.map (·.1)).Perm (es.map (·.1)) := by rw [hmap]
    have hsort := keys_sorted hk3 hks
    have hlen : kvs.length = es.length := h2.length
    have hlen3 : es.length ≤ 3 := by
      have := congrArg List.length hks
      simp only [List.length_map, List.length_take, List.length_cons, List.length_nil] at this
      omega
    refine' Does.of (binds := [(Str.ofString "parts", .ref P), (Str.ofString "value", .ref x), (Str.ofString "is_least", .bool true)]) (al := [(Str.ofString "is_least", some (.bool true)), (Str.ofString "value", some (.ref x)), (Str.ofString "parts", some (.ref P))]) ?k6 ?kb ?ks ?k7 ?k9 ?kB ?c5 ?c2 ?c3 ?c4 ?lv ?kal ?_
    (case k6 => k_dflt k_is); (case kb => conv => lhs; whnf); (case ks => conv => lhs; whnf); (case k7 => k_dflt k_is); (case k9 => exact rfl); (case kB => exact locs rfl); (case c5 => decide); (case c2 => exact rfl); (case c3 => exact rfl); (case c4 => exact rfl); (case lv => decide); (case kal => exact rfl)
    intro mean mg mb dp un outer base g L s E F N hap B X T hlt hdp hun
    (try simp only [List.nil_append, List.cons_append] at N hlt)
    k_fold
    have hP : ∀ p ∈ rest, p.1 ≠ P := hap _ (List.mem_singleton_self _)
    k_extra "x stmt"
    ((rename Fr g L _ _ => F7); (rename News g L _ _ => N8); (have F8 : Fr _ _ _ (lkm [(_, _), (_, _), (_, _)]) := F7); clear F7)
    have F9 := Fr_rows [(Str.ofString "key", none), (Str.ofString "is_least", some (.bool true)), (Str.ofString "value", some (.ref x)), (Str.ofString "parts", some (.ref P))] F8 (by repeat' (first | exact rfl | exact trivial | refine And.intro ?_ ?_)) (by repeat' (first | exact rfl | exact trivial | refine And.intro ?_ ?_))
    clear F8
    refine seqK ?_
    refine For_invVF F9 (by rfl) (by rfl) ?_
    (repeat' ((fail_if_success (with_reducible refine mark_pi ?_)); k_extra "x one"))
    rename StrsAre _ (es.map (·.1)) => hS
    have hSl := hS.length
    rw [List.length_map] at hSl
    have hDP : @Ne Nat D9 P := (Nat.ne_of_lt (l9 _ (.head _))).symm
    obtain ⟨_, _, _, _, _, _, hnd⟩ := id hd
    refine list_loop (fun i al nx => Ex3 fun ps' np' o1 => An4 (nx = (D9, W.listOf vs9.toArray e9) :: (P, W.listOf ps' np') :: rest) (BsAre ps'.toList (l ++ [[60, 60]] ++ (es.take i).flatMap layEnt)) (ps'.size ≤ ps.size + 1 + 4 * i) (al = [(Str.ofString "key", o1), (Str.ofString "is_least", some (.bool true)), (Str.ofString "value", some (.ref x)), (Str.ofString "parts", some (.ref P))])) F9 N9 (.head _) ?_ ?_ ?_
    · refine ⟨_, _, _, rfl, ?_, by simp, rfl⟩
      simp only [List.take_zero, List.flatMap_nil, List.append_nil]
      exact BsAre.push (ns := [60, 60]) hl
    · rintro i v al₁ news₁ h tk own hv ho hmm ⟨ps', np', o1, rfl, hB, hSz, rfl⟩ F1 N1
      obtain ⟨key, tkey, rfl, hkey⟩ := hS.item i v hv
      obtain ⟨val, lf, hkv, hpe, hin⟩ := ent_at h2 hkey
      have hva := valueAt_of_get hnd hkv
      have hlo : lf.ok := hoks _ (List.mem_of_getElem? hpe)
      have hi3 : i < es.length := (List.getElem?_eq_some_iff.mp hpe).1
      have hkc := key_codes (key_mem hks hkey)
      have hPo : ∀ p ∈ own, p.1 ≠ P := fun p hp => ho p hp P (.tail _ (.head _))
      replace N1 : News g L h ((D9, W.listOf vs9.toArray e9) :: (P, W.listOf ps' np') :: (rest ++ own)) := N1
      k_extra "x steps"
      · ((rename Fr g L _ _ => F7); (rename News g L _ _ => N8); (have F8 := Fr_norm (al := [(_, _), (_, _), (_, _), (_, _), (_, _)]) F7); clear F7)
        rename (val == Value.none) = true => hvn
        have hlf := lf_none hin (by rw [hvn]; rfl)
        subst hlf
        refine ⟨_, _, _, (D9, _) :: (P, _) :: rest, rfl, F8, N8, ho, .head _, _, _, _, rfl, ?_, by omega, rfl⟩
        rw [flat_snocE layEnt hpe]
        show BsAre _ (_ ++ (_ ++ []))
        rw [List.append_nil]
        exact hB
      · ((rename Fr g L _ _ => F7); (rename News g L _ _ => N8); (have F8 := Fr_norm (al := [(_, _), (_, _), (_, _), (_, _), (_, _)]) F7); clear F7)
        rename (val == Value.none) = false => hvn
        have hlf := lf_some hin (by rw [hvn]; rfl)
        rename BsAre _ (_ ++ layLf lf) => hb9
        rename Array.size _ ≤ _ => hs9
        refine ⟨_, _, _, (D9, _) :: (P, _) :: rest, rfl, F8, news_sw N8, ho, .head _, _, _, _, rfl, ?_, by simp at hs9; omega, rfl⟩
        rw [flat_snocE layEnt hpe, layEnt_some hlf]
        simpa using hb9
    · rintro al₁ news₁ h tk ⟨ps', np', o1, rfl, hB, hSz, rfl⟩ F1 N1
      try dsimp only
      rw [hSl, List.take_length] at hB
      k_extra "x steps"
      ((rename Fr g L _ _ => F8); (rename News g L _ _ => N8))
      refine ⟨_, [(_, _)], [], _, _, rfl, F8, news_tail N8, rfl, (fun _ _ _ h => nomatch h), rfl, rfl, _, _, rfl, ?_, by simp; omega⟩
      rw [show l ++ layDict es = (l ++ [[60, 60]] ++ es.flatMap layEnt) ++ [[62, 62]] by simp [layDict]]
      exact BsAre.push (ns := [62, 62]) hB

theorem ln_E3 : True := by
  k_with_none
  (k_with "ite" => first | with_reducible refine ite_tt ?_ | with_reducible refine ite_ff ?_)
  (k_with "execs nil" => (with_reducible refine wpAny_execs_nil ?_; (try dsimp only)))
  (k_with "execs cons" => (k_here; k_dflt (refine seqK ?_; (try dsimp only))))
  (k_with "x lia" => ((try clear cc); (try clear c2); (try clear lf); lia))
  (k_with "x n7" => ((rename News _ _ _ _ => N7); exact N7))
  (k_with "x room" => (first | exact room1 (by assumption) (by rfl) | exact room2 (by assumption) (by rfl) | omega))
  (k_with "x unit" => (first | exact unit1 (by assumption) (by rfl) | exact unit2 (by assumption) (by rfl) | omega))
  (k_with "x got" => ((first | ((with_reducible intro r9 h9 tk9 F9 N9 P9); (first | (obtain ⟨t9, e9⟩ := P9; subst e9) | (subst P9) | skip)) | (with_reducible intro t9 h9 tk9 F9 N9) | (with_reducible intro h9 tk9 F9 N9)); (try k_sweep)))
  (k_with "x one" => (first | (k_unfold; (try dsimp only)) | walk1 | (dsimp only; walk1)))
  (k_with "x g" => ((fail_if_success plain_pass); k_here))
  (k_with "x k" => (k_asm; k_extra "x n7"; k_extra "x ix"))
  (k_with "x c" => (k_extra "x k"; k_extra "x ev"; k_extra "x ev"))
  (k_with "x if" => (k_dflt (k_here; (with_reducible show wpAny _ _ (execs (Stmt.If (PySem.Expr.Compare (PySem.Expr.Name _ _) [CmpOp.Eq] [PySem.Expr.Constant (Const.str _) _ _] _) _ _ _ :: _) _) _ _ _); first | (apply xif_f; k_extra "x c"; exact rfl) | (apply xif_t; k_extra "x c"; exact rfl))))
  (k_with "x stmt" => ((first | k_extra "x if" | refine seqK ?_ | refine wpAny_execs_cons ?_); (repeat' ((fail_if_success (with_reducible refine mark_execs ?_)); k_extra "x one"))))
  (k_with "x steps" => (repeat' k_extra "x one"))
  (k_with "x ix" => (first | exact isX1 rfl | exact isX2 rfl | exact isX3 rfl))
  (k_with "x ev" => (first | exact Ev.str | exact Ev.int | exact Ev.none | exact Ev.bool | (apply Ev.name; exact rfl; exact rfl; exact rfl) | (apply Ev.cell; exact rfl; exact rfl; exact rfl; (first | k_mem | (repeat (first | exact List.mem_cons_self .. | refine List.mem_cons_of_mem _ ?_))); k_asm)))
  (k_with "x evs" => (focus ((repeat' (first | exact Evs.nil | apply Evs.int | (apply Evs.name; exact rfl; exact rfl; exact rfl) | (apply Evs.cell; exact rfl; exact rfl; exact rfl; (first | k_mem | (repeat (first | exact List.mem_cons_self .. | refine List.mem_cons_of_mem _ ?_))); k_asm) | exact Ev.str | exact Ev.none | exact Ev.bool | apply Evs.cons)); done)))
  (k_with "execs cons If" => ((fail_if_success plain_pass); k_extra "x if"))
  (k_with "isTrue Compare" => (k_extra "x g"; (with_reducible show wpAny _ _ (PySem.isTrue (PySem.Expr.Compare _ [_] [_] _) _ _) _ _ _); k_dflt (first | ((with_reducible show wpAny _ _ (PySem.isTrue (PySem.Expr.Compare _ [CmpOp.Eq] [_] _) _ _) _ _ _); apply ist_strL; k_extra "x c") | (apply ist_int; k_extra "x c"; exact rfl))))
  (k_with "eval Call Name" => (k_extra "x g"; k_dflt (first | (apply call_ev; exact rfl; exact rfl; exact rfl; k_extra "x k"; k_extra "x evs"; k_asm; k_asm; k_is; k_is) | (apply bcall_ev; exact rfl; exact rfl; exact rfl; exact rfl; k_extra "x k"; k_extra "x evs"; k_asm; k_asm; k_is; boot_fast; decide))))
  (k_with "callWith" => (k_extra "x g"; k_dflt (apply meth_ev; exact rfl; k_extra "x k"; k_extra "x evs")))
  (k_with "spliced" => (k_extra "x g"; k_dflt (apply args_ev; exact rfl; k_extra "x k"; k_extra "x evs")))
  (k_with "eval Attribute Name" => (k_extra "x g"; k_dflt (apply attr_ev; k_extra "x k"; k_extra "x ev")))
  (k_with "x ho" => ((try simp only [List.nil_append, List.cons_append]); (repeat' (first | (refine off1_of ?_; assumption) | (refine off1_lt ?_; assumption) | (refine off1_all ?_; assumption) | refine And.intro ?_ ?_ | exact trivial | ((show @Ne Nat _ _); omega) | refine off1_app ?_ ?_))))
  (k_with "x hz" => ((try simp only [Array.size_push, List.size_toArray, List.length_cons, List.length_nil, List.length_append]); omega))
  (k_with "x hm" => (repeat (first | exact List.mem_cons_self .. | exact List.mem_append_left _ (by assumption) | refine List.mem_cons_of_mem _ ?_)))
  (k_with "call builtin:list.append" => (k_here; k_dflt ((rename News _ _ _ _ => N7); (first | (refine' append_at [] _ ?zcF N7 ?zho ?zhz ?_) | (refine' append_at [_] _ ?zcF N7 ?zho ?zhz ?_) | (refine' append_at [_, _] _ ?zcF N7 ?zho ?zhz ?_) | (refine' append_at [_, _, _] _ ?zcF N7 ?zho ?zhz ?_)); (case zcF => k_asm); (case zho => k_extra "x ho"); (case zhz => k_extra "x hz"); ((intro h9 F9 N9); (try simp only [List.nil_append, List.cons_append] at N9); (try k_sweep)))))
  (k_with "call builtin:list.extend" => (k_here; k_dflt ((rename News _ _ _ _ => N7); (first | (refine' extend_at [] _ ?zcF N7 ?zhb ?zho ?zhne ?zhz ?_) | (refine' extend_at [_] _ ?zcF N7 ?zhb ?zho ?zhne ?zhz ?_) | (refine' extend_at [_, _] _ ?zcF N7 ?zhb ?zho ?zhne ?zhz ?_) | (refine' extend_at [_, _, _] _ ?zcF N7 ?zhb ?zho ?zhne ?zhz ?_)); (case zcF => k_asm); (case zhb => k_extra "x hm"); (case zho => k_extra "x ho"); (case zhne => k_extra "x hz"); (case zhz => k_extra "x hz"); ((intro h9 F9 N9); (try simp only [List.nil_append, List.cons_append] at N9); (try k_sweep)))))
  (k_with "setItem ref int" => (k_here; k_dflt ((rename News _ _ _ _ => N7); (first | (refine' dset_at (K := Int) (knd := intKind prg _) [] _ ?zcF N7 ?zhd ?zhk ?zho ?zhz ?_; (case zhd => assumption)) | (refine' dset_at (K := Int) (knd := intKind prg _) [_] _ ?zcF N7 ?zhd ?zhk ?zho ?zhz ?_; (case zhd => assumption)) | (refine' dset_at (K := Int) (knd := intKind prg _) [_, _] _ ?zcF N7 ?zhd ?zhk ?zho ?zhz ?_; (case zhd => assumption))); (case zcF => k_asm); (case zhk => exact is_int); (case zho => k_extra "x ho"); (case zhz => omega); ((intro h9 o9 F9 N9 hd9); (try simp only [List.nil_append, List.cons_append] at N9); (try k_sweep)))))
  (k_with "call builtin:list.pop" => (k_here; k_dflt ((rename News _ _ _ _ => N7); (first | (refine' pop_at [] _ ?zcF N7 ?zhi ?zho ?zhne ?zhz ?_; (case zhi => assumption)) | (refine' pop_at [_] _ ?zcF N7 ?zhi ?zho ?zhne ?zhz ?_; (case zhi => assumption))); (case zcF => k_asm); (case zho => k_extra "x ho"); (case zhne => omega); (case zhz => omega); ((intro h9 t9 us9 n9 F9 N9 hI9 hs9); (try simp only [List.nil_append, List.cons_append] at N9); (try k_sweep)))))
  (k_with "truthy ref" => (k_here; k_dflt ((rename News _ _ _ _ => N7); refine' truthy_at N7 ?zhm ?zhz ?_ ?_; (case zhm => k_extra "x hm"); (case zhz => omega)); intro htr))
  trivial
theorem Does.imp {w : World} {f : Addr} {vs : List Value} {lv lv' : Nat} {mu rest : Led} {P P' : Value → Led → Led → Prop} (C : Does w f vs lv mu rest P) (hl : lv ≤ lv') (hP : ∀ r mu' tl, P r mu' tl → P' r mu' tl) : Does w f vs lv' mu rest P' := by
  intro mean mg mb dp un env outer A₀ base h₀ L m a b c d e Q E B F X N hap T hf hke hdp hun hret
  exact C mean mg mb dp un env outer A₀ base h₀ L m a b c d e Q E B F X N hap T hf hke (by omega) (by omega) fun r mu' tl h' tk' F' N' hm ho hp => hret r mu' tl h' tk' F' N' hm ho (hP _ _ _ hp)
noncomputable def layDt : Dt → List (List Int)
  | .leaf l => layLf l
  | .arr ls => layArr ls
  | .dict ps => layDict ps
theorem ln_E3_1 : True := by
  (k_with "call ref" => (k_here; k_dflt ((first | refine' Does.use0E (kind_dt' ?zp0) ?zcB ?zcF ?zcX ?zcN ?zcT ?zchd ?zchu ?_ | refine' Does.use0V (kind_dt' ?zp0) ?zcB ?zcF ?zcX ?zcN ?zcT ?zchd ?zchu ?_ | refine' Does.use0 (kind_dt' ?zp0) ?zcB ?zcF ?zcX ?zcN ?zcT ?zchd ?zchu ?_); (case zcB => assumption); (case zcF => k_asm); (case zcX => assumption); (case zcN => k_asm); (case zcT => assumption); (case zchd => k_extra "x room"); (case zchu => k_extra "x unit"); (case zp0 => assumption); (k_extra "x got"); (try simp only [Lf.kind, Dt.kind]))))
  trivial
theorem ln_E3_2 : True := by
  (k_with "call ref" => (k_here; k_dflt ((first | (refine' Does.useAt [] _ (lay_dict_d ?zR ?zhok ?zhp ?zhl) ?zcB ?zcF ?zcX ?zcN ?zcT ?zcA ?zchd ?zchu ?_; (case zcN => k_extra "x n7"))); (case zcB => assumption); (case zcF => k_asm); (case zcX => assumption); (case zcT => assumption); (case zchd => k_extra "x room"); (case zchu => k_extra "x unit"); (case zR => assumption); (case zhok => assumption); (case zhp => omega); (case zhl => assumption); (case zcA => (first | (intro q9 hq9; exact absurd hq9 List.not_mem_nil) | (refine apart1 ?_; (try simp only [List.nil_append, List.cons_append]); (repeat' (first | (refine off1_of ?_; assumption) | refine And.intro ?_ ?_ | exact trivial | ((show @Ne Nat _ _); omega) | refine off1_app ?_ ?_))))); ((intro r9 mu9 tl9 h9 tk9 F9 N9 e9 o9 P9); (obtain ⟨z0, z1, ps9, np9, z2, hb9, hs9⟩ := P9); (subst z0); (subst z1); (subst z2); (simp only [List.nil_append, List.cons_append] at N9 o9); (try k_sweep); skip))))
  trivial
theorem lay_dt_d {w : World} {v : Value} {d : Dt} {P : Addr} {np : Nat} {ps : Array Value} {l : List (List Int)} {rest : Led} (R : DtIn w rest v d) (hok : d.ok) (hp : ps.size ≤ 500) (hl : BsAre ps.toList l) : Does w 473 [.ref P, v, .bool true] 14 [(P, W.listOf ps np)] rest (fun r mu' tl => An3 (r = .none) (tl = []) (Ex2 fun ps' np' => An3 (mu' = [(P, W.listOf ps' np')]) (BsAre ps'.toList (l ++ layDt d)) (ps'.size ≤ ps.size + 16))) := by
  have R' := R
  cases R with
  | leaf h => 
    refine (lay_leaf_d h hok.1 (by omega) hl).imp (by decide) ?_
    rintro r mu' tl ⟨rfl, rfl, ps', np', rfl, hb, hs⟩
    exact ⟨rfl, rfl, _, _, rfl, hb, by omega⟩
  | arr h1 h2 =>
    refine (lay_arr_d R' hok.2 hok.1 hp hl).imp (by decide) ?_
    rintro r mu' tl ⟨rfl, rfl, ps', np', rfl, hb, hs⟩
    exact ⟨rfl, rfl, _, _, rfl, hb, by omega⟩
  | dict h1 h2 h3 h4 =>
    rename_i x od kvs es
    refine' Does.of (binds := [(Str.ofString "parts", .ref P), (Str.ofString "value", .ref x), (Str.ofString "is_least", .bool true)]) (al := [(Str.ofString "is_least", some (.bool true)), (Str.ofString "value", some (.ref x)), (Str.ofString "parts", some (.ref P))]) ?k6 ?kb ?ks ?k7 ?k9 ?kB ?c5 ?c2 ?c3 ?c4 ?lv ?kal ?_
    (case k6 => k_dflt k_is); (case kb => conv => lhs; whnf); (case ks => conv => lhs; whnf); (case k7 => k_dflt k_is); (case k9 => exact rfl); (case kB => exact locs rfl); (case c5 => decide); (case c2 => exact rfl); (case c3 => exact rfl); (case c4 => exact rfl); (case lv => decide); (case kal => exact rfl)
    intro mean mg mb dp un outer base g L s E F N hap B X T hlt hdp hun
    (try simp only [List.nil_append, List.cons_append] at N hlt)
    k_fold
    have hP : ∀ p ∈ rest, p.1 ≠ P := hap _ (List.mem_singleton_self _)
    replace N : News g L s.heap ((P, W.listOf ps np) :: rest) := N
    k_extra "x steps"
    ((rename Fr g L _ _ => F8); (rename News g L _ _ => N8))
    rename BsAre _ (_ ++ layDict _) => hb9
    rename Array.size _ ≤ _ => hs9
    exact ⟨_, [(_, _)], [], _, _, rfl, F8, N8, rfl, (fun _ _ _ h => nomatch h), rfl, rfl, _, _, rfl, hb9, by omega⟩

noncomputable def Dt.parts : Dt → List Lf
  | .leaf _ => []
  | .arr ls => ls
  | .dict es => es.map (·.2)
theorem kind_dt1 {w : World} {v : Value} {d : Dt} {a : Addr × Obj} {rest : Led} (R : DtIn w rest v d) : Does w 265 [v] 1 [] (a :: rest) (fun r _ tl => tl = [] ∧ ∃ tk, r = .str d.kind tk) := kind_dt (R.mono fun _ h => .tail _ h)
theorem ln_E4_1 : True := by
  (k_with "call ref" => (k_here; k_dflt ((first | refine' Does.use0E (kind_dt1 ?zp0) ?zcB ?zcF ?zcX ?zcN ?zcT ?zchd ?zchu ?_ | refine' Does.use0V (kind_dt1 ?zp0) ?zcB ?zcF ?zcX ?zcN ?zcT ?zchd ?zchu ?_ | refine' Does.use0 (kind_dt1 ?zp0) ?zcB ?zcF ?zcX ?zcN ?zcT ?zchd ?zchu ?_); (case zcB => assumption); (case zcF => k_asm); (case zcX => assumption); (case zcN => k_asm); (case zcT => assumption); (case zchd => k_extra "x room"); (case zchu => k_extra "x unit"); (case zp0 => assumption); (k_extra "x got"); (try simp only [Lf.kind, Dt.kind]))))
  trivial
theorem ln_E4_2 : True := by
  (k_with "call builtin:sorted" => (k_here; k_dflt (refine' sorted_dict_str ?zcF ?zcN ?zhm ?zlo ?zhd ?zhp ?zhs ?zh64 ?_; (case zcF => k_asm); (case zcN => ((rename News _ _ _ _ => N7); exact N7)); (case zhm => (repeat (first | assumption | refine List.mem_cons_of_mem _ ?_))); (case zlo => assumption); (case zhd => assumption); (case zhp => assumption); (case zhs => assumption); (case zh64 => omega); (intro D9 h9 tk9 vs9 e9 F9 N9 l9 S9); (try k_sweep))))
  trivial
theorem ln_E4_3 : True := by
  (k_with "subscriptTail Name Name ref str" => (k_here; k_dflt (refine' kda_item (knd := PySem.strKind prg _) ?zcN ?zhm ?zhd ?zhk ?zhl ?_; (case zcN => ((rename News _ _ _ _ => N7); exact N7)); (case zhd => assumption); (case zhm => (repeat (first | assumption | exact List.mem_append_left _ (by assumption) | refine List.mem_cons_of_mem _ ?_))); (case zhk => exact is_strL); (case zhl => assumption))))
  trivial
theorem ln_E4_4 : True := by
  (k_with "call type:list" => (k_here; k_dflt (refine' kup_listOf ?zF ?zN ?zb ?ze ?_ ?zz; (case zF => k_asm); (case zN => ((rename News _ _ _ _ => N7); exact N7)); (case zb => (repeat (first | assumption | refine List.mem_cons_of_mem _ ?_))); (case ze => exact rfl); (case zz => (rw [sizeLine_eq, Array.length_toList]; omega)); (intro D9 c9 h9 F9 N9 l9); (try k_sweep))))
  trivial
theorem news_cell {g h : Heap} {L : Addr} {a b : Addr × Obj} {r : Led} (N : News g L h (a :: b :: r)) : News g L h ([] ++ ([a] ++ r)) := (nA nN (nA (nC (nH N) nN) (nT (nT N))))
theorem news_cell2 {g h : Heap} {L : Addr} {a b c : Addr × Obj} {r : Led} (N : News g L h (a :: b :: c :: r)) : News g L h ([] ++ ([a] ++ r)) := (nA nN (nA (nC (nH N) nN) (nT (nT (nT N)))))
theorem ord_cell {rest : Led} {a x : Addr} {o : Obj} (l : a < x ∧ AllLt x rest) : ∀ q ∈ [] ++ rest, ∀ p ∈ [(x, o)], q.1 ≠ p.1 := fun q hq p hp => by
  rw [List.mem_singleton.mp hp]; exact allLt_ne l.2 q hq
theorem ord_cell' {rest : Led} {a : Addr × Obj} {x : Addr} {o : Obj} (l : ∀ q ∈ a :: rest, q.1 < x) : ∀ q ∈ [] ++ rest, ∀ p ∈ [(x, o)], q.1 ≠ p.1 := fun q hq p hp => by
  rw [List.mem_singleton.mp hp]; exact Nat.ne_of_lt (l q (.tail _ hq))
theorem ord_off {rest : Led} {a b : Addr × Obj} {x : Addr} {o : Obj} (l : PyProof.Rows.LCg.Off1 x (a :: b :: rest)) : ∀ q ∈ [] ++ rest, ∀ p ∈ [(x, o)], q.1 ≠ p.1 := fun q hq p hp => by
  rw [List.mem_singleton.mp hp]; exact off1_mem l q (.tail _ (.tail _ hq))
theorem lf_kind_m {w : World} {v : Value} {l : Lf} {a : Addr × Obj} {rest : Led} (R : DtIn w rest v (.leaf l)) : Does w 265 [v] 1 [] (a :: rest) (fun r _ tl => tl = [] ∧ ∃ tk, r = .str l.kind tk) := kind_dt1 R
theorem ln_E4_5 : True := by
  (k_with "call ref" => (k_here; k_dflt ((first | refine' Does.use0E (lf_kind_m ?zp0) ?zcB ?zcF ?zcX ?zcN ?zcT ?zchd ?zchu ?_ | refine' Does.use0V (lf_kind_m ?zp0) ?zcB ?zcF ?zcX ?zcN ?zcT ?zchd ?zchu ?_ | refine' Does.use0 (lf_kind_m ?zp0) ?zcB ?zcF ?zcX ?zcN ?zcT ?zchd ?zchu ?_); (case zcB => assumption); (case zcF => k_asm); (case zcX => assumption); (case zcN => k_asm); (case zcT => assumption); (case zchd => k_extra "x room"); (case zchu => k_extra "x unit"); (case zp0 => assumption); (k_extra "x got"))))
  trivial
theorem ln_E4_6 : True := by
  (k_with "compareOp Eq str str" => (k_here; (with_reducible refine lfk_ne ?zhy ?_); (case zhy => decide)))
  trivial
theorem parts_of_d {w : World} {v : Value} {d : Dt} {sub rest : Led} (R : DtIn w sub v d) (hsub : ∀ p ∈ sub, p ∈ rest) (hok : d.ok) : Does w 282 [v] 3 [] rest (fun r _ tl => Ex3 fun D vs n => An4 (r = .ref D) (tl = [(D, W.listOf (vs : List Value).toArray n)]) (All2 (LfIn sub) vs d.parts) (vs.length ≤ 3)) := by
  have R' := R.mono hsub
  cases R with
  | leaf h =>
    rename_i l
    refine' Does.ofC (binds := [(Str.ofString "value", v)]) (al := []) (cm := lkm [(Str.ofString "value", some (v))]) ?k6 ?kb ?ks ?k7 ?k9 ?kB ?knd ?c3 ?c4 ?c5 ?lv ?kal ?kcm ?kcf ?_
    (case k6 => k_dflt k_is); (case kb => conv => lhs; whnf); (case ks => conv => lhs; whnf); (case k7 => k_dflt k_is); (case k9 => exact rfl); (case kB => exact rfl); (case knd => decide); (case c3 => exact rfl); (case c4 => exact rfl); (case c5 => exact rfl); (case lv => decide); (case kal => exact fun _ => rfl); (case kcm => exact fun _ => rfl); (case kcf => exact fun _ => rfl)
    intro mean mg mb dp un outer base g L s cells E F N C hap B X T hlt hdp hun
    obtain ⟨o1, hcells, d1⟩ := CellsAre.one C; subst hcells; clear C
    (try simp only [List.nil_append, List.cons_append] at N hlt)
    k_fold
    ((first | replace d1 : _ = Data.cell (some _) := d1 | replace d1 : _ = Data.cell none := d1))
    k_extra "x steps"
    ((rename Fr g L _ _ => F8); (rename News g L _ _ => N8))
    refine ⟨_, [], [(_, _)], _, _, rfl, F8, news_cell N8, rfl, ?_, _, [], _, rfl, rfl, .nil, by decide⟩
    exact ord_cell (by assumption)
  | arr h1 h2 =>
    rename_i x vs n ls
    replace h1 := hsub _ h1
    have hn := h2.length
    have hn3 : ls.length ≤ 3 := hok.1
    have hvz : vs.toArray.size ≤ 3 := by rw [List.size_toArray]; omega
    refine' Does.ofC (binds := [(Str.ofString "value", .ref x)]) (al := []) (cm := lkm [(Str.ofString "value", some (.ref x))]) ?k6 ?kb ?ks ?k7 ?k9 ?kB ?knd ?c3 ?c4 ?c5 ?lv ?kal ?kcm ?kcf ?_
    (case k6 => k_dflt k_is); (case kb => conv => lhs; whnf); (case ks => conv => lhs; whnf); (case k7 => k_dflt k_is); (case k9 => exact rfl); (case kB => exact rfl); (case knd => decide); (case c3 => exact rfl); (case c4 => exact rfl); (case c5 => exact rfl); (case lv => decide); (case kal => exact fun _ => rfl); (case kcm => exact fun _ => rfl); (case kcf => exact fun _ => rfl)
    intro mean mg mb dp un outer base g L s cells E F N C hap B X T hlt hdp hun
    obtain ⟨o1, hcells, d1⟩ := CellsAre.one C; subst hcells; clear C
    (try simp only [List.nil_append, List.cons_append] at N hlt)
    k_fold
    ((first | replace d1 : _ = Data.cell (some _) := d1 | replace d1 : _ = Data.cell none := d1))
    k_extra "x steps"
    ((rename Fr g L _ _ => F8); (rename News g L _ _ => N8))
    rename ∀ q ∈ _ :: rest, _ => l9
    exact ⟨_, [], [(_, _)], _, _, rfl, F8, news_cell N8, rfl, ord_cell' l9, _, vs, _, rfl, rfl, h2, by omega⟩
  | dict h1 lo hd h2 =>
    rename_i x od kvs es
    replace h1 := hsub _ h1
    obtain ⟨⟨kk, hk3, hks⟩, hoks⟩ := hok
    have hmap := ent_keys h2
    have hperm : (kvs.map (·.1)).Perm (es.map (·.1)) := by rw [hmap]
    have hsort := keys_sorted hk3 hks
    have hlen : kvs.length = es.length := h2.length
    have hlen3 : es.length ≤ 3 := by
      have := congrArg List.length hks
      simp only [List.length_map, List.length_take, List.length_cons, List.length_nil] at this
      omega
    obtain ⟨_, _, _, _, _, _, hnd⟩ := id hd
    refine' Does.ofC (binds := [(Str.ofString "value", .ref x)]) (al := []) (cm := lkm [(Str.ofString "value", some (.ref x))]) ?k6 ?kb ?ks ?k7 ?k9 ?kB ?knd ?c3 ?c4 ?c5 ?lv ?kal ?kcm ?kcf ?_
    (case k6 => k_dflt k_is); (case kb => conv => lhs; whnf); (case ks => conv => lhs; whnf); (case k7 => k_dflt k_is); (case k9 => exact rfl); (case kB => exact rfl); (case knd => decide); (case c3 => exact rfl); (case c4 => exact rfl); (case c5 => exact rfl); (case lv => decide); (case kal => exact fun _ => rfl); (case kcm => exact fun _ => rfl); (case kcf => exact fun _ => rfl)
    intro mean mg mb dp un outer base g L s cells E F N C hap B X T hlt hdp hun
    obtain ⟨o1, hcells, d1⟩ := CellsAre.one C; subst hcells; clear C
    (try simp only [List.nil_append, List.cons_append] at N hlt)
    k_fold
    ((first | replace d1 : _ = Data.cell (some _) := d1 | replace d1 : _ = Data.cell none := d1))
    (repeat' ((fail_if_success (with_reducible refine mark_lc ?_)); k_extra "x one"))
    ((rename Fr g L _ _ => F8); (rename News g L _ _ => N8))
    refine LCg.ListComp_U (cl := _) F8 rfl (by decide) rfl (by decide) rfl ?_
    (repeat' ((fail_if_success (with_reducible refine mark_cs ?_)); k_extra "x one"))
    rename StrsAre _ (es.map (·.1)) => hS
    have hSl := hS.length
    rw [List.length_map] at hSl
    have FR := F9
    have NR := N9
    refine LCg.CompSrc.ledger (its := vs9.toArray) (k := e9) rfl FR NR (.head _) (by rw [sizeLine_eq, List.size_toArray]; omega) fun g9 => ?_
    refine comp_rule (fun i ys nw => nw = (D9, W.listOf vs9.toArray e9) :: (L + 1, o1) :: rest ∧ All2 (LfIn sub) ys ((es.map (·.2)).take i)) ⟨rfl, .nil⟩ (fun ys nw hj => ?_) (fun i v I oI C oC D m₂ h tk E' ys nw hi9 hP hj hC9 hv F1 N1 off ne => ?_)
    rotate_left
    · obtain ⟨rfl, hys⟩ := hj
      have hv9 : vs9[i]? = some v := by simpa using hP
      obtain ⟨key, tkey, rfl, hkey⟩ := hS.item i v hv9
      obtain ⟨val, lf, hkv, hpe, hin⟩ := ent_at h2 hkey
      have hva := valueAt_of_get hnd hkv
      k_extra "x steps"
      ((rename Fr g L _ _ => F8); (rename News g L _ _ => N8))
      refine ⟨_, _, (D9, _) :: (L + 1, _) :: rest, rfl, F8, N8, off, .inr ⟨W.listOf vs9.toArray e9, .head _, rfl, _, rfl⟩, rfl, ?_⟩
      rw [take_snoc (by rw [List.getElem?_map, hpe]; rfl)]
      exact hys.snoc hin
    obtain ⟨rfl, hys⟩ := hj
    intro D h3 tk F3 N3 o3
    have hyl := hys.length
    rw [List.length_take, List.length_map] at hyl
    refine ⟨_, [], [(_, _)], _, _, rfl, F3, news_cell2 N3, rfl, ord_off o3, _, ys, _, rfl, rfl, ?_, by omega⟩
    rw [List.size_toArray, hSl] at hys
    rwa [List.take_of_length_le (by rw [List.length_map]; omega)] at hys

theorem ln_E5 : True := by
  k_with_none
  (k_with "ite" => first | with_reducible refine ite_tt ?_ | with_reducible refine ite_ff ?_)
  (k_with "execs nil" => (with_reducible refine wpAny_execs_nil ?_; (try dsimp only)))
  (k_with "execs cons" => (k_here; k_dflt (refine seqK ?_; (try dsimp only))))
  (k_with "x lia" => ((try clear cc); (try clear c2); (try clear lf); lia))
  (k_with "x n7" => ((rename News _ _ _ _ => N7); exact N7))
  (k_with "x room" => (first | exact room1 (by assumption) (by rfl) | exact room2 (by assumption) (by rfl) | omega))
  (k_with "x unit" => (first | exact unit1 (by assumption) (by rfl) | exact unit2 (by assumption) (by rfl) | omega))
  (k_with "x got" => ((first | ((with_reducible intro r9 h9 tk9 F9 N9 P9); (first | (obtain ⟨t9, e9⟩ := P9; subst e9) | (subst P9) | skip)) | (with_reducible intro t9 h9 tk9 F9 N9) | (with_reducible intro h9 tk9 F9 N9)); (try k_sweep)))
  (k_with "x one" => (first | (k_unfold; (try dsimp only)) | walk1 | (dsimp only; walk1)))
  (k_with "x g" => ((fail_if_success plain_pass); k_here))
  (k_with "x k" => (k_asm; k_extra "x n7"; k_extra "x ix"))
  (k_with "x c" => (k_extra "x k"; k_extra "x ev"; k_extra "x ev"))
  (k_with "x if" => (k_dflt (k_here; (with_reducible show wpAny _ _ (execs (Stmt.If (PySem.Expr.Compare (PySem.Expr.Name _ _) [CmpOp.Eq] [PySem.Expr.Constant (Const.str _) _ _] _) _ _ _ :: _) _) _ _ _); first | (apply xif_f; k_extra "x c"; exact rfl) | (apply xif_t; k_extra "x c"; exact rfl))))
  (k_with "x stmt" => ((first | k_extra "x if" | refine seqK ?_ | refine wpAny_execs_cons ?_); (repeat' ((fail_if_success (with_reducible refine mark_execs ?_)); k_extra "x one"))))
  (k_with "x steps" => (repeat' k_extra "x one"))
  (k_with "x ix" => (first | exact isX1 rfl | exact isX2 rfl | exact isX3 rfl))
  (k_with "x ev" => (first | exact Ev.str | exact Ev.int | exact Ev.none | exact Ev.bool | (apply Ev.name; exact rfl; exact rfl; exact rfl) | (apply Ev.cell; exact rfl; exact rfl; exact rfl; (first | k_mem | (repeat (first | exact List.mem_cons_self .. | refine List.mem_cons_of_mem _ ?_))); k_asm)))
  (k_with "x evs" => (focus ((repeat' (first | exact Evs.nil | apply Evs.int | (apply Evs.name; exact rfl; exact rfl; exact rfl) | (apply Evs.cell; exact rfl; exact rfl; exact rfl; (first | k_mem | (repeat (first | exact List.mem_cons_self .. | refine List.mem_cons_of_mem _ ?_))); k_asm) | exact Ev.str | exact Ev.none | exact Ev.bool | apply Evs.cons)); done)))
  (k_with "execs cons If" => ((fail_if_success plain_pass); k_extra "x if"))
  (k_with "isTrue Compare" => (k_extra "x g"; (with_reducible show wpAny _ _ (PySem.isTrue (PySem.Expr.Compare _ [_] [_] _) _ _) _ _ _); k_dflt (first | ((with_reducible show wpAny _ _ (PySem.isTrue (PySem.Expr.Compare _ [CmpOp.Eq] [_] _) _ _) _ _ _); apply ist_strL; k_extra "x c") | (apply ist_int; k_extra "x c"; exact rfl))))
  (k_with "eval Call Name" => (k_extra "x g"; k_dflt (first | (apply call_ev; exact rfl; exact rfl; exact rfl; k_extra "x k"; k_extra "x evs"; k_asm; k_asm; k_is; k_is) | (apply bcall_ev; exact rfl; exact rfl; exact rfl; exact rfl; k_extra "x k"; k_extra "x evs"; k_asm; k_asm; k_is; boot_fast; decide))))
  (k_with "callWith" => (k_extra "x g"; k_dflt (apply meth_ev; exact rfl; k_extra "x k"; k_extra "x evs")))
  (k_with "spliced" => (k_extra "x g"; k_dflt (apply args_ev; exact rfl; k_extra "x k"; k_extra "x evs")))
  (k_with "eval Attribute Name" => (k_extra "x g"; k_dflt (apply attr_ev; k_extra "x k"; k_extra "x ev")))
  (k_with "x ho" => ((try simp only [List.nil_append, List.cons_append]); (repeat' (first | (refine off1_of ?_; assumption) | (refine off1_lt ?_; assumption) | (refine off1_all ?_; assumption) | refine And.intro ?_ ?_ | exact trivial | ((show @Ne Nat _ _); omega) | refine off1_app ?_ ?_))))
  (k_with "x hz" => ((try simp only [Array.size_push, List.size_toArray, List.length_cons, List.length_nil, List.length_append]); omega))
  (k_with "x hm" => (repeat (first | exact List.mem_cons_self .. | exact List.mem_append_left _ (by assumption) | refine List.mem_cons_of_mem _ ?_)))
  (k_with "call builtin:list.append" => (k_here; k_dflt ((rename News _ _ _ _ => N7); (first | (refine' append_at [] _ ?zcF N7 ?zho ?zhz ?_) | (refine' append_at [_] _ ?zcF N7 ?zho ?zhz ?_) | (refine' append_at [_, _] _ ?zcF N7 ?zho ?zhz ?_) | (refine' append_at [_, _, _] _ ?zcF N7 ?zho ?zhz ?_)); (case zcF => k_asm); (case zho => k_extra "x ho"); (case zhz => k_extra "x hz"); ((intro h9 F9 N9); (try simp only [List.nil_append, List.cons_append] at N9); (try k_sweep)))))
  (k_with "call builtin:list.extend" => (k_here; k_dflt ((rename News _ _ _ _ => N7); (first | (refine' extend_at [] _ ?zcF N7 ?zhb ?zho ?zhne ?zhz ?_) | (refine' extend_at [_] _ ?zcF N7 ?zhb ?zho ?zhne ?zhz ?_) | (refine' extend_at [_, _] _ ?zcF N7 ?zhb ?zho ?zhne ?zhz ?_) | (refine' extend_at [_, _, _] _ ?zcF N7 ?zhb ?zho ?zhne ?zhz ?_)); (case zcF => k_asm); (case zhb => k_extra "x hm"); (case zho => k_extra "x ho"); (case zhne => k_extra "x hz"); (case zhz => k_extra "x hz"); ((intro h9 F9 N9); (try simp only [List.nil_append, List.cons_append] at N9); (try k_sweep)))))
  (k_with "assign Tuple" => (k_here; k_dflt (refine' unpackN_ ?zF ?zN ?zT ?zk1 ?zk2 ?zk3 ?_; (case zF => k_asm); (case zN => k_extra "x n7"); (case zT => (refine' News.isTup ?ztn ?ztm; (case ztn => k_extra "x n7"); (case ztm => (repeat (first | assumption | exact List.mem_cons_self .. | exact List.mem_append_left _ (by assumption) | refine List.mem_cons_of_mem _ ?_))))); (case zk1 => exact rfl); (case zk2 => with_unfolding_all exact rfl); (case zk3 => with_unfolding_all exact rfl)); intro h' F' N'; (try k_sweep)))
  (k_with "setItem ref int" => (k_here; k_dflt ((rename News _ _ _ _ => N7); (first | (refine' dset_at (K := Int) (knd := intKind prg _) [] _ ?zcF N7 ?zhd ?zhk ?zho ?zhz ?_; (case zhd => assumption)) | (refine' dset_at (K := Int) (knd := intKind prg _) [_] _ ?zcF N7 ?zhd ?zhk ?zho ?zhz ?_; (case zhd => assumption)) | (refine' dset_at (K := Int) (knd := intKind prg _) [_, _] _ ?zcF N7 ?zhd ?zhk ?zho ?zhz ?_; (case zhd => assumption))); (case zcF => k_asm); (case zhk => exact is_int); (case zho => k_extra "x ho"); (case zhz => omega); ((intro h9 o9 F9 N9 hd9); (try simp only [List.nil_append, List.cons_append] at N9); (try k_sweep)))))
  (k_with "call builtin:list.pop" => (k_here; k_dflt ((rename News _ _ _ _ => N7); (first | (refine' pop_at [] _ ?zcF N7 ?zhi ?zho ?zhne ?zhz ?_; (case zhi => assumption)) | (refine' pop_at [_] _ ?zcF N7 ?zhi ?zho ?zhne ?zhz ?_; (case zhi => assumption))); (case zcF => k_asm); (case zho => k_extra "x ho"); (case zhne => omega); (case zhz => omega); ((intro h9 t9 us9 n9 F9 N9 hI9 hs9); (try simp only [List.nil_append, List.cons_append] at N9); (try k_sweep)))))
  (k_with "truthy ref" => (k_here; k_dflt ((rename News _ _ _ _ => N7); refine' truthy_at N7 ?zhm ?zhz ?_ ?_; (case zhm => k_extra "x hm"); (case zhz => omega)); intro htr))
  trivial
noncomputable def TupIn (tups : Led) (R : Value → Int → Prop) (u : Value) : Prop := ∃ T v a t, u = .ref T ∧ (T, tupObj [v, .int a t]) ∈ tups ∧ R v a
theorem TupIn.mono {tups tups' : Led} {R : Value → Int → Prop} {u : Value} (hs : ∀ p ∈ tups, p ∈ tups') (h : TupIn tups R u) : TupIn tups' R u := by
  obtain ⟨T, v, a, t, e, m, r⟩ := h
  exact ⟨T, v, a, t, e, hs _ m, r⟩
theorem popg_at {prog : Program} {w : World} {A : Around} {E : Value → Shared → Prop} {s : Shared} {h₀ : Heap} {L D : Addr} {m : Str → Option Value} {n : Nat} {us : Array Value} {Q : Value → Shared → Prop} (P : Value → Prop) (pre post : Led) (F : Fr h₀ L s.heap m) (N : News h₀ L s.heap (pre ++ ((D, W.listOf us n) :: post))) (hP : ∀ u ∈ us.toList, P u) (ho : PyProof.Rows.LCg.Off1 D (pre ++ post)) (hne : 0 < us.size) (hsz : us.size ≤ 100000)
    (h : ∀ h' y (us' : Array Value) (n' : Nat), Fr h₀ L h' m → News h₀ L h' (pre ++ ((D, W.listOf us' n') :: post)) → P y → (∀ u ∈ us'.toList, P u) → us'.size + 1 = us.size → Q y { s with heap := h' }) : wpAny (model prog w) A (call (.builtin "list.pop") [.ref D]) Q E s := by
  have hn0 : us.toList ≠ [] := fun e => by have := congrArg List.length e; rw [Array.length_toList, List.length_nil] at this; omega
  have e := kpa_last (us.toList.getLast hn0) us.toList.dropLast
  rw [List.dropLast_concat_getLast] at e
  refine kl_pop (its := us) (n := n) F N e (upd_at pre post ho) (by rw [Array.length_toList, sizeLine_eq]; omega) fun h' F' N' => h h' _ _ _ F' N' (hP _ (List.getLast_mem hn0)) (fun u hu => hP u (List.dropLast_subset _ (by simpa using hu))) ?_
  simp; omega
theorem kind_dt_m {w : World} {v : Value} {d : Dt} {rest news : Led} (R : DtIn w rest v d) (hs : ∀ p ∈ rest, p ∈ news) : Does w 265 [v] 1 [] news (fun r _ tl => tl = [] ∧ ∃ tk, r = .str d.kind tk) := kind_dt (R.mono hs)
theorem parts_of_m {w : World} {v : Value} {d : Dt} {rest news : Led} (R : DtIn w rest v d) (hs : ∀ p ∈ rest, p ∈ news) (hok : d.ok) : Does w 282 [v] 3 [] news (fun r _ tl => Ex3 fun D vs n => An4 (r = .ref D) (tl = [(D, W.listOf (vs : List Value).toArray n)]) (All2 (LfIn rest) vs d.parts) (vs.length ≤ 3)) := parts_of_d R hs hok
theorem dt_kind_m {w : World} {v : Value} {d : Dt} {rest news : Led} (R : DtIn w rest v d) (hs : ∀ p ∈ rest, p ∈ news) : Does w 265 [v] 1 [] news (fun r _ tl => tl = [] ∧ ∃ tk, r = .str d.kind tk) := kind_dt_m R hs
theorem ln_E5_1 : True := by
  (k_with "call ref" => (k_here; k_dflt ((first | refine' Does.use0E (dt_kind_m ?zp0 ?zp1) ?zcB ?zcF ?zcX ?zcN ?zcT ?zchd ?zchu ?_ | refine' Does.use0V (dt_kind_m ?zp0 ?zp1) ?zcB ?zcF ?zcX ?zcN ?zcT ?zchd ?zchu ?_ | refine' Does.use0 (dt_kind_m ?zp0 ?zp1) ?zcB ?zcF ?zcX ?zcN ?zcT ?zchd ?zchu ?_); (case zcB => assumption); (case zcF => k_asm); (case zcX => assumption); (case zcN => k_asm); (case zcT => assumption); (case zchd => k_extra "x room"); (case zchu => k_extra "x unit"); (case zp0 => first | assumption | (intro q7 hq7; simp only [List.mem_cons, List.mem_append, hq7, true_or, or_true])); (case zp1 => first | assumption | (intro q7 hq7; simp only [List.mem_cons, List.mem_append, hq7, true_or, or_true])); (k_extra "x got"))))
  trivial
theorem ln_E5_2 : True := by
  (k_with "call ref" => (k_here; k_dflt ((refine' Does.useT (parts_of_m ?zR ?zhs ?zok) ?zcB ?zcF ?zcX ?zcN ?zcT ?zchd ?zchu ?_); (case zcF => k_asm); (case zcN => k_extra "x n7"); (case zcB => assumption); (case zcX => assumption); (case zcT => assumption); (case zchd => k_extra "x room"); (case zchu => k_extra "x unit"); (case zR => assumption); (case zhs => (intro q7 hq7 ; simp only [List.mem_cons, List.mem_append, hq7, true_or, or_true])); (case zok => assumption); ((intro r9 tl9 h9 tk9 F9 N9 o9 P9); (obtain ⟨D9, vs9, n9, z0, z1, h29, hl9⟩ := P9); (subst z0); (subst z1); (try simp only [List.nil_append, List.cons_append] at N9 o9); (try k_sweep); skip))))
  trivial
theorem ln_E5_3 : True := by
  (k_with "call builtin:list.pop" => (k_here; k_dflt (refine' popg_at (TupIn _ _) [] _ ?zcF ?zcN ?zhP ?zho ?zhne ?zhz ?_; (case zcF => k_asm); (case zcN => ((rename News _ _ _ _ => N7); exact N7)); (case zhP => assumption); (case zho => assumption); (case zhne => omega); (case zhz => omega); (intro h9 y9 us9 n9 F9 N9 hy9 hus9 hsz9; obtain ⟨T9, val9, a9, t9, z9, hT9, hR9⟩ := hy9; subst z9; obtain ⟨za9, hD9⟩ := hR9; subst za9; (try simp only [List.nil_append, List.cons_append] at N9); (try k_sweep)))))
  trivial
theorem news_x2 {g h : Heap} {L : Addr} {a b : Addr × Obj} {r : Led} (N : News g L h (a :: b :: r)) : News g L h (a :: r) := (nC (nH N) (nT (nT N)))
theorem news_r1 {g h : Heap} {L : Addr} {t a b : Addr × Obj} {x r o : Led} (N : News g L h (t :: a :: b :: (x ++ (r ++ o)))) : News g L h ((a :: b :: ((t :: x) ++ r)) ++ o) := (nA (nC (nH (nT N)) (nC (nH (nT (nT N))) (nA (nC (nH N) (nL (nT (nT (nT N))))) (nL (nR (nT (nT (nT N)))))))) (nR (nR (nT (nT (nT N))))))
theorem own_ins {own x r : Led} {a b a' b' t : Addr × Obj} (ho : OwnOff own ((a :: b :: (x ++ r)).map (·.1))) (e1 : a'.1 = a.1) (e2 : b'.1 = b.1) (ht : ∀ p ∈ own, p.1 < t.1) : OwnOff own ((a' :: b' :: ((t :: x) ++ r)).map (·.1)) := by
  intro p hp q hq
  simp only [List.map_cons, List.map_append, List.cons_append, List.mem_cons, List.mem_append] at hq
  rcases hq with hq | hq | hq | hq | hq
  · rw [hq, e1]; exact ho p hp _ (.head _)
  · rw [hq, e2]; exact ho p hp _ (.tail _ (.head _))
  · rw [hq]; exact Nat.ne_of_lt (ht p hp)
  · exact ho p hp _ (.tail _ (.tail _ (by rw [List.map_append]; exact List.mem_append.mpr (.inl hq))))
  · exact ho p hp _ (.tail _ (.tail _ (by rw [List.map_append]; exact List.mem_append.mpr (.inr hq))))
noncomputable def StA (w : World) (rest : Led) (d : Dt) (v : Value) (a : Int) : Prop := a = 0 ∧ DtIn w rest v d
noncomputable def StB (w : World) (rest : Led) (v : Value) (a : Int) : Prop := a = 1 ∧ ∃ lf, DtIn w rest v (.leaf lf)
noncomputable def Dt.inner : Dt → Bool
  | .leaf _ => false
  | _ => true
section
variable {prog : Program} {w : World} {A : Around} {E : Value → Shared → Prop} {s : Shared} {t : Addr} {items : Array Value} {u : Tok} {Q : Value → Shared → Prop}
theorem in5_l {l : Lf} (ht : IsTup s.heap t items) (hi : StrsAre items.toList [Str.ofString "array", Str.ofString "dict", Str.ofString "stream"]) (h : Q (.bool false) s) : wpAny (model prog w) A (compareOp .In (.str l.kind u) (.ref t)) Q E s := by
  refine in_tuple_strs ht hi ?_
  have e : ([Str.ofString "array", Str.ofString "dict", Str.ofString "stream"].any (· == l.kind)) = false := by cases l <;> rfl
  rw [e]; exact h
theorem in5_d {d : Dt} {b : Bool} (hb : d.inner = b) (ht : IsTup s.heap t items) (hi : StrsAre items.toList [Str.ofString "array", Str.ofString "dict", Str.ofString "stream"]) (h : Q (.bool b) s) : wpAny (model prog w) A (compareOp .In (.str d.kind u) (.ref t)) Q E s := by
  subst hb
  cases d with
  | leaf l => exact in5_l ht hi h
  | arr ls => exact in_tuple_strs ht hi h
  | dict es => exact in_tuple_strs ht hi h
end
theorem ln_E5_4 : True := by
  (k_with "compareOp In str ref" => (k_here; k_dflt ((first | (with_reducible refine' in5_l ?zk1 ?zk2 ?_) | (with_reducible refine' in5_d (d := Dt.leaf _) (b := false) rfl ?zk1 ?zk2 ?_) | (with_reducible refine' in5_d ?zkb ?zk1 ?zk2 ?_)); (try case zkb => assumption); (case zk1 => exact News.isTup (by k_asm) (by news_mem)); (case zk2 => ((repeat constructor); first | done | fail "a goal is left")))))
  trivial
theorem depth_of_d {w : World} {v : Value} {d : Dt} {rest : Led} (R : DtIn w rest v d) (hok : d.ok) : Does w 289 [v] 5 [] rest (fun r _ tl => An2 (tl = []) (Ex2 fun n t => An2 (r = .int n t) (n ≤ 40))) := by
  refine' Does.of (binds := [(Str.ofString "value", v)]) (al := [(Str.ofString "value", some (v))]) ?k6 ?kb ?ks ?k7 ?k9 ?kB ?c5 ?c2 ?c3 ?c4 ?lv ?kal ?_
  (case k6 => k_dflt k_is); (case kb => conv => lhs; whnf); (case ks => conv => lhs; whnf); (case k7 => k_dflt k_is); (case k9 => exact rfl); (case kB => exact locs rfl); (case c5 => decide); (case c2 => exact rfl); (case c3 => exact rfl); (case c4 => exact rfl); (case lv => decide); (case kal => exact rfl)
  intro mean mg mb dp un outer base g L s E F N hap B X T hlt hdp hun
  (try simp only [List.nil_append, List.cons_append] at N hlt)
  k_fold
  k_extra "x stmt"
  k_extra "x stmt"
  ((rename Fr g L _ _ => F7); (rename News g L _ _ => N8); (have F8 : Fr _ _ _ (lkm [(_, _), (_, _), (_, _)]) := F7); clear F7)
  rename _ ∧ AllLt _ rest => l1
  rename Addr => l0
  have F9 := Fr_rows [(Str.ofString "part", none), (Str.ofString "above", none), (Str.ofString "here", none), (Str.ofString "line", some (.ref _)), (Str.ofString "deepest", some (.int 0 _)), (Str.ofString "value", some v)] F8 (by repeat' (first | exact rfl | exact trivial | refine And.intro ?_ ?_)) (by repeat' (first | exact rfl | exact trivial | refine And.intro ?_ ?_))
  clear F8
  refine seqK ?_
  refine While_inv (n₀ := 5) (fun n m nx => ∃ us k tups dn td o1 o2 o3, m = lkm [(Str.ofString "part", o1), (Str.ofString "above", o2), (Str.ofString "here", o3), (Str.ofString "line", some (.ref l0)), (Str.ofString "deepest", some (.int dn td)), (Str.ofString "value", some v)] ∧ dn ≤ 1 ∧ (∀ p ∈ tups, p.1 ≠ l0) ∧ nx = (l0, W.listOf us k) :: (tups ++ rest) ∧ ((n = 5 ∧ dn = 0 ∧ us.size = 1 ∧ ∀ u ∈ us.toList, TupIn tups (StA w rest d) u) ∨ (n = us.size ∧ n ≤ 4 ∧ ∀ u ∈ us.toList, TupIn tups (StB w rest) u))) F9 N8 ?_ ?_
  · refine ⟨_, _, [(_, _)], 0, _, _, _, _, rfl, by decide, (fun p hp => by rw [List.mem_singleton.mp hp]; exact Nat.ne_of_lt l1.1), rfl, .inl ⟨rfl, rfl, rfl, fun u hu => ?_⟩⟩
    have hu : u ∈ [Value.ref _] := hu
    rw [List.mem_singleton.mp hu]
    exact ⟨_, _, _, _, rfl, .head _, rfl, R⟩
  · rintro n m₁ news₁ h₁ tk₁ F₁ N₁ ⟨us, k, tups, dn, td, o1, o2, o3, rfl, hdn, hoff, rfl, hst⟩
    have hofs := off1_app (off1_of hoff) (off1_all l1.2)
    rcases hst with ⟨rfl, rfl, hus, hP⟩ | ⟨hn, hn4, hP⟩
    · (repeat' ((fail_if_success (with_reducible refine mark_call ?_)); k_extra "x one"))
      · rename DtIn w rest _ d => hD9
        cases hin : d.inner with
        | false =>
          k_extra "x steps"
          ((rename Fr g L _ _ => F7); (rename News g L _ _ => N8); (have F8 := Fr_sel [Str.ofString "part", Str.ofString "above", Str.ofString "here", Str.ofString "line", Str.ofString "deepest", Str.ofString "value"] (al := [(_, _), (_, _), (_, _), (_, _), (_, _), (_, _), (_, _), (_, _)]) F7 (by rfl)); clear F7)
          refine ⟨rfl, _, _, _, _, _, rfl, F8, news_tail N8, ?_, _, _, tups, 0, td, _, _, _, rfl, hdn, hoff, rfl, .inr ⟨rfl, ?_, fun u hu => ?_⟩⟩
          all_goals first | omega | skip
          all_goals (exfalso; have h0 := List.length_pos_of_mem hu; rw [Array.length_toList] at h0; omega)
        | true =>
          (repeat' ((fail_if_success (with_reducible refine mark_pi ?_)); k_extra "x one"))
          rename All2 (LfIn rest) _ _ => h29
          rename List.length _ ≤ 3 => hl9
          rename ∀ q ∈ (_, _) :: (l0, _) :: _, _ => o9
          rename List Value => vs9
          rename Array Value => us9
          rename _ + 1 = us.size => hsz9
          ((rename Fr g L _ _ => F7); (rename News g L _ _ => N8); (have F8 := Fr_sel [Str.ofString "part", Str.ofString "above", Str.ofString "here", Str.ofString "line", Str.ofString "deepest", Str.ofString "value"] (al := [(_, _), (_, _), (_, _), (_, _), (_, _), (_, _), (_, _), (_, _), (_, _)]) F7 (by rfl)); clear F7)
          rename_i D9 n9
          have hD0 : @Ne Nat l0 D9 := o9 _ (.tail _ (.head _)) _ (.head _)
          have hD1 : @Ne Nat D9 l0 := hD0.symm
          replace N8 := news_x2 N8
          refine list_loop (fun i al nx => Ex7 fun us2 k2 tups2 o1 o2 o3 td => An5 (nx = (D9, W.listOf vs9.toArray n9) :: (l0, W.listOf us2 k2) :: (tups2 ++ rest)) (us2.size = i) ((∀ u ∈ us2.toList, TupIn tups2 (StB w rest) u)) ((∀ p ∈ tups2, p.1 ≠ l0)) (al = [(Str.ofString "part", o1), (Str.ofString "above", some (.int 0 o2)), (Str.ofString "here", o3), (Str.ofString "line", some (.ref l0)), (Str.ofString "deepest", some (.int 1 td)), (Str.ofString "value", some v)])) F8 N8 (.head _) ⟨us9, _, tups, _, _, _, _, rfl, by omega, (fun u hu => ?_), hoff, rfl⟩ ?_ ?_
          · exfalso; have h0 := List.length_pos_of_mem hu; rw [Array.length_toList] at h0; omega
          · rintro i v9 al₁ news₁ h tk own hv ho hm ⟨us2, k2, tups2, o1, o2, o3, td, rfl, hu2, hP2, hoff2, rfl⟩ F1 N1
            obtain ⟨lf, _, hlf⟩ := h29.get hv
            have hi9 : i < vs9.length := (List.getElem?_eq_some_iff.mp hv).1
            have ho0 : ∀ p ∈ own, p.1 ≠ l0 := fun p hp => ho p hp l0 (.tail _ (.head _))
            have hr0 : ∀ p ∈ rest, p.1 ≠ l0 := allLt_ne l1.2
            replace N1 : News g L h ((D9, W.listOf vs9.toArray n9) :: (l0, W.listOf us2 k2) :: (tups2 ++ (rest ++ own))) := fun p hp => N1 p (by simpa using hp)
            k_extra "x steps"
            ((rename Fr g L _ _ => F7); (rename News g L _ _ => N8); (have F8 := Fr_sel [Str.ofString "part", Str.ofString "above", Str.ofString "here", Str.ofString "line", Str.ofString "deepest", Str.ofString "value"] (al := [(_, _), (_, _), (_, _), (_, _), (_, _), (_, _), (_, _)]) F7 (by rfl)); clear F7)
            rename _ ∧ _ ∧ AllLt _ (tups2 ++ _) => l3
            refine ⟨_, _, _, (D9, _) :: (l0, _) :: ((_ :: tups2) ++ rest), rfl, F8, news_r1 N8, own_ins ho rfl rfl (fun p hp => allLt_mem l3.2.2 p (List.mem_append.mpr (.inr (List.mem_append.mpr (.inr hp))))), .head _, _, _, _ :: tups2, _, _, _, _, rfl, by rw [Array.size_push, hu2], (fun u hu => ?_), (fun p hp => ?_), rfl⟩
            · rw [Array.toList_push] at hu
              rcases List.mem_append.mp hu with hu | hu
              · exact (hP2 u hu).mono fun _ h => .tail _ h
              · rw [List.mem_singleton.mp hu]
                exact ⟨_, _, _, _, rfl, .head _, rfl, lf, .leaf hlf⟩
            · rcases List.mem_cons.mp hp with rfl | hp
              · exact (Nat.ne_of_lt l3.2.1).symm
              · exact hoff2 p hp
          · rintro al₁ news₁ h tk ⟨us2, k2, tups2, o1, o2, o3, td, rfl, hu2, hP2, hoff2, rfl⟩ F1 N1
            try dsimp only
            k_extra "x steps"
            exact ⟨rfl, _, _, _, _, us2.size, rfl, F1, news_tail N1, by omega, us2, _, tups2, 1, td, _, _, _, rfl, by decide, hoff2, rfl, .inr ⟨rfl, by omega, hP2⟩⟩
      · exfalso; omega
    · (repeat' ((fail_if_success (with_reducible refine mark_call ?_)); k_extra "x one"))
      · rename ∃ lf, DtIn w rest _ (.leaf lf) => hD8
        obtain ⟨lf, hD9⟩ := hD8
        k_extra "x steps"
        ((rename Fr g L _ _ => F7); (rename News g L _ _ => N8); (have F8 := Fr_sel [Str.ofString "part", Str.ofString "above", Str.ofString "here", Str.ofString "line", Str.ofString "deepest", Str.ofString "value"] (al := [(_, _), (_, _), (_, _), (_, _), (_, _), (_, _), (_, _), (_, _)]) F7 (by rfl)); clear F7)
        refine ⟨rfl, _, _, _, _, _, rfl, F8, news_tail N8, ?_, _, _, tups, dn, td, _, _, _, rfl, hdn, hoff, rfl, .inr ⟨rfl, ?_, by assumption⟩⟩ <;> omega
      · ((rename Fr g L _ _ => F8); (rename News g L _ _ => N8))
        exact ⟨_, [], [], _, _, rfl, F8, fun p hp => N8 p (.tail _ (List.mem_append.mpr (.inr hp))), rfl, (fun _ _ _ h => nomatch h), rfl, dn, _, rfl, by omega⟩

noncomputable def dOk : Nat → Dat → Bool
  | 0, .tuple _ => false
  | n + 1, .tuple ds => ds.all (dOk n)
  | _, .list _ => false
  | _, _ => true
theorem EqAt_bytes {A : Around} {s : Shared} {b c : Array UInt8} {t u : Tok} (e : b = c) : SeqAt.EqAt A s (.bytes b t) (.bytes c u) true := fun prog w E Q h => eqBool_bytes (by rw [e]; simpa using h)
theorem datAll_at {news : Led} : ∀ {vs : List Value} {ds : List Dat} {j : Nat} {v : Value}, DatAll news vs ds → vs[j]? = some v → ∃ d, ds[j]? = some d ∧ DatIn news v d
  | _, _, _, _, .nil, h => nomatch h
  | _, _, 0, _, .cons h r, e => by simp at e; subst e; exact ⟨_, rfl, h⟩
  | _, _, j + 1, _, .cons h r, e => by
    obtain ⟨d, hd, hi⟩ := datAll_at (j := j) r (by simpa using e)
    exact ⟨d, by simpa using hd, hi⟩
theorem all_range_true (n : Nat) : (List.range n).all (fun _ => true) = true := by simp
theorem is_tuple_of {g h : Heap} {L a : Addr} {news : Led} {vs : Array Value} {n : Nat} (N : News g L h news) (hm : (a, ({ cls := .type "tuple", data := .seq vs n } : Obj)) ∈ news) : h.IsTuple a vs := ⟨_, (N _ hm).1, rfl, _, rfl⟩
theorem eqAt_flat {A : Around} {s : Shared} {news : Led} {v v' : Value} {d : Dat} (h1 : DatIn news v d) (h2 : DatIn news v' d) (ht : ∀ ds, d ≠ .tuple ds) (hl : ∀ ds, d ≠ .list ds) : SeqAt.EqAt A s v v' true := by
  cases h1 with
  | none => cases h2; exact SeqAt.EqAt.same _
  | bool b => cases h2; exact SeqAt.EqAt.same _
  | int i t => cases h2; have := SeqAt.EqAt.int_int (A := A) (s := s) i t i; rw [beq_self_eq_true] at this; exact this _
  | str x t => cases h2; have := SeqAt.EqAt.str_str (A := A) (s := s) x t x; rw [beq_self_eq_true] at this; exact this _
  | bytes b t => cases h2; exact EqAt_bytes rfl
  | tuple _ _ => exact absurd rfl (ht _)
  | list _ _ => exact absurd rfl (hl _)
theorem eqAt_dat {g : Heap} {L : Addr} {s : Shared} {news : Led} (N : News g L s.heap news) : ∀ (n : Nat) {A : Around} {v v' : Value} {d : Dat}, dOk n d = true → A.units + n < cLine → DatIn news v d → DatIn news v' d → SeqAt.EqAt A s v v' true := by
  intro n
  induction n with
  | zero =>
    intro A v v' d hd hu h1 h2
    exact eqAt_flat h1 h2 (fun ds e => by subst e; exact nomatch hd) (fun ds e => by subst e; exact nomatch hd)
  | succ n ih =>
    intro A v v' d hd hu h1 h2
    by_cases ht : ∀ ds, d ≠ .tuple ds
    · exact eqAt_flat h1 h2 ht (fun ds e => by subst e; exact nomatch hd)
    have hq : ∃ ds, d = .tuple ds := Classical.byContradiction fun h => ht fun ds e => h ⟨ds, e⟩
    obtain ⟨ds, rfl⟩ := hq
    cases h1 with
    | @tuple a vs m _ m1 r1 =>
      cases h2 with
      | @tuple a' vs' m' _ m2 r2 =>
        by_cases e : a = a'
        · subst e; exact SeqAt.EqAt.same _
        · refine SeqAt.EqAt.of_refs e ?_
          have hs : vs.length = vs'.length := by rw [r1.length, r2.length]
          have R := SeqAt.RcAt.tuples (A := A) (s := s) (e := fun _ => true) (is_tuple_of N m1) (is_tuple_of N m2) (by omega) (fun j j1 j2 => by
            rw [List.size_toArray] at j1 j2
            obtain ⟨d1, e1, i1⟩ := datAll_at r1 (List.getElem?_eq_getElem j1)
            obtain ⟨d2, e2, i2⟩ := datAll_at r2 (List.getElem?_eq_getElem j2)
            rw [e1] at e2
            cases e2
            have hd : ds.all (dOk n) = true := hd
            exact ih (List.all_eq_true.mp hd _ (List.mem_of_getElem? e1)) (by rw [units_in1]; omega) i1 i2)
          rw [all_range_true] at R
          simpa [hs] using R
theorem tup_pairs {g : Heap} {L : Addr} {s : Shared} {news : Led} (N : News g L s.heap news) {n : Nat} {A : Around} {vs vs' : List Value} {ds : List Dat} (hd : dOk (n + 1) (.tuple ds) = true) (hu : A.units + (n + 1) < cLine) (r1 : DatAll news vs ds) (r2 : DatAll news vs' ds) :
    ∀ j (h1 : j < vs.toArray.size) (h2 : j < vs'.toArray.size), SeqAt.EqAt A.in1 s vs.toArray[j] vs'.toArray[j] true := fun j j1 j2 => by
  rw [List.size_toArray] at j1 j2
  obtain ⟨d1, e1, i1⟩ := datAll_at r1 (List.getElem?_eq_getElem j1)
  obtain ⟨d2, e2, i2⟩ := datAll_at r2 (List.getElem?_eq_getElem j2)
  rw [e1] at e2
  cases e2
  have hd : ds.all (dOk n) = true := hd
  exact eqAt_dat N n (List.all_eq_true.mp hd _ (List.mem_of_getElem? e1)) (by rw [units_in1]; omega) i1 i2
theorem eq_tup {prog : Program} {w : World} {A : Around} {E : Value → Shared → Prop} {s : Shared} {g : Heap} {L a b : Addr} {news : Led} {ds : List Dat} {n : Nat} {Q : Value → Shared → Prop} (N : News g L s.heap news) (h1 : DatIn news (.ref a) (.tuple ds)) (h2 : DatIn news (.ref b) (.tuple ds)) (hd : dOk (n + 1) (.tuple ds) = true) (hu : A.units + (n + 1) < cLine) (h : Q (.bool true) s) : wpAny (model prog w) A (compareOp .Eq (.ref a) (.ref b)) Q E s := by
  cases h1 with
  | @tuple _ vs m _ m1 r1 =>
    cases h2 with
    | @tuple _ vs' m' _ m2 r2 =>
      have hs : vs.length = vs'.length := by rw [r1.length, r2.length]
      refine SeqAt.eq_tupleAt (e := fun _ => true) (is_tuple_of N m1) (is_tuple_of N m2) (by omega) (tup_pairs N hd hu r1 r2) ?_
      rw [all_range_true]
      simpa [hs] using h
theorem ne_tup {prog : Program} {w : World} {A : Around} {E : Value → Shared → Prop} {s : Shared} {g : Heap} {L a b : Addr} {news : Led} {ds : List Dat} {n : Nat} {Q : Value → Shared → Prop} (N : News g L s.heap news) (h1 : DatIn news (.ref a) (.tuple ds)) (h2 : DatIn news (.ref b) (.tuple ds)) (hd : dOk (n + 1) (.tuple ds) = true) (hu : A.units + (n + 1) < cLine) (h : Q (.bool false) s) : wpAny (model prog w) A (compareOp .NotEq (.ref a) (.ref b)) Q E s := by
  cases h1 with
  | @tuple _ vs m _ m1 r1 =>
    cases h2 with
    | @tuple _ vs' m' _ m2 r2 =>
      have hs : vs.length = vs'.length := by rw [r1.length, r2.length]
      have R := SeqAt.RcNeAt.tuples (A := A) (s := s) (e := fun _ => true) (is_tuple_of N m1) (is_tuple_of N m2) (by omega) (tup_pairs N hd hu r1 r2)
      rw [all_range_true] at R
      refine R _ _ _ _ ?_
      simpa [hs] using h

open PySem.Builtin
noncomputable def dg (n : Int) : List Int := codes (Str.ofString (toString n))
noncomputable def sepd : List Int → List Int
  | [] => []
  | [x] => dg x ++ [10]
  | x :: y :: r => dg x ++ [32] ++ sepd (y :: r)
noncomputable def u8 (l : List Int) : List UInt8 := l.map fun n => n.toNat.toUInt8
theorem words_space {c : UInt8} (hc : Bytes.isSpace c = true) : ∀ (fuel left : Nat) (r : List UInt8), Bytes.words fuel left (c :: r) = Bytes.words fuel left r
  | 0, _, _ => rfl
  | fuel + 1, left, r => by
    unfold Bytes.words
    rw [List.dropWhile_cons, if_pos hc]
theorem words_word {c : UInt8} {w r : List UInt8} (hw : w ≠ []) (hn : ∀ x ∈ w, Bytes.isSpace x = false) (hc : Bytes.isSpace c = true) (fuel left : Nat) (hl : left ≠ 0) : Bytes.words (fuel + 1) left (w ++ c :: r) = w :: Bytes.words fuel (left - 1) r := by
  cases w with
  | nil => exact absurd rfl hw
  | cons a w =>
    have ha : Bytes.isSpace a = false := hn a (.head _)
    have e1 : (a :: w ++ c :: r).dropWhile Bytes.isSpace = a :: w ++ c :: r := by
      rw [List.cons_append, List.dropWhile_cons, if_neg (by rw [ha]; decide)]
    have e2 : (a :: w ++ c :: r).takeWhile (!Bytes.isSpace ·) = a :: w := by
      rw [List.takeWhile_append_of_pos (fun x hx => by rw [hn x hx]; rfl), List.takeWhile_cons, if_neg (by rw [hc]; decide), List.append_nil]
    have e3 : (a :: w ++ c :: r).dropWhile (!Bytes.isSpace ·) = c :: r := by
      rw [List.dropWhile_append_of_pos (fun x hx => by rw [hn x hx]; rfl), List.dropWhile_cons, if_neg (by rw [hc]; decide)]
    have e : Bytes.words (fuel + 1) left (a :: w ++ c :: r) = (a :: w ++ c :: r).takeWhile (!Bytes.isSpace ·) :: Bytes.words fuel (left - 1) ((a :: w ++ c :: r).dropWhile (!Bytes.isSpace ·)) := by
      rw [Bytes.words, e1]
      have : (left == 0) = false := by simpa using hl
      simp only [List.cons_append, this]
      rfl
    rw [e, e2, e3, words_space hc]
theorem int_pos (i : Int) : 0 < (Str.ofString (toString i)).cps.size := by
  have e : (Str.ofString (toString i)).cps.size = (toString i).length := PySem.ofString_length _
  rw [e]
  cases i with
  | ofNat m =>
    have e : toString (Int.ofNat m) = Nat.repr m := rfl
    rw [e]; exact Nat.length_repr_pos
  | negSucc m =>
    have e : toString (Int.negSucc m) = "-" ++ Nat.repr (m + 1) := rfl
    rw [e, String.length_append]
    have e1 : "-".length = 1 := rfl
    omega
theorem dg_word (n : Int) : u8 (dg n) ≠ [] ∧ ∀ x ∈ u8 (dg n), Bytes.isSpace x = false := by
  refine ⟨fun h => ?_, fun x hx => ?_⟩
  · have := congrArg List.length h
    simp only [u8, dg, List.length_map, codes_len, List.length_nil] at this
    have := int_pos n
    omega
  · obtain ⟨c, hc, rfl⟩ := List.mem_map.mp hx
    obtain ⟨k, hk, rfl⟩ := List.mem_map.mp hc
    have h := int_signs n k hk
    have : k = 45 ∨ k = 48 ∨ k = 49 ∨ k = 50 ∨ k = 51 ∨ k = 52 ∨ k = 53 ∨ k = 54 ∨ k = 55 ∨ k = 56 ∨ k = 57 := by omega
    rcases this with rfl | rfl | rfl | rfl | rfl | rfl | rfl | rfl | rfl | rfl | rfl <;> decide
theorem words_sepd : ∀ (ns : List Int) (fuel left : Nat), ns.length < fuel → ns.length < left → Bytes.words fuel left (u8 (sepd ns)) = ns.map fun n => u8 (dg n)
  | [], fuel + 1, left, _, _ => rfl
  | [x], fuel + 1, left, hf, hl => by
    have hf : 1 < fuel + 1 := hf
    have hl : 1 < left := hl
    have e : u8 (sepd [x]) = u8 (dg x) ++ (10 : UInt8) :: [] := by simp [u8, sepd]
    rw [e, words_word (dg_word x).1 (dg_word x).2 (by decide) _ _ (by omega)]
    obtain ⟨f, rfl⟩ : ∃ f, fuel = f + 1 := ⟨fuel - 1, by omega⟩
    rfl
  | x :: y :: r, fuel + 1, left, hf, hl => by
    have hf : (y :: r).length + 1 < fuel + 1 := hf
    have hl : (y :: r).length + 1 < left := hl
    have e : u8 (sepd (x :: y :: r)) = u8 (dg x) ++ (32 : UInt8) :: u8 (sepd (y :: r)) := by simp [u8, sepd]
    rw [e, words_word (dg_word x).1 (dg_word x).2 (by decide) _ _ (by omega), words_sepd (y :: r) fuel (left - 1) (by omega) (by omega)]
    rfl
noncomputable def bodyOf (parts : List (List Int)) : List Int := (parts.flatMap (· ++ [10])).dropLast
noncomputable def offAt (parts : List (List Int)) (i : Nat) : Nat := ((parts.take i).flatMap (· ++ [10])).length
theorem joined_nl (b : List Int) : ∀ (r : List (List Int)), (b ++ (r.map fun p => [10] ++ p).flatten) ++ [10] = (b :: r).flatMap (· ++ [10])
  | [] => by simp
  | c :: r => by
    have ih := joined_nl c r
    rw [List.flatMap_cons, ← ih]
    simp
theorem body_joined (b : List Int) (r : List (List Int)) : b ++ (r.map fun p => [10] ++ p).flatten = bodyOf (b :: r) := by
  unfold bodyOf
  rw [← joined_nl, List.dropLast_concat]
theorem offAt_succ {parts : List (List Int)} {i : Nat} {p : List Int} (h : parts[i]? = some p) : offAt parts (i + 1) = offAt parts i + p.length + 1 := by
  unfold offAt
  rw [take_snoc h]
  simp
  omega
theorem offAt_zero (parts : List (List Int)) : offAt parts 0 = 0 := rfl
theorem body_len {parts : List (List Int)} (h : parts ≠ []) : (bodyOf parts).length + 1 = offAt parts parts.length := by
  unfold bodyOf offAt
  rw [List.take_length, List.length_dropLast]
  cases parts with
  | nil => exact absurd rfl h
  | cons a r => simp; omega
theorem body_split {parts : List (List Int)} {i : Nat} {p : List Int} (h : parts[i]? = some p) : ∃ A R, bodyOf parts = A ++ p ++ R ∧ A.length = offAt parts i := by
  obtain ⟨hi, rfl⟩ := List.getElem?_eq_some_iff.mp h
  refine ⟨(parts.take i).flatMap (· ++ [10]), ([10] ++ (parts.drop (i + 1)).flatMap (· ++ [10])).dropLast, ?_, rfl⟩
  have e : parts.flatMap (· ++ [10]) = ((parts.take i).flatMap (· ++ [10]) ++ parts[i]) ++ ([10] ++ (parts.drop (i + 1)).flatMap (· ++ [10])) := by
    have e0 : parts = parts.take i ++ parts[i] :: parts.drop (i + 1) := by rw [← List.drop_eq_getElem_cons hi, List.take_append_drop]
    calc parts.flatMap (· ++ [10]) = (parts.take i ++ parts[i] :: parts.drop (i + 1)).flatMap (· ++ [10]) := by rw [← e0]
      _ = _ := by rw [List.flatMap_append, List.flatMap_cons]; simp only [List.append_assoc]
  unfold bodyOf
  rw [e, List.dropLast_append_of_ne_nil (by simp)]
theorem body_cut {lead : List Int} {parts : List (List Int)} {i : Nat} {p : List Int} (h : parts[i]? = some p) : ((lead ++ bodyOf parts).drop (lead.length + offAt parts i)).take p.length = p := by
  obtain ⟨A, R, e, hA⟩ := body_split h
  rw [e, ← hA, List.append_assoc, ← List.append_assoc lead, ← List.length_append, List.drop_left, List.take_left]

open PySem.StrLaws PySem.Builtin.Str
theorem slice_pos {x : Str} {i : Int} (h : i < x.cps.size) (h0 : 0 < x.cps.size) : 0 < (Txt.slice x (some i) none).cps.size := by
  unfold Txt.slice
  split
  · exact h0
  · show 0 < (List.filterMap _ (strSliceIndices (some i) none 1 x.cps.size)).toArray.size
    rw [List.size_toArray]
    unfold strSliceIndices
    simp only [show (1 : Int) > 0 by decide, if_true]
    generalize hlo : max 0 (min (if i < 0 then i + (x.cps.size : Int) else i) (x.cps.size : Int)) = lo
    have h1 : 0 ≤ lo := by omega
    have h2 : lo < x.cps.size := by omega
    unfold sliceRange
    simp only [show (1 : Int) > 0 by decide, if_true, if_pos h2, Int.ediv_one]
    obtain ⟨m, hm⟩ : ∃ m, ((x.cps.size : Int) - lo + 1 - 1).toNat = m + 1 := ⟨((x.cps.size : Int) - lo + 1 - 1).toNat - 1, by omega⟩
    rw [hm, List.range_succ_eq_map, List.map_cons]
    have hk : lo.toNat < x.cps.size := by omega
    rw [List.filterMap_cons]
    simp [hk]
theorem decText_pos (a b : Int) : 0 < (decText a b).cps.size := by
  show 0 < ((if a < 0 then Str.ofString "-" else Str.ofString "").cps ++ (((Txt.slice (decPad a b) none (some (-b))).cps ++ (Str.ofString ".").cps) ++ (Txt.slice (decPad a b) (some (-b)) none).cps)).size
  rw [Array.size_append, Array.size_append, Array.size_append, ofString_size1]
  omega
theorem find_lt (a b : Int) : Txt.find (decText a b) dot < ((decText a b).cps.size : Nat) := by
  unfold Txt.find
  rcases occ_head (decText a b) dot 1 (by decide) with ⟨h, _⟩ | ⟨i, r, h, hA, _⟩
  · rw [h]
    show (-1 : Int) < _
    omega
  · rw [h]
    have h1 := hA.1
    have e : (decText a b).length = (decText a b).cps.size := rfl
    have hl : dot.length = 1 := rfl
    rw [hl, e] at h1
    show (i : Int) < _
    omega
theorem decOct_pos (a b : Int) : 0 < (decOct a b).cps.size := by
  unfold decOct
  split
  · show 0 < ((Str.ofString (toString a)).cps ++ (Str.ofString ".").cps).size
    rw [Array.size_append, ofString_size1]
    omega
  · unfold decLeast
    by_cases hc : ((10 : Int) ^ b.toNat ≤ (if a < 0 then -a else a) ∨ a = 0)
    · rw [if_pos hc]; exact decText_pos a b
    · rw [if_neg hc]
      show 0 < ((if a < 0 then Str.ofString "-" else Str.ofString "").cps ++ (Txt.slice (decText a b) (some (Txt.find (decText a b) dot)) none).cps).size
      rw [Array.size_append]
      have := slice_pos (find_lt a b) (decText_pos a b)
      omega
theorem nameOct_len' {x : Str} (hz : x.cps.size ≤ 20) : 0 < (nameOct x).length ∧ (nameOct x).length ≤ 61 := by
  have := flat_len nameEnc 3 nameEnc_len (codes x)
  rw [codes_len] at this
  unfold nameOct
  simp only [List.length_cons]
  omega
theorem codes_part {x : Str} {k : Nat} (h0 : 0 < x.cps.size) (h1 : x.cps.size ≤ k) : 0 < (codes x).length ∧ (codes x).length ≤ k := by
  rw [codes_len]; exact ⟨h0, h1⟩
theorem layLf_parts {l : Lf} (hok : l.ok) : ∀ ns ∈ layLf l, 0 < ns.length ∧ ns.length ≤ 61 := by
  intro ns hns
  cases l with
  | null => rw [List.mem_singleton.mp hns]; decide
  | truth b => rw [List.mem_singleton.mp hns]; cases b <;> decide
  | int i =>
    have hok' : -500 ≤ i ∧ i ≤ 499 := hok
    rw [List.mem_singleton.mp hns]
    exact codes_part (int_pos i) (Nat.le_trans (int_len (by omega) (by omega)) (by decide))
  | real a b =>
    have hok' : -1000 ≤ a ∧ a ≤ 1000 ∧ 0 ≤ b ∧ b ≤ 3 := hok
    rw [List.mem_singleton.mp hns]
    exact codes_part (decOct_pos a b) (Nat.le_trans (decOct_size hok'.1 hok'.2.1 hok'.2.2.2) (by decide))
  | name x =>
    rw [List.mem_singleton.mp hns]
    exact nameOct_len' (name_codes hok).2
  | str o b =>
    rw [List.mem_singleton.mp hns]
    have h1 : o.size ≤ 4 := hok.1
    have h2 := litOct_len o
    refine ⟨?_, by show (litOct o).length ≤ 61; omega⟩
    show 0 < (litAcc (KBw.bInts o) o.size ++ [41]).length
    simp
  | ref a b =>
    have hok' : 1 ≤ a ∧ a ≤ 9 ∧ 0 ≤ b ∧ b ≤ 2 := hok
    have hns : ns ∈ [codes (Str.ofString (toString a)), codes (Str.ofString (toString b)), [82]] := hns
    simp only [List.mem_cons, List.not_mem_nil, or_false] at hns
    rcases hns with rfl | rfl | rfl
    · exact codes_part (int_pos a) (Nat.le_trans (int_len (by omega) (by omega)) (by decide))
    · exact codes_part (int_pos b) (Nat.le_trans (int_len (by omega) (by omega)) (by decide))
    · decide
theorem layLf_len (l : Lf) : (layLf l).length ≤ 3 := by
  cases l <;> first | exact Nat.le_refl 3 | decide | (show 1 ≤ 3; decide)
theorem layEnt_parts {p : Str × Lf} (hk : p.1.cps.size ≤ 20) (hok : p.2.ok) : ∀ ns ∈ layEnt p, 0 < ns.length ∧ ns.length ≤ 61 := by
  obtain ⟨k, l⟩ := p
  intro ns hns
  have hgo : l = .null ∨ ns ∈ nameOct k :: layLf l := by
    cases l <;> first | exact .inl rfl | exact .inr hns
  rcases hgo with rfl | hgo
  · exact nomatch hns
  · rcases List.mem_cons.mp hgo with rfl | h
    · exact nameOct_len' hk
    · exact layLf_parts hok ns h
theorem layEnt_len (p : Str × Lf) : (layEnt p).length ≤ 4 := by
  obtain ⟨k, l⟩ := p
  have h := layLf_len l
  cases l <;> first | exact Nat.zero_le _ | exact Nat.succ_le_succ h
theorem flat_lenL {α β : Type} (f : α → List β) (k : Nat) (hf : ∀ c, (f c).length ≤ k) : ∀ l : List α, (l.flatMap f).length ≤ k * l.length
  | [] => by simp
  | c :: r => by
    have := flat_lenL f k hf r
    have h2 := hf c
    simp only [List.flatMap_cons, List.length_append, List.length_cons, Nat.mul_add, Nat.mul_one]
    omega
theorem dict_len3 {ps : List (Str × Lf)} {k : Nat} (hk : k ≤ 3) (e : ps.map (·.1) = [Str.ofString "A", Str.ofString "Key", Str.ofString "x y"].take k) : ps.length ≤ 3 := by
  have := congrArg List.length e
  simp only [List.length_map, List.length_take, List.length_cons, List.length_nil] at this
  omega
theorem layDt_parts {d : Dt} (hok : d.ok) : (∀ ns ∈ layDt d, 0 < ns.length ∧ ns.length ≤ 61) ∧ 0 < (layDt d).length ∧ (layDt d).length ≤ 14 := by
  cases d with
  | leaf l =>
    refine ⟨layLf_parts hok.1, ?_, Nat.le_trans (layLf_len l) (by decide)⟩
    cases l <;> exact Nat.succ_pos _
  | arr ls =>
    have h3 : ls.length ≤ 3 := hok.1
    refine ⟨fun ns hns => ?_, ?_⟩
    · have hns : ns ∈ [[91]] ++ ls.flatMap layLf ++ [[93]] := hns
      rcases List.mem_append.mp hns with h | h
      · rcases List.mem_append.mp h with h | h
        · rw [List.mem_singleton.mp h]; decide
        · obtain ⟨l, hl, h⟩ := List.mem_flatMap.mp h
          exact layLf_parts (hok.2 l hl) ns h
      · rw [List.mem_singleton.mp h]; decide
    · have := flat_lenL layLf 3 layLf_len ls
      show 0 < ([[91]] ++ ls.flatMap layLf ++ [[93]]).length ∧ ([[91]] ++ ls.flatMap layLf ++ [[93]]).length ≤ 14
      simp only [List.length_append, List.length_cons, List.length_nil]
      omega
  | dict ps =>
    obtain ⟨⟨k, hk, e⟩, hok⟩ := hok
    have h3 := dict_len3 hk e
    refine ⟨fun ns hns => ?_, ?_⟩
    · have hns : ns ∈ [[60, 60]] ++ ps.flatMap layEnt ++ [[62, 62]] := hns
      rcases List.mem_append.mp hns with h | h
      · rcases List.mem_append.mp h with h | h
        · rw [List.mem_singleton.mp h]; decide
        · obtain ⟨p, hp, h⟩ := List.mem_flatMap.mp h
          refine layEnt_parts ?_ (hok p hp) ns h
          have hm : p.1 ∈ [Str.ofString "A", Str.ofString "Key", Str.ofString "x y"].take k := e ▸ List.mem_map.mpr ⟨p, hp, rfl⟩
          exact (key_codes (List.mem_of_mem_take hm)).2
      · rw [List.mem_singleton.mp h]; decide
    · have := flat_lenL layEnt 4 layEnt_len ps
      show 0 < ([[60, 60]] ++ ps.flatMap layEnt ++ [[62, 62]]).length ∧ ([[60, 60]] ++ ps.flatMap layEnt ++ [[62, 62]]).length ≤ 14
      simp only [List.length_append, List.length_cons, List.length_nil]
      omega
/-- the octets of an object, as write_object gives them -/
noncomputable def octOf (d : Dt) : List Int := joinT (layDt d)
theorem glue_tot {l : List (List Int)} (h : ∀ i, (l.getD i []).length ≤ 61) (i : Nat) : (glue l i).flatten.length ≤ 61 + 62 * i := by
  induction i with
  | zero => have := h 0; simpa [glue] using this
  | succ i ih =>
    have h2 := h (i + 1)
    rw [glue]
    split <;> simp only [List.flatten_append, List.length_append, List.flatten_cons, List.flatten_nil, List.append_nil, List.length_cons, List.length_nil] <;> omega
theorem octOf_len {d : Dt} (hok : d.ok) : (octOf d).length ≤ 1000 := by
  obtain ⟨h1, h2, h3⟩ := layDt_parts hok
  have := glue_tot (l := layDt d) (fun i => by
    by_cases hi : i < (layDt d).length
    · have := h1 _ (List.getElem_mem hi)
      rw [List.getD_eq_getElem?_getD, List.getElem?_eq_getElem hi]; exact this.2
    · rw [List.getD_eq_getElem?_getD, List.getElem?_eq_none (by omega)]; simp) ((layDt d).length - 1)
  unfold octOf joinT
  omega

theorem ln_E8 : True := by
  k_with_none
  (k_with "ite" => first | with_reducible refine ite_tt ?_ | with_reducible refine ite_ff ?_)
  (k_with "execs nil" => (with_reducible refine wpAny_execs_nil ?_; (try dsimp only)))
  (k_with "execs cons" => (k_here; k_dflt (refine seqK ?_; (try dsimp only))))
  (k_with "x lia" => ((try clear cc); (try clear c2); (try clear lf); lia))
  (k_with "x n7" => ((rename News _ _ _ _ => N7); exact N7))
  (k_with "x room" => (first | exact room1 (by assumption) (by rfl) | exact room2 (by assumption) (by rfl) | omega))
  (k_with "x unit" => (first | exact unit1 (by assumption) (by rfl) | exact unit2 (by assumption) (by rfl) | omega))
  (k_with "x got" => ((first | ((with_reducible intro r9 h9 tk9 F9 N9 P9); (first | (obtain ⟨t9, e9⟩ := P9; subst e9) | (subst P9) | skip)) | (with_reducible intro t9 h9 tk9 F9 N9) | (with_reducible intro h9 tk9 F9 N9)); (try k_sweep)))
  (k_with "x one" => (first | (k_unfold; (try dsimp only)) | walk1 | (dsimp only; walk1)))
  (k_with "x g" => ((fail_if_success plain_pass); k_here))
  (k_with "x k" => (k_asm; k_extra "x n7"; k_extra "x ix"))
  (k_with "x c" => (k_extra "x k"; k_extra "x ev"; k_extra "x ev"))
  (k_with "x if" => (k_dflt (k_here; (with_reducible show wpAny _ _ (execs (Stmt.If (PySem.Expr.Compare (PySem.Expr.Name _ _) [CmpOp.Eq] [PySem.Expr.Constant (Const.str _) _ _] _) _ _ _ :: _) _) _ _ _); first | (apply xif_f; k_extra "x c"; exact rfl) | (apply xif_t; k_extra "x c"; exact rfl))))
  (k_with "x stmt" => ((first | k_extra "x if" | refine seqK ?_ | refine wpAny_execs_cons ?_); (repeat' ((fail_if_success (with_reducible refine mark_execs ?_)); k_extra "x one"))))
  (k_with "x steps" => (repeat' k_extra "x one"))
  (k_with "x ix" => (first | exact isX1 rfl | exact isX2 rfl | exact isX3 rfl))
  (k_with "x ev" => (first | exact Ev.str | exact Ev.int | exact Ev.none | exact Ev.bool | (apply Ev.name; exact rfl; exact rfl; exact rfl) | (apply Ev.cell; exact rfl; exact rfl; exact rfl; (first | k_mem | (repeat (first | exact List.mem_cons_self .. | refine List.mem_cons_of_mem _ ?_))); k_asm)))
  (k_with "x evs" => (focus ((repeat' (first | exact Evs.nil | apply Evs.int | (apply Evs.name; exact rfl; exact rfl; exact rfl) | (apply Evs.cell; exact rfl; exact rfl; exact rfl; (first | k_mem | (repeat (first | exact List.mem_cons_self .. | refine List.mem_cons_of_mem _ ?_))); k_asm) | exact Ev.str | exact Ev.none | exact Ev.bool | apply Evs.cons)); done)))
  (k_with "execs cons If" => ((fail_if_success plain_pass); k_extra "x if"))
  (k_with "isTrue Compare" => (k_extra "x g"; (with_reducible show wpAny _ _ (PySem.isTrue (PySem.Expr.Compare _ [_] [_] _) _ _) _ _ _); k_dflt (first | ((with_reducible show wpAny _ _ (PySem.isTrue (PySem.Expr.Compare _ [CmpOp.Eq] [_] _) _ _) _ _ _); apply ist_strL; k_extra "x c") | (apply ist_int; k_extra "x c"; exact rfl))))
  (k_with "eval Call Name" => (k_extra "x g"; k_dflt (first | (apply call_ev; exact rfl; exact rfl; exact rfl; k_extra "x k"; k_extra "x evs"; k_asm; k_asm; k_is; k_is) | (apply bcall_ev; exact rfl; exact rfl; exact rfl; exact rfl; k_extra "x k"; k_extra "x evs"; k_asm; k_asm; k_is; boot_fast; decide))))
  (k_with "callWith" => (k_extra "x g"; k_dflt (apply meth_ev; exact rfl; k_extra "x k"; k_extra "x evs")))
  (k_with "spliced" => (k_extra "x g"; k_dflt (apply args_ev; exact rfl; k_extra "x k"; k_extra "x evs")))
  (k_with "eval Attribute Name" => (k_extra "x g"; k_dflt (apply attr_ev; k_extra "x k"; k_extra "x ev")))
  (k_with "x ho" => ((try simp only [List.nil_append, List.cons_append]); (repeat' (first | (refine off1_of ?_; assumption) | (refine off1_lt ?_; assumption) | (refine off1_all ?_; assumption) | refine And.intro ?_ ?_ | exact trivial | ((show @Ne Nat _ _); omega) | refine off1_app ?_ ?_))))
  (k_with "x hz" => ((try simp only [Array.size_push, List.size_toArray, List.length_cons, List.length_nil, List.length_append]); omega))
  (k_with "x hm" => (repeat (first | exact List.mem_cons_self .. | exact List.mem_append_left _ (by assumption) | refine List.mem_cons_of_mem _ ?_)))
  (k_with "call builtin:list.append" => (k_here; k_dflt ((rename News _ _ _ _ => N7); (first | (refine' append_at [] _ ?zcF N7 ?zho ?zhz ?_) | (refine' append_at [_] _ ?zcF N7 ?zho ?zhz ?_) | (refine' append_at [_, _] _ ?zcF N7 ?zho ?zhz ?_) | (refine' append_at [_, _, _] _ ?zcF N7 ?zho ?zhz ?_)); (case zcF => k_asm); (case zho => k_extra "x ho"); (case zhz => k_extra "x hz"); ((intro h9 F9 N9); (try simp only [List.nil_append, List.cons_append] at N9); (try k_sweep)))))
  (k_with "call builtin:list.extend" => (k_here; k_dflt ((rename News _ _ _ _ => N7); (first | (refine' extend_at [] _ ?zcF N7 ?zhb ?zho ?zhne ?zhz ?_) | (refine' extend_at [_] _ ?zcF N7 ?zhb ?zho ?zhne ?zhz ?_) | (refine' extend_at [_, _] _ ?zcF N7 ?zhb ?zho ?zhne ?zhz ?_) | (refine' extend_at [_, _, _] _ ?zcF N7 ?zhb ?zho ?zhne ?zhz ?_)); (case zcF => k_asm); (case zhb => k_extra "x hm"); (case zho => k_extra "x ho"); (case zhne => k_extra "x hz"); (case zhz => k_extra "x hz"); ((intro h9 F9 N9); (try simp only [List.nil_append, List.cons_append] at N9); (try k_sweep)))))
  (k_with "setItem ref int" => (k_here; k_dflt ((rename News _ _ _ _ => N7); (first | (refine' dset_at (K := Int) (knd := intKind prg _) [] _ ?zcF N7 ?zhd ?zhk ?zho ?zhz ?_; (case zhd => assumption)) | (refine' dset_at (K := Int) (knd := intKind prg _) [_] _ ?zcF N7 ?zhd ?zhk ?zho ?zhz ?_; (case zhd => assumption)) | (refine' dset_at (K := Int) (knd := intKind prg _) [_, _] _ ?zcF N7 ?zhd ?zhk ?zho ?zhz ?_; (case zhd => assumption))); (case zcF => k_asm); (case zhk => exact is_int); (case zho => k_extra "x ho"); (case zhz => omega); ((intro h9 o9 F9 N9 hd9); (try simp only [List.nil_append, List.cons_append] at N9); (try k_sweep)))))
  (k_with "call builtin:list.pop" => (k_here; k_dflt ((rename News _ _ _ _ => N7); (first | (refine' pop_at [] _ ?zcF N7 ?zhi ?zho ?zhne ?zhz ?_; (case zhi => assumption)) | (refine' pop_at [_] _ ?zcF N7 ?zhi ?zho ?zhne ?zhz ?_; (case zhi => assumption))); (case zcF => k_asm); (case zho => k_extra "x ho"); (case zhne => omega); (case zhz => omega); ((intro h9 t9 us9 n9 F9 N9 hI9 hs9); (try simp only [List.nil_append, List.cons_append] at N9); (try k_sweep)))))
  (k_with "truthy ref" => (k_here; k_dflt ((rename News _ _ _ _ => N7); refine' truthy_at N7 ?zhm ?zhz ?_ ?_; (case zhm => k_extra "x hm"); (case zhz => omega)); intro htr))
  trivial
noncomputable def toldLf : Lf → List Dat
  | .null => [.str (Str.ofString "null")]
  | .truth b => [.str (Str.ofString "truth"), .int (if b then 1 else 0)]
  | .int i => [.str (Str.ofString "int"), .int i]
  | .real a b => [.str (Str.ofString "real"), .int a, .int b]
  | .name x => [.str (Str.ofString "name"), .str x]
  | .str o _ => [.str (Str.ofString "string"), .bytes o]
  | .ref a b => [.str (Str.ofString "ref"), .int a, .int b]
theorem tv_dat {news : Led} {l : Lf} {vs : List Value} (h : TV l vs) : DatAll news vs (toldLf l) := by
  cases l with
  | null => obtain ⟨t, rfl⟩ := h; exact .cons (.str _ _) .nil
  | truth b => obtain ⟨t, u, rfl⟩ := h; exact .cons (.str _ _) (.cons (.int _ _) .nil)
  | int i => obtain ⟨t, u, rfl⟩ := h; exact .cons (.str _ _) (.cons (.int _ _) .nil)
  | real a b => obtain ⟨t, u, v, rfl⟩ := h; exact .cons (.str _ _) (.cons (.int _ _) (.cons (.int _ _) .nil))
  | name x => obtain ⟨t, u, rfl⟩ := h; exact .cons (.str _ _) (.cons (.str _ _) .nil)
  | str o b => obtain ⟨t, u, rfl⟩ := h; exact .cons (.str _ _) (.cons (.bytes _ _) .nil)
  | ref a b => obtain ⟨t, u, v, rfl⟩ := h; exact .cons (.str _ _) (.cons (.int _ _) (.cons (.int _ _) .nil))
noncomputable def notNull : Lf → Bool
  | .null => false
  | _ => true
noncomputable def toldEnt (p : Str × Lf) : List Dat := if notNull p.2 then [.tuple [.str p.1, .tuple (toldLf p.2)]] else []
noncomputable def toldDt : Dt → List Dat
  | .leaf l => toldLf l
  | .arr ls => .str (Str.ofString "array") :: ls.map (fun l => Dat.tuple (toldLf l))
  | .dict es => .str (Str.ofString "dict") :: es.flatMap toldEnt
theorem toldDt_ok (d : Dt) : dOk 3 (.tuple (toldDt d)) = true := by
  cases d with
  | leaf l => cases l <;> rfl
  | arr ls =>
    show ((Dat.str (Str.ofString "array")) :: ls.map (fun l => Dat.tuple (toldLf l))).all (dOk 2) = true
    rw [List.all_eq_true]
    intro x hx
    rcases List.mem_cons.mp hx with rfl | hx
    · rfl
    · obtain ⟨l, _, rfl⟩ := List.mem_map.mp hx
      cases l <;> rfl
  | dict es =>
    show ((Dat.str (Str.ofString "dict")) :: es.flatMap toldEnt).all (dOk 2) = true
    rw [List.all_eq_true]
    intro x hx
    rcases List.mem_cons.mp hx with rfl | hx
    · rfl
    · obtain ⟨⟨k, l⟩, _, hx⟩ := List.mem_flatMap.mp hx
      unfold toldEnt at hx
      split at hx
      · rw [List.mem_singleton.mp hx]; cases l <;> rfl
      · exact absurd hx List.not_mem_nil
section
variable {prog : Program} {w : World} {A : Around} {E : Value → Shared → Prop} {s : Shared} {h₀ : Heap} {L t b : Addr} {m : Str → Option Value} {news : Led}
theorem tupOf {vs : List Value} {n : Nat} {Q : Value → Shared → Prop} (F : Fr h₀ L s.heap m) (N : News h₀ L s.heap news) (hb : (b, W.listOf vs.toArray n) ∈ news) (hz : vs.length ≤ 16384)
    (h : ∀ D h', Fr h₀ L h' m → News h₀ L h' ((D, tupObj vs) :: news) → (∀ p ∈ news, p.1 < D) → Q (.ref D) { s with heap := h' }) : wpAny (model prog w) A (call (.type "tuple") [.ref b]) Q E s :=
  kde_tupleOf F N ⟨_, (N _ hb).1, rfl, _, rfl⟩ (by rw [List.size_toArray]; exact hz) (by simp) h
theorem tup_cat {vs us : List Value} {Q : Value → Shared → Prop} (F : Fr h₀ L s.heap m) (N : News h₀ L s.heap news) (m1 : (t, tupObj vs) ∈ news) (m2 : (b, tupObj us) ∈ news) (hv : vs ≠ []) (hz : vs.length + us.length ≤ 16384)
    (h : ∀ D h' add, Fr h₀ L h' m → News h₀ L h' (add ++ news) → (D, tupObj (vs ++ us)) ∈ add ++ [(t, tupObj vs)] → (∀ q ∈ news, ∀ p ∈ add, q.1 < p.1) → Q (.ref D) { s with heap := h' }) : wpAny (model prog w) A (binaryOp .Add (.ref t) (.ref b)) Q E s := by
  have i1 : IsTup s.heap t vs.toArray := ⟨_, (N _ m1).1, rfl, _, rfl⟩
  have i2 : IsTup s.heap b us.toArray := ⟨_, (N _ m2).1, rfl, _, rfl⟩
  by_cases hu : us = []
  · subst hu
    refine kde_addT1 F N i1 i2 (by simpa using hv) (by simp) (by simpa using hz) ?_
    exact h t s.heap [] F N (by rw [List.append_nil]; exact .head _) (fun _ _ _ h => nomatch h)
  · refine kde_addT F N i1 i2 (by simpa using hv) (by simpa using hu) (by simpa using hz) (zs := vs ++ us) (by simp) fun D h' F' N' l' => ?_
    exact h D h' [(D, tupObj (vs ++ us))] F' N' (.head _) fun q hq p hp => by rw [List.mem_singleton.mp hp]; exact l' q hq
end
theorem told_plain_m {w : World} {v : Value} {l : Lf} {t : Tok} {rest news : Led} (R : LfIn rest v l) (hs : ∀ p ∈ rest, p ∈ news) : Does w 272 [.str l.kind t, v] 2 [] news (fun r _ tl => Ex2 fun T vs => An3 (r = .ref T) (tl = [(T, tupObj vs)]) (TV l vs)) := told_plain_d (R.mono hs)
theorem kind_lf_m {w : World} {v : Value} {l : Lf} {rest news : Led} (R : LfIn rest v l) (hs : ∀ p ∈ rest, p ∈ news) : Does w 265 [v] 1 [] news (fun r _ tl => tl = [] ∧ ∃ tk, r = .str l.kind tk) := kind_lf (R.mono hs)
theorem ln_E8_1 : True := by
  (k_with "call ref" => (k_here; k_dflt ((refine' Does.useT (kind_lf_m ?zR ?zhs) ?zcB ?zcF ?zcX ?zcN ?zcT ?zchd ?zchu ?_); (case zcF => k_asm); (case zcN => k_extra "x n7"); (case zcB => assumption); (case zcX => assumption); (case zcT => assumption); (case zchd => k_extra "x room"); (case zchu => k_extra "x unit"); (case zR => assumption); (case zhs => exact fun _ h => .tail _ h); ((intro r9 tl9 h9 tk9 F9 N9 o9 P9); (obtain ⟨z0, t9, z1⟩ := P9); (subst z0); (subst z1); (try simp only [List.nil_append, List.cons_append] at N9 o9); (try k_sweep); skip))))
  trivial
theorem ln_E8_2 : True := by
  (k_with "call ref" => (k_here; k_dflt ((refine' Does.useT (told_plain_m ?zR ?zhs) ?zcB ?zcF ?zcX ?zcN ?zcT ?zchd ?zchu ?_); (case zcF => k_asm); (case zcN => k_extra "x n7"); (case zcB => assumption); (case zcX => assumption); (case zcT => assumption); (case zchd => k_extra "x room"); (case zchu => k_extra "x unit"); (case zR => assumption); (case zhs => exact fun _ h => .tail _ h); ((intro r9 tl9 h9 tk9 F9 N9 o9 P9); (obtain ⟨T9, vs9, z0, z1, hT9⟩ := P9); (subst z0); (subst z1); (try simp only [List.nil_append, List.cons_append] at N9 o9); (try k_sweep); skip))))
  trivial
theorem ln_E8_3 : True := by
  (k_with "compareOp Eq str str" => (k_here; (with_reducible refine lfk_ne ?zhy ?_); (case zhy => decide)))
  trivial
theorem told_leaf_d {w : World} {v : Value} {l : Lf} {rest : Led} (R : LfIn rest v l) : Does w 277 [v] 3 [] rest (fun r _ tl => (∃ T, r = .ref T) ∧ DatIn tl r (.tuple (toldLf l))) := by
  refine' Does.ofC (binds := [(Str.ofString "value", v)]) (al := []) (cm := lkm [(Str.ofString "value", some (v))]) ?k6 ?kb ?ks ?k7 ?k9 ?kB ?knd ?c3 ?c4 ?c5 ?lv ?kal ?kcm ?kcf ?_
  (case k6 => k_dflt k_is); (case kb => conv => lhs; whnf); (case ks => conv => lhs; whnf); (case k7 => k_dflt k_is); (case k9 => exact rfl); (case kB => exact rfl); (case knd => decide); (case c3 => exact rfl); (case c4 => exact rfl); (case c5 => exact rfl); (case lv => decide); (case kal => exact fun _ => rfl); (case kcm => exact fun _ => rfl); (case kcf => exact fun _ => rfl)
  intro mean mg mb dp un outer base g L s cells E F N C hap B X T hlt hdp hun
  obtain ⟨o1, hcells, d1⟩ := CellsAre.one C; subst hcells; clear C
  (try simp only [List.nil_append, List.cons_append] at N hlt)
  k_fold
  ((first | replace d1 : _ = Data.cell (some _) := d1 | replace d1 : _ = Data.cell none := d1))
  k_extra "x steps"
  ((rename Fr g L _ _ => F8); (rename News g L _ _ => N8))
  rename ∀ q ∈ _ :: rest, ∀ p ∈ _, _ => o9
  exact ⟨_, [], [(_, _)], _, _, rfl, F8, news_cell N8, rfl, (fun q hq => o9 q (.tail _ hq)), ⟨_, rfl⟩, .tuple (.head _) (tv_dat (by assumption))⟩

theorem ln_E7 : True := by
  k_with_none
  (k_with "ite" => first | with_reducible refine ite_tt ?_ | with_reducible refine ite_ff ?_)
  (k_with "execs nil" => (with_reducible refine wpAny_execs_nil ?_; (try dsimp only)))
  (k_with "execs cons" => (k_here; k_dflt (refine seqK ?_; (try dsimp only))))
  (k_with "x lia" => ((try clear cc); (try clear c2); (try clear lf); lia))
  (k_with "x n7" => ((rename News _ _ _ _ => N7); exact N7))
  (k_with "x room" => (first | exact room1 (by assumption) (by rfl) | exact room2 (by assumption) (by rfl) | omega))
  (k_with "x unit" => (first | exact unit1 (by assumption) (by rfl) | exact unit2 (by assumption) (by rfl) | omega))
  (k_with "x got" => ((first | ((with_reducible intro r9 h9 tk9 F9 N9 P9); (first | (obtain ⟨t9, e9⟩ := P9; subst e9) | (subst P9) | skip)) | (with_reducible intro t9 h9 tk9 F9 N9) | (with_reducible intro h9 tk9 F9 N9)); (try k_sweep)))
  (k_with "x one" => (first | (k_unfold; (try dsimp only)) | walk1 | (dsimp only; walk1)))
  (k_with "x g" => ((fail_if_success plain_pass); k_here))
  (k_with "x k" => (k_asm; k_extra "x n7"; k_extra "x ix"))
  (k_with "x c" => (k_extra "x k"; k_extra "x ev"; k_extra "x ev"))
  (k_with "x if" => (k_dflt (k_here; (with_reducible show wpAny _ _ (execs (Stmt.If (PySem.Expr.Compare (PySem.Expr.Name _ _) [CmpOp.Eq] [PySem.Expr.Constant (Const.str _) _ _] _) _ _ _ :: _) _) _ _ _); first | (apply xif_f; k_extra "x c"; exact rfl) | (apply xif_t; k_extra "x c"; exact rfl))))
  (k_with "x stmt" => ((first | k_extra "x if" | refine seqK ?_ | refine wpAny_execs_cons ?_); (repeat' ((fail_if_success (with_reducible refine mark_execs ?_)); k_extra "x one"))))
  (k_with "x steps" => (repeat' k_extra "x one"))
  (k_with "x ix" => (first | exact isX1 rfl | exact isX2 rfl | exact isX3 rfl))
  (k_with "x ev" => (first | exact Ev.str | exact Ev.int | exact Ev.none | exact Ev.bool | (apply Ev.name; exact rfl; exact rfl; exact rfl) | (apply Ev.cell; exact rfl; exact rfl; exact rfl; (first | k_mem | (repeat (first | exact List.mem_cons_self .. | refine List.mem_cons_of_mem _ ?_))); k_asm)))
  (k_with "x evs" => (focus ((repeat' (first | exact Evs.nil | apply Evs.int | (apply Evs.name; exact rfl; exact rfl; exact rfl) | (apply Evs.cell; exact rfl; exact rfl; exact rfl; (first | k_mem | (repeat (first | exact List.mem_cons_self .. | refine List.mem_cons_of_mem _ ?_))); k_asm) | exact Ev.str | exact Ev.none | exact Ev.bool | apply Evs.cons)); done)))
  (k_with "execs cons If" => ((fail_if_success plain_pass); k_extra "x if"))
  (k_with "isTrue Compare" => (k_extra "x g"; (with_reducible show wpAny _ _ (PySem.isTrue (PySem.Expr.Compare _ [_] [_] _) _ _) _ _ _); k_dflt (first | ((with_reducible show wpAny _ _ (PySem.isTrue (PySem.Expr.Compare _ [CmpOp.Eq] [_] _) _ _) _ _ _); apply ist_strL; k_extra "x c") | (apply ist_int; k_extra "x c"; exact rfl))))
  (k_with "eval Call Name" => (k_extra "x g"; k_dflt (first | (apply call_ev; exact rfl; exact rfl; exact rfl; k_extra "x k"; k_extra "x evs"; k_asm; k_asm; k_is; k_is) | (apply bcall_ev; exact rfl; exact rfl; exact rfl; exact rfl; k_extra "x k"; k_extra "x evs"; k_asm; k_asm; k_is; boot_fast; decide))))
  (k_with "callWith" => (k_extra "x g"; k_dflt (apply meth_ev; exact rfl; k_extra "x k"; k_extra "x evs")))
  (k_with "spliced" => (k_extra "x g"; k_dflt (apply args_ev; exact rfl; k_extra "x k"; k_extra "x evs")))
  (k_with "eval Attribute Name" => (k_extra "x g"; k_dflt (apply attr_ev; k_extra "x k"; k_extra "x ev")))
  (k_with "x ho" => ((try simp only [List.nil_append, List.cons_append]); (repeat' (first | (refine off1_of ?_; assumption) | (refine off1_lt ?_; assumption) | (refine off1_all ?_; assumption) | refine And.intro ?_ ?_ | exact trivial | ((show @Ne Nat _ _); omega) | refine off1_app ?_ ?_))))
  (k_with "x hz" => ((try simp only [Array.size_push, List.size_toArray, List.length_cons, List.length_nil, List.length_append]); omega))
  (k_with "x hm" => (repeat (first | exact List.mem_cons_self .. | exact List.mem_append_left _ (by assumption) | refine List.mem_cons_of_mem _ ?_)))
  (k_with "call builtin:list.append" => (k_here; k_dflt ((rename News _ _ _ _ => N7); (first | (refine' append_at [] _ ?zcF N7 ?zho ?zhz ?_) | (refine' append_at [_] _ ?zcF N7 ?zho ?zhz ?_) | (refine' append_at [_, _] _ ?zcF N7 ?zho ?zhz ?_) | (refine' append_at [_, _, _] _ ?zcF N7 ?zho ?zhz ?_)); (case zcF => k_asm); (case zho => k_extra "x ho"); (case zhz => k_extra "x hz"); ((intro h9 F9 N9); (try simp only [List.nil_append, List.cons_append] at N9); (try k_sweep)))))
  (k_with "call builtin:list.extend" => (k_here; k_dflt ((rename News _ _ _ _ => N7); (first | (refine' extend_at [] _ ?zcF N7 ?zhb ?zho ?zhne ?zhz ?_) | (refine' extend_at [_] _ ?zcF N7 ?zhb ?zho ?zhne ?zhz ?_) | (refine' extend_at [_, _] _ ?zcF N7 ?zhb ?zho ?zhne ?zhz ?_) | (refine' extend_at [_, _, _] _ ?zcF N7 ?zhb ?zho ?zhne ?zhz ?_)); (case zcF => k_asm); (case zhb => k_extra "x hm"); (case zho => k_extra "x ho"); (case zhne => k_extra "x hz"); (case zhz => k_extra "x hz"); ((intro h9 F9 N9); (try simp only [List.nil_append, List.cons_append] at N9); (try k_sweep)))))
  (k_with "setItem ref int" => (k_here; k_dflt ((rename News _ _ _ _ => N7); (first | (refine' dset_at (K := Int) (knd := intKind prg _) [] _ ?zcF N7 ?zhd ?zhk ?zho ?zhz ?_; (case zhd => assumption)) | (refine' dset_at (K := Int) (knd := intKind prg _) [_] _ ?zcF N7 ?zhd ?zhk ?zho ?zhz ?_; (case zhd => assumption)) | (refine' dset_at (K := Int) (knd := intKind prg _) [_, _] _ ?zcF N7 ?zhd ?zhk ?zho ?zhz ?_; (case zhd => assumption))); (case zcF => k_asm); (case zhk => exact is_int); (case zho => k_extra "x ho"); (case zhz => omega); ((intro h9 o9 F9 N9 hd9); (try simp only [List.nil_append, List.cons_append] at N9); (try k_sweep)))))
  (k_with "call builtin:list.pop" => (k_here; k_dflt ((rename News _ _ _ _ => N7); (first | (refine' pop_at [] _ ?zcF N7 ?zhi ?zho ?zhne ?zhz ?_; (case zhi => assumption)) | (refine' pop_at [_] _ ?zcF N7 ?zhi ?zho ?zhne ?zhz ?_; (case zhi => assumption))); (case zcF => k_asm); (case zho => k_extra "x ho"); (case zhne => omega); (case zhz => omega); ((intro h9 t9 us9 n9 F9 N9 hI9 hs9); (try simp only [List.nil_append, List.cons_append] at N9); (try k_sweep)))))
  (k_with "truthy ref" => (k_here; k_dflt ((rename News _ _ _ _ => N7); refine' truthy_at N7 ?zhm ?zhz ?_ ?_; (case zhm => k_extra "x hm"); (case zhz => omega)); intro htr))
  trivial
theorem kind_ne {prog : Program} {w : World} {A : Around} {E : Value → Shared → Prop} {s : Shared} {d : Dt} {t u : Tok} {Q : Value → Shared → Prop} (h : Q (.bool true) s) : wpAny (model prog w) A (compareOp .NotEq (.str d.kind t) (.str (Str.ofString "stream") u)) Q E s := by
  refine ne_str ?_
  have e : (d.kind != Str.ofString "stream") = true := by
    cases d with
    | leaf l => cases l <;> rfl
    | arr _ => rfl
    | dict _ => rfl
  rw [e]; exact h
theorem ln_E7_1 : True := by
  (k_with "call ref" => (k_here; k_dflt ((refine' Does.useT (depth_of_d ?zR ?zok) ?zcB ?zcF ?zcX ?zcN ?zcT ?zchd ?zchu ?_); (case zcF => k_asm); (case zcN => k_extra "x n7"); (case zcB => assumption); (case zcX => assumption); (case zcT => assumption); (case zchd => k_extra "x room"); (case zchu => k_extra "x unit"); (case zR => assumption); (case zok => assumption); ((intro r9 tl9 h9 tk9 F9 N9 o9 P9); (obtain ⟨z0, n9, t9, z1, hn9⟩ := P9); (subst z0); (subst z1); (try simp only [List.nil_append, List.cons_append] at N9 o9); (try k_sweep); skip))))
  trivial
theorem ln_E7_2 : True := by
  (k_with "call ref" => (k_here; k_dflt ((first | refine' Does.use0E (kind_dt' ?zp0) ?zcB ?zcF ?zcX ?zcN ?zcT ?zchd ?zchu ?_ | refine' Does.use0V (kind_dt' ?zp0) ?zcB ?zcF ?zcX ?zcN ?zcT ?zchd ?zchu ?_ | refine' Does.use0 (kind_dt' ?zp0) ?zcB ?zcF ?zcX ?zcN ?zcT ?zchd ?zchu ?_); (case zcB => assumption); (case zcF => k_asm); (case zcX => assumption); (case zcN => k_asm); (case zcT => assumption); (case zchd => k_extra "x room"); (case zchu => k_extra "x unit"); (case zp0 => assumption); (k_extra "x got"); (try simp only [Lf.kind, Dt.kind]))))
  trivial
theorem ln_E7_3 : True := by
  (k_with "compareOp NotEq str str" => (k_here; k_dflt (refine kind_ne ?_)))
  trivial
theorem ln_E7_4 : True := by
  (k_with "call ref" => (k_here; k_dflt ((first | (refine' Does.useAt [] _ (lay_dt_d ?zR ?zhok ?zhp ?zhl) ?zcB ?zcF ?zcX ?zcN ?zcT ?zcA ?zchd ?zchu ?_; (case zcN => k_extra "x n7"))); (case zcB => assumption); (case zcF => k_asm); (case zcX => assumption); (case zcT => assumption); (case zchd => k_extra "x room"); (case zchu => k_extra "x unit"); (case zR => assumption); (case zhok => assumption); (case zhp => exact Nat.zero_le _); (case zhl => exact All2.nil); (case zcA => (first | (intro q9 hq9; exact absurd hq9 List.not_mem_nil) | (refine apart1 ?_; (try simp only [List.nil_append, List.cons_append]); (repeat' (first | (refine off1_of ?_; assumption) | refine And.intro ?_ ?_ | exact trivial | ((show @Ne Nat _ _); omega) | refine off1_app ?_ ?_))))); ((intro r9 mu9 tl9 h9 tk9 F9 N9 e9 o9 P9); (obtain ⟨z0, z1, ps9, np9, z2, hb9, hs9⟩ := P9); (subst z0); (subst z1); (subst z2); (simp only [List.nil_append, List.cons_append] at N9 o9); (try k_sweep); (simp only [List.nil_append] at hb9)))))
  trivial
theorem ln_E7_5 : True := by
  (k_with "call ref" => (k_here; k_dflt ((first | refine' Does.use0E (joined_parts_d ?zp0 ?zp1 ?zp2 ?zp3 ?zp4) ?zcB ?zcF ?zcX ?zcN ?zcT ?zchd ?zchu ?_ | refine' Does.use0V (joined_parts_d ?zp0 ?zp1 ?zp2 ?zp3 ?zp4) ?zcB ?zcF ?zcX ?zcN ?zcT ?zchd ?zchu ?_ | refine' Does.use0 (joined_parts_d ?zp0 ?zp1 ?zp2 ?zp3 ?zp4) ?zcB ?zcF ?zcX ?zcN ?zcT ?zchd ?zchu ?_); (case zcB => assumption); (case zcF => k_asm); (case zcX => assumption); (case zcN => k_asm); (case zcT => assumption); (case zchd => k_extra "x room"); (case zchu => k_extra "x unit"); (case zp0 => first | exact List.mem_cons_self .. | assumption | omega); (case zp1 => first | exact List.mem_cons_self .. | assumption | omega); (case zp2 => first | exact List.mem_cons_self .. | assumption | omega); (case zp3 => first | exact List.mem_cons_self .. | assumption | omega); (case zp4 => first | exact List.mem_cons_self .. | assumption | omega); (k_extra "x got"))))
  trivial
theorem write_object_d {w : World} {v : Value} {d : Dt} {rest : Led} (R : DtIn w rest v d) (hok : d.ok) : Does w 501 [v, .bool true] 16 [] rest (fun r _ tl => tl = [] ∧ ∃ tk, r = .bytes (byteArr (octOf d)) tk) := by
  obtain ⟨hq1, hq2, hq3⟩ := layDt_parts hok
  have hq4 : ∀ ns ∈ layDt d, 0 < ns.length ∧ ns.length ≤ 500 := fun ns h => ⟨(hq1 ns h).1, Nat.le_trans (hq1 ns h).2 (by decide)⟩
  refine' Does.of (binds := [(Str.ofString "value", v), (Str.ofString "is_least", .bool true)]) (al := [(Str.ofString "is_least", some (.bool true)), (Str.ofString "value", some (v))]) ?k6 ?kb ?ks ?k7 ?k9 ?kB ?c5 ?c2 ?c3 ?c4 ?lv ?kal ?_
  (case k6 => k_dflt k_is); (case kb => conv => lhs; whnf); (case ks => conv => lhs; whnf); (case k7 => k_dflt k_is); (case k9 => exact rfl); (case kB => exact locs rfl); (case c5 => decide); (case c2 => exact rfl); (case c3 => exact rfl); (case c4 => exact rfl); (case lv => decide); (case kal => exact rfl)
  intro mean mg mb dp un outer base g L s E F N hap B X T hlt hdp hun
  (try simp only [List.nil_append, List.cons_append] at N hlt)
  k_fold
  k_extra "x stmt"
  k_extra "x stmt"
  rename ∀ p ∈ rest, _ < _ => l1
  have hap9 : ∀ p ∈ rest, p.1 ≠ _ := fun p hp => Nat.ne_of_lt (l1 p hp)
  k_extra "x steps"
  ((rename Fr g L _ _ => F8); (rename News g L _ _ => N8))
  exact ⟨_, [], [], _, _, rfl, F8, fun p hp => N8 p (by grind), rfl, (fun _ _ _ h => nomatch h), rfl, _, rfl⟩

theorem ln_E9 : True := by
  k_with_none
  (k_with "ite" => first | with_reducible refine ite_tt ?_ | with_reducible refine ite_ff ?_)
  (k_with "execs nil" => (with_reducible refine wpAny_execs_nil ?_; (try dsimp only)))
  (k_with "execs cons" => (k_here; k_dflt (refine seqK ?_; (try dsimp only))))
  (k_with "x lia" => ((try clear cc); (try clear c2); (try clear lf); lia))
  (k_with "x n7" => ((rename News _ _ _ _ => N7); exact N7))
  (k_with "x room" => (first | exact room1 (by assumption) (by rfl) | exact room2 (by assumption) (by rfl) | omega))
  (k_with "x unit" => (first | exact unit1 (by assumption) (by rfl) | exact unit2 (by assumption) (by rfl) | omega))
  (k_with "x got" => ((first | ((with_reducible intro r9 h9 tk9 F9 N9 P9); (first | (obtain ⟨t9, e9⟩ := P9; subst e9) | (subst P9) | skip)) | (with_reducible intro t9 h9 tk9 F9 N9) | (with_reducible intro h9 tk9 F9 N9)); (try k_sweep)))
  (k_with "x one" => (first | (k_unfold; (try dsimp only)) | walk1 | (dsimp only; walk1)))
  (k_with "x g" => ((fail_if_success plain_pass); k_here))
  (k_with "x k" => (k_asm; k_extra "x n7"; k_extra "x ix"))
  (k_with "x c" => (k_extra "x k"; k_extra "x ev"; k_extra "x ev"))
  (k_with "x if" => (k_dflt (k_here; (with_reducible show wpAny _ _ (execs (Stmt.If (PySem.Expr.Compare (PySem.Expr.Name _ _) [CmpOp.Eq] [PySem.Expr.Constant (Const.str _) _ _] _) _ _ _ :: _) _) _ _ _); first | (apply xif_f; k_extra "x c"; exact rfl) | (apply xif_t; k_extra "x c"; exact rfl))))
  (k_with "x stmt" => ((first | k_extra "x if" | refine seqK ?_ | refine wpAny_execs_cons ?_); (repeat' ((fail_if_success (with_reducible refine mark_execs ?_)); k_extra "x one"))))
  (k_with "x steps" => (repeat' k_extra "x one"))
  (k_with "x ix" => (first | exact isX1 rfl | exact isX2 rfl | exact isX3 rfl))
  (k_with "x ev" => (first | exact Ev.str | exact Ev.int | exact Ev.none | exact Ev.bool | (apply Ev.name; exact rfl; exact rfl; exact rfl) | (apply Ev.cell; exact rfl; exact rfl; exact rfl; (first | k_mem | (repeat (first | exact List.mem_cons_self .. | refine List.mem_cons_of_mem _ ?_))); k_asm)))
  (k_with "x evs" => (focus ((repeat' (first | exact Evs.nil | apply Evs.int | (apply Evs.name; exact rfl; exact rfl; exact rfl) | (apply Evs.cell; exact rfl; exact rfl; exact rfl; (first | k_mem | (repeat (first | exact List.mem_cons_self .. | refine List.mem_cons_of_mem _ ?_))); k_asm) | exact Ev.str | exact Ev.none | exact Ev.bool | apply Evs.cons)); done)))
  (k_with "execs cons If" => ((fail_if_success plain_pass); k_extra "x if"))
  (k_with "isTrue Compare" => (k_extra "x g"; (with_reducible show wpAny _ _ (PySem.isTrue (PySem.Expr.Compare _ [_] [_] _) _ _) _ _ _); k_dflt (first | ((with_reducible show wpAny _ _ (PySem.isTrue (PySem.Expr.Compare _ [CmpOp.Eq] [_] _) _ _) _ _ _); apply ist_strL; k_extra "x c") | (apply ist_int; k_extra "x c"; exact rfl))))
  (k_with "eval Call Name" => (k_extra "x g"; k_dflt (first | (apply call_ev; exact rfl; exact rfl; exact rfl; k_extra "x k"; k_extra "x evs"; k_asm; k_asm; k_is; k_is) | (apply bcall_ev; exact rfl; exact rfl; exact rfl; exact rfl; k_extra "x k"; k_extra "x evs"; k_asm; k_asm; k_is; boot_fast; decide))))
  (k_with "callWith" => (k_extra "x g"; k_dflt (apply meth_ev; exact rfl; k_extra "x k"; k_extra "x evs")))
  (k_with "spliced" => (k_extra "x g"; k_dflt (apply args_ev; exact rfl; k_extra "x k"; k_extra "x evs")))
  (k_with "eval Attribute Name" => (k_extra "x g"; k_dflt (apply attr_ev; k_extra "x k"; k_extra "x ev")))
  (k_with "x ho" => ((try simp only [List.nil_append, List.cons_append]); (repeat' (first | (refine off1_of ?_; assumption) | (refine off1_lt ?_; assumption) | (refine off1_all ?_; assumption) | refine And.intro ?_ ?_ | exact trivial | ((show @Ne Nat _ _); omega) | refine off1_app ?_ ?_))))
  (k_with "x hz" => ((try simp only [Array.size_push, List.size_toArray, List.length_cons, List.length_nil, List.length_append]); omega))
  (k_with "x hm" => (repeat (first | exact List.mem_cons_self .. | exact List.mem_append_left _ (by assumption) | refine List.mem_cons_of_mem _ ?_)))
  (k_with "call builtin:list.append" => (k_here; k_dflt ((rename News _ _ _ _ => N7); (first | (refine' append_at [] _ ?zcF N7 ?zho ?zhz ?_) | (refine' append_at [_] _ ?zcF N7 ?zho ?zhz ?_) | (refine' append_at [_, _] _ ?zcF N7 ?zho ?zhz ?_) | (refine' append_at [_, _, _] _ ?zcF N7 ?zho ?zhz ?_)); (case zcF => k_asm); (case zho => k_extra "x ho"); (case zhz => k_extra "x hz"); ((intro h9 F9 N9); (try simp only [List.nil_append, List.cons_append] at N9); (try k_sweep)))))
  (k_with "call builtin:list.extend" => (k_here; k_dflt ((rename News _ _ _ _ => N7); (first | (refine' extend_at [] _ ?zcF N7 ?zhb ?zho ?zhne ?zhz ?_) | (refine' extend_at [_] _ ?zcF N7 ?zhb ?zho ?zhne ?zhz ?_) | (refine' extend_at [_, _] _ ?zcF N7 ?zhb ?zho ?zhne ?zhz ?_) | (refine' extend_at [_, _, _] _ ?zcF N7 ?zhb ?zho ?zhne ?zhz ?_)); (case zcF => k_asm); (case zhb => k_extra "x hm"); (case zho => k_extra "x ho"); (case zhne => k_extra "x hz"); (case zhz => k_extra "x hz"); ((intro h9 F9 N9); (try simp only [List.nil_append, List.cons_append] at N9); (try k_sweep)))))
  (k_with "setItem ref int" => (k_here; k_dflt ((rename News _ _ _ _ => N7); (first | (refine' dset_at (K := Int) (knd := intKind prg _) [] _ ?zcF N7 ?zhd ?zhk ?zho ?zhz ?_; (case zhd => assumption)) | (refine' dset_at (K := Int) (knd := intKind prg _) [_] _ ?zcF N7 ?zhd ?zhk ?zho ?zhz ?_; (case zhd => assumption)) | (refine' dset_at (K := Int) (knd := intKind prg _) [_, _] _ ?zcF N7 ?zhd ?zhk ?zho ?zhz ?_; (case zhd => assumption))); (case zcF => k_asm); (case zhk => exact is_int); (case zho => k_extra "x ho"); (case zhz => omega); ((intro h9 o9 F9 N9 hd9); (try simp only [List.nil_append, List.cons_append] at N9); (try k_sweep)))))
  (k_with "call builtin:list.pop" => (k_here; k_dflt ((rename News _ _ _ _ => N7); (first | (refine' pop_at [] _ ?zcF N7 ?zhi ?zho ?zhne ?zhz ?_; (case zhi => assumption)) | (refine' pop_at [_] _ ?zcF N7 ?zhi ?zho ?zhne ?zhz ?_; (case zhi => assumption))); (case zcF => k_asm); (case zho => k_extra "x ho"); (case zhne => omega); (case zhz => omega); ((intro h9 t9 us9 n9 F9 N9 hI9 hs9); (try simp only [List.nil_append, List.cons_append] at N9); (try k_sweep)))))
  (k_with "truthy ref" => (k_here; k_dflt ((rename News _ _ _ _ => N7); refine' truthy_at N7 ?zhm ?zhz ?_ ?_; (case zhm => k_extra "x hm"); (case zhz => omega)); intro htr))
  trivial
theorem fx2 {g h : Heap} {L : Addr} {a b : Addr × Obj} {r : Led} (N : News g L h (a :: b :: r)) : ∃ fx : Led, fx = [a, b] ∧ News g L h (fx ++ r) := ⟨_, rfl, N⟩
theorem snd_ex {g h : Heap} {L : Addr} {a b : Addr × Obj} {r : Led} (N : News g L h (a :: b :: r)) : ∃ e, e = b ∧ News g L h (a :: e :: r) := ⟨_, rfl, N⟩
theorem news_c9 {g h : Heap} {L : Addr} {i c d : Addr × Obj} {t acc r : Led} (fx : Led) (N : News g L h (t ++ (i :: c :: d :: (fx ++ (acc ++ r))))) : News g L h (i :: c :: d :: (fx ++ ((t ++ acc) ++ r))) := (nC (nH (nR N)) (nC (nH (nT (nR N))) (nC (nH (nT (nT (nR N)))) (nA (nL (nT (nT (nT (nR N))))) (nA (nA (nL N) (nL (nR (nT (nT (nT (nR N))))))) (nR (nR (nT (nT (nT (nR N)))))))))))
theorem off3_ins2 {I C D : Addr} {t acc r : Led} (fx : Led) (h : PyProof.Rows.LCg.Off3 I C D (fx ++ (acc ++ r))) (ht : ∀ p ∈ t, p.1 ≠ I ∧ p.1 ≠ C ∧ p.1 ≠ D) : PyProof.Rows.LCg.Off3 I C D (fx ++ ((t ++ acc) ++ r)) := by
  refine off3_of fun p hp => ?_
  have hm := PyProof.Rows.LCg.Off3.mem h
  simp only [List.mem_append] at hp hm
  rcases hp with hp | (hp | hp) | hp
  · exact hm p (.inl hp)
  · exact ht p hp
  · exact hm p (.inr (.inl hp))
  · exact hm p (.inr (.inr hp))
theorem new_off2 {i c d : Addr × Obj} {t acc r : Led} (fx : Led) (o : ∀ q ∈ i :: c :: d :: (fx ++ (acc ++ r)), ∀ p ∈ t, q.1 ≠ p.1) : (∀ p ∈ t, p.1 ≠ i.1 ∧ p.1 ≠ c.1 ∧ p.1 ≠ d.1) ∧ (∀ q ∈ r, ∀ p ∈ t, q.1 ≠ p.1) :=
  ⟨fun p hp => ⟨(o _ (.head _) p hp).symm, (o _ (.tail _ (.head _)) p hp).symm, (o _ (.tail _ (.tail _ (.head _))) p hp).symm⟩,
   fun q hq p hp => o _ (.tail _ (.tail _ (.tail _ (List.mem_append.mpr (.inr (List.mem_append.mpr (.inr hq))))))) p hp⟩
theorem news_t1 {g h : Heap} {L : Addr} {add acc r : Led} {a d t c : Addr × Obj} (N : News g L h (add ++ a :: d :: t :: c :: (acc ++ r))) : News g L h ([] ++ ((add ++ a :: t :: acc) ++ r)) := (nA nN (nA (nA (nL N) (nC (nH (nR N)) (nC (nH (nT (nT (nR N)))) (nL (nT (nT (nT (nT (nR N))))))))) (nR (nT (nT (nT (nT (nR N))))))))
theorem ord_t1 {add acc r : Led} {a d t c : Addr × Obj} (h1 : ∀ q ∈ a :: d :: t :: c :: (acc ++ r), ∀ p ∈ add, q.1 < p.1) (h2 : ∀ p ∈ d :: t :: c :: (acc ++ r), p.1 < a.1) (h3 : AllLt t.1 r) (h4 : ∀ q ∈ r, ∀ p ∈ acc, q.1 ≠ p.1) : ∀ q ∈ [] ++ r, ∀ p ∈ add ++ a :: t :: acc, q.1 ≠ p.1 := by
  intro q hq p hp
  have hq : q ∈ r := hq
  have hq' : q ∈ d :: t :: c :: (acc ++ r) := .tail _ (.tail _ (.tail _ (List.mem_append.mpr (.inr hq))))
  rcases List.mem_append.mp hp with hp | hp
  · exact Nat.ne_of_lt (h1 q (.tail _ hq') p hp)
  · rcases List.mem_cons.mp hp with rfl | hp
    · exact Nat.ne_of_lt (h2 q hq')
    · rcases List.mem_cons.mp hp with rfl | hp
      · exact Nat.ne_of_lt (allLt_mem h3 q hq)
      · exact h4 q hq p hp
theorem mem_t1 {add acc : Led} {a t x : Addr × Obj} (h : x ∈ add ++ [t]) : x ∈ add ++ a :: t :: acc := by
  rcases List.mem_append.mp h with h | h
  · exact List.mem_append.mpr (.inl h)
  · rw [List.mem_singleton.mp h]; exact List.mem_append.mpr (.inr (.tail _ (.head _)))
theorem told_leaf_m {w : World} {v : Value} {l : Lf} {rest news : Led} (R : LfIn rest v l) (hs : ∀ p ∈ rest, p ∈ news) : Does w 277 [v] 3 [] news (fun r _ tl => (∃ T, r = .ref T) ∧ DatIn tl r (.tuple (toldLf l))) := told_leaf_d (R.mono hs)
theorem kind_dt_m2 {w : World} {v : Value} {d : Dt} {rest news : Led} (R : DtIn w rest v d) (hs : ∀ p ∈ rest, p ∈ news) : Does w 265 [v] 1 [] news (fun r _ tl => tl = [] ∧ ∃ tk, r = .str d.kind tk) := kind_dt (R.mono hs)
theorem ln_E9_1 : True := by
  (k_with "call ref" => (k_here; k_dflt ((first | refine' Does.use0E (kind_dt_m2 ?zp0 ?zp1) ?zcB ?zcF ?zcX ?zcN ?zcT ?zchd ?zchu ?_ | refine' Does.use0V (kind_dt_m2 ?zp0 ?zp1) ?zcB ?zcF ?zcX ?zcN ?zcT ?zchd ?zchu ?_ | refine' Does.use0 (kind_dt_m2 ?zp0 ?zp1) ?zcB ?zcF ?zcX ?zcN ?zcT ?zchd ?zchu ?_); (case zcB => assumption); (case zcF => k_asm); (case zcX => assumption); (case zcN => k_asm); (case zcT => assumption); (case zchd => k_extra "x room"); (case zchu => k_extra "x unit"); (case zp0 => first | assumption | (intro q7 hq7; simp only [List.mem_cons, List.mem_append, hq7, true_or, or_true])); (case zp1 => first | assumption | (intro q7 hq7; simp only [List.mem_cons, List.mem_append, hq7, true_or, or_true])); (k_extra "x got"); (try simp only [Lf.kind, Dt.kind]))))
  trivial
theorem ln_E9_2 : True := by
  (k_with "call ref" => (k_here; k_dflt ((refine' Does.useT (told_leaf_m ?zR ?zhs) ?zcB ?zcF ?zcX ?zcN ?zcT ?zchd ?zchu ?_); (case zcF => k_asm); (case zcN => k_extra "x n7"); (case zcB => assumption); (case zcX => assumption); (case zcT => assumption); (case zchd => k_extra "x room"); (case zchu => k_extra "x unit"); (case zR => assumption); (case zhs => (intro q7 hq7 ; simp only [List.mem_cons, List.mem_append, hq7, true_or, or_true])); ((intro r9 tl9 h9 tk9 F9 N9 o9 P9); (obtain ⟨⟨T9, z0⟩, hT9⟩ := P9); (subst z0); (try simp only [List.nil_append, List.cons_append] at N9 o9); (try k_sweep); skip))))
  trivial
theorem ln_E9_3 : True := by
  (k_with "call type:tuple" => (k_here; k_dflt (refine' tupOf ?zF ?zN ?zb ?zz ?_; (case zF => k_asm); (case zN => ((rename News _ _ _ _ => N7); exact N7)); (case zb => (repeat (first | exact List.mem_cons_self .. | refine List.mem_cons_of_mem _ ?_))); (case zz => omega); (intro D9 h9 F9 N9 l9); (try k_sweep))))
  trivial
theorem ln_E9_4 : True := by
  (k_with "binaryOp Add ref ref" => (k_here; k_dflt (refine' tup_cat ?zF ?zN ?zm1 ?zm2 ?zhv ?zz ?_; (case zF => k_asm); (case zN => ((rename News _ _ _ _ => N7); exact N7)); (case zm1 => (repeat (first | exact List.mem_cons_self .. | refine List.mem_cons_of_mem _ ?_))); (case zm2 => (repeat (first | exact List.mem_cons_self .. | refine List.mem_cons_of_mem _ ?_))); (case zhv => exact List.cons_ne_nil _ _); (case zz => ((simp only [List.length_cons, List.length_nil]); omega)); (intro D9 h9 add9 F9 N9 m9 o9); (try k_sweep))))
  trivial
theorem told_arr_d {w : World} {v : Value} {ls : List Lf} {rest : Led} (R : DtIn w rest v (.arr ls)) (hok : (Dt.arr ls).ok) : Does w 277 [v] 4 [] rest (fun r _ tl => (∃ T, r = .ref T) ∧ DatIn tl r (.tuple (toldDt (.arr ls)))) := by
  have R' := R
  cases R with
  | arr h1 h2 =>
    rename_i x vs n
    have hn := h2.length
    have hn3 : ls.length ≤ 3 := hok.1
    refine' Does.ofC (binds := [(Str.ofString "value", .ref x)]) (al := []) (cm := lkm [(Str.ofString "value", some (.ref x))]) ?k6 ?kb ?ks ?k7 ?k9 ?kB ?knd ?c3 ?c4 ?c5 ?lv ?kal ?kcm ?kcf ?_
    (case k6 => k_dflt k_is); (case kb => conv => lhs; whnf); (case ks => conv => lhs; whnf); (case k7 => k_dflt k_is); (case k9 => exact rfl); (case kB => exact rfl); (case knd => decide); (case c3 => exact rfl); (case c4 => exact rfl); (case c5 => exact rfl); (case lv => decide); (case kal => exact fun _ => rfl); (case kcm => exact fun _ => rfl); (case kcf => exact fun _ => rfl)
    intro mean mg mb dp un outer base g L s cells E F N C hap B X T hlt hdp hun
    obtain ⟨o1, hcells, d1⟩ := CellsAre.one C; subst hcells; clear C
    (try simp only [List.nil_append, List.cons_append] at N hlt)
    k_fold
    ((first | replace d1 : _ = Data.cell (some _) := d1 | replace d1 : _ = Data.cell none := d1))
    (repeat' ((fail_if_success (with_reducible refine mark_lc ?_)); k_extra "x one"))
    ((rename Fr g L _ _ => F8); (rename News g L _ _ => N8))
    rename _ ∧ AllLt _ rest => l1
    refine LCg.ListComp_U (cl := _) F8 rfl (by decide) rfl (by decide) rfl ?_
    (repeat' ((fail_if_success (with_reducible refine mark_cs ?_)); k_extra "x one"))
    obtain ⟨fx, hfx, NR⟩ := fx2 N8
    refine LCg.CompSrc.ledger (its := vs.toArray) (k := n) rfl F8 NR (List.mem_append.mpr (.inr h1)) (by rw [sizeLine_eq, List.size_toArray]; omega) fun g9 => ?_
    refine comp_rule (fun i ys nw => ∃ acc, nw = fx ++ (acc ++ rest) ∧ DatAll acc ys ((ls.take i).map (fun l => Dat.tuple (toldLf l))) ∧ (∀ q ∈ rest, ∀ p ∈ acc, q.1 ≠ p.1)) ⟨[], rfl, .nil, fun _ _ _ h => nomatch h⟩ (fun ys nw hj => ?_) (fun i v I oI C oC D m₂ h tk E' ys nw hi9 hP hj hC9 hv F1 N1 off ne => ?_)
    rotate_left
    · obtain ⟨acc, rfl, hys, har⟩ := hj
      have hP' : vs[i]? = some v := by simpa using hP
      obtain ⟨lf, hlf, hin⟩ := h2.get hP'
      k_extra "x steps"
      ((rename Fr g L _ _ => F8); (rename News g L _ _ => N8))
      rename ∀ q ∈ (I, oI) :: _, ∀ p ∈ _, _ => o9
      rename DatIn _ _ _ => hT9
      obtain ⟨ot1, ot3⟩ := new_off2 fx o9
      refine ⟨_, _, fx ++ ((_ ++ acc) ++ rest), rfl, F8, news_c9 fx N8, off3_ins2 fx off ot1, .inr ⟨W.listOf vs.toArray n, List.mem_append.mpr (.inr (List.mem_append.mpr (.inr h1))), rfl, _, rfl⟩, _ ++ acc, rfl, ?_, fun q hq p hp => (List.mem_append.mp hp).elim (ot3 q hq p) (har q hq p)⟩
      rw [take_snoc hlf, List.map_append]
      exact (hys.mono fun _ h => List.mem_append.mpr (.inr h)).append (.one (hT9.mono fun _ h => List.mem_append.mpr (.inl h)))
    obtain ⟨acc, rfl, hys, har⟩ := hj
    intro D h3 tk F3 N3 o3
    have hyl := hys.length
    rw [List.length_map, List.length_take] at hyl
    subst hfx
    simp only [List.cons_append, List.nil_append] at N3
    rename_i T0 _ _
    k_extra "x steps"
    ((rename Fr g L _ _ => F8); (rename News g L _ _ => N8))
    rename _ ∈ _ ++ [_] => m9
    rename ∀ q ∈ _ :: (D, LCg.lst ys) :: _, ∀ p ∈ _, _ => o9
    rename ∀ p ∈ (D, LCg.lst ys) :: _, _ => l9
    refine ⟨_, [], _ ++ (_, tupObj ys) :: (_, tupObj [_]) :: acc, _, _, rfl, F8, news_t1 N8, rfl, ord_t1 o9 l9 l1.2 har, ⟨_, rfl⟩, .tuple (mem_t1 m9) (.cons (.str _ _) ?_)⟩
    rw [List.take_of_length_le (by rw [List.size_toArray, hn]; exact Nat.le_refl _)] at hys
    exact hys.mono fun _ h => List.mem_append.mpr (.inr (.tail _ (.tail _ h)))
theorem ln_E9_5 : True := by
  (k_with "call ref" => (k_here; k_dflt ((refine' Does.useT (told_leaf_m ?zR ?zhs) ?zcB ?zcF ?zcX ?zcN ?zcT ?zchd ?zchu ?_); (case zcF => k_asm); (case zcN => k_extra "x n7"); (case zcB => assumption); (case zcX => assumption); (case zcT => assumption); (case zchd => k_extra "x room"); (case zchu => k_extra "x unit"); (case zR => assumption); (case zhs => (intro q7 hq7 ; simp only [List.mem_cons, List.mem_append, hq7, true_or, or_true])); ((intro r9 tl9 h9 tk9 F9 N9 o9 P9); (obtain ⟨⟨T9, z0⟩, hT9⟩ := P9); (subst z0); (try simp only [List.nil_append, List.cons_append] at N9 o9); (try k_sweep); skip))))
  trivial
theorem ln_E9_6 : True := by
  (k_with "call builtin:sorted" => (k_here; k_dflt (refine' sorted_dict_str ?zcF ?zcN ?zhm ?zlo ?zhd ?zhp ?zhs ?zh64 ?_; (case zcF => k_asm); (case zcN => ((rename News _ _ _ _ => N7); exact N7)); (case zhm => (repeat (first | assumption | refine List.mem_cons_of_mem _ ?_))); (case zlo => assumption); (case zhd => assumption); (case zhp => assumption); (case zhs => assumption); (case zh64 => omega); (intro D9 h9 tk9 vs9 e9 F9 N9 l9 S9); (try k_sweep))))
  trivial
theorem ln_E9_7 : True := by
  (k_with "subscriptTail Name Name ref str" => (k_here; k_dflt (refine' kda_item (knd := PySem.strKind prg _) ?zcN ?zhm ?zhd ?zhk ?zhl ?_; (case zcN => ((rename News _ _ _ _ => N7); exact N7)); (case zhd => assumption); (case zhm => (simp only [List.mem_cons, List.mem_append, List.cons_append, List.nil_append]; first | (simp only [*, true_or, or_true]; done) | grind)); (case zhk => exact is_strL); (case zhl => assumption))))
  trivial
theorem ln_E9_8 : True := by
  (k_with "compareOp IsNot" => (k_here; k_dflt (refine is_not_none ?_)))
  trivial
theorem toldEnt_len (p : Str × Lf) : (toldEnt p).length ≤ 1 := by
  unfold toldEnt
  split
  · exact Nat.le_refl 1
  · exact Nat.zero_le 1
theorem news_t2 {g h : Heap} {L : Addr} {add acc r : Led} {a d k t c : Addr × Obj} (N : News g L h (add ++ a :: d :: k :: t :: c :: (acc ++ r))) : News g L h ([] ++ ((add ++ a :: t :: acc) ++ r)) := (nA nN (nA (nA (nL N) (nC (nH (nR N)) (nC (nH (nT (nT (nT (nR N))))) (nL (nT (nT (nT (nT (nT (nR N)))))))))) (nR (nT (nT (nT (nT (nT (nR N)))))))))
theorem ord_t2 {add acc r : Led} {a d k t c : Addr × Obj} (h1 : ∀ q ∈ a :: d :: k :: t :: c :: (acc ++ r), ∀ p ∈ add, q.1 < p.1) (h2 : ∀ p ∈ d :: k :: t :: c :: (acc ++ r), p.1 < a.1) (h3 : AllLt t.1 r) (h4 : ∀ q ∈ r, ∀ p ∈ acc, q.1 ≠ p.1) : ∀ q ∈ [] ++ r, ∀ p ∈ add ++ a :: t :: acc, q.1 ≠ p.1 := by
  intro q hq p hp
  have hq : q ∈ r := hq
  have hq' : q ∈ d :: k :: t :: c :: (acc ++ r) := .tail _ (.tail _ (.tail _ (.tail _ (List.mem_append.mpr (.inr hq)))))
  rcases List.mem_append.mp hp with hp | hp
  · exact Nat.ne_of_lt (h1 q (.tail _ hq') p hp)
  · rcases List.mem_cons.mp hp with rfl | hp
    · exact Nat.ne_of_lt (h2 q hq')
    · rcases List.mem_cons.mp hp with rfl | hp
      · exact Nat.ne_of_lt (allLt_mem h3 q hq)
      · exact h4 q hq p hp
theorem told_dict_g {w : World} {x : Addr} {od : Obj} {kvs : List (Str × Value)} {es : List (Str × Lf)} {ps : List (Str × Lf)} {rest : Led} (R : DtIn w rest (.ref x) (.dict es)) (h1 : (x, od) ∈ rest) (lo : (x == sysModules) = false) (hd : od.IsDictOf (PySem.strKind prg w) kvs) (hperm : (kvs.map (·.1)).Perm (ps.map (·.1))) (hsort : sortedS (ps.map (·.1)) = true) (hlen3 : ps.length ≤ 8)
    (hlook : ∀ (i : Nat) (key : Str), (ps.map (·.1))[i]? = some key → ∃ val lf, ps[i]? = some (key, lf) ∧ LfIn rest val lf ∧ valueAt kvs key = some val) : Does w 277 [.ref x] 4 [] rest (fun r _ tl => (∃ T, r = .ref T) ∧ DatIn tl r (.tuple (.str (Str.ofString "dict") :: ps.flatMap toldEnt))) := by
  have hlen : kvs.length = ps.length := by have := hperm.length_eq; rwa [List.length_map, List.length_map] at this
  refine' Does.ofC (binds := [(Str.ofString "value", .ref x)]) (al := []) (cm := lkm [(Str.ofString "value", some (.ref x))]) ?k6 ?kb ?ks ?k7 ?k9 ?kB ?knd ?c3 ?c4 ?c5 ?lv ?kal ?kcm ?kcf ?_
  (case k6 => k_dflt k_is); (case kb => conv => lhs; whnf); (case ks => conv => lhs; whnf); (case k7 => k_dflt k_is); (case k9 => exact rfl); (case kB => exact rfl); (case knd => decide); (case c3 => exact rfl); (case c4 => exact rfl); (case c5 => exact rfl); (case lv => decide); (case kal => exact fun _ => rfl); (case kcm => exact fun _ => rfl); (case kcf => exact fun _ => rfl)
  intro mean mg mb dp un outer base g L s cells E F N C hap B X T hlt hdp hun
  obtain ⟨o1, hcells, d1⟩ := CellsAre.one C; subst hcells; clear C
  (try simp only [List.nil_append, List.cons_append] at N hlt)
  k_fold
  ((first | replace d1 : _ = Data.cell (some _) := d1 | replace d1 : _ = Data.cell none := d1))
  (repeat' ((fail_if_success (with_reducible refine mark_lc ?_)); k_extra "x one"))
  ((rename Fr g L _ _ => F8); (rename News g L _ _ => N8))
  rename _ ∧ AllLt _ rest => l1
  refine LCt.ListComp_T (cl := _) F8 rfl (by decide) rfl (by decide) rfl ?_
  (repeat' ((fail_if_success (with_reducible refine mark_cs ?_)); k_extra "x one"))
  rename StrsAre _ (ps.map (·.1)) => hS
  have hSl := hS.length
  rw [List.length_map] at hSl
  have FR := F9
  have NR := N9
  obtain ⟨e1, he1, NR⟩ := snd_ex NR
  refine LCt.CompSrcT.ledger (its := vs9.toArray) (k := e9) rfl FR NR (.head _) (by rw [sizeLine_eq, List.size_toArray]; omega) fun g9 => ?_
  refine comp_ruleT (fun i ys nw => ∃ acc, nw = (D9, W.listOf vs9.toArray e9) :: e1 :: (L + 1, o1) :: (acc ++ rest) ∧ DatAll acc ys ((ps.take i).flatMap toldEnt) ∧ (∀ q ∈ rest, ∀ p ∈ acc, q.1 ≠ p.1)) ⟨[], rfl, .nil, fun _ _ _ h => nomatch h⟩ (fun ys nw hj => ?_) (fun i v I oI C oC D m₂ h tk E' ys nw hi9 hP hj hC9 hv F1 N1 off ne => ?_)
  rotate_left
  · obtain ⟨acc, rfl, hys, har⟩ := hj
    have hv9 : vs9[i]? = some v := by simpa using hP
    obtain ⟨key, tkey, rfl, hkey⟩ := hS.item i v hv9
    obtain ⟨val, lf, hpe, hin, hva⟩ := hlook i key hkey
    k_extra "x steps"
    · ((rename Fr g L _ _ => F8); (rename News g L _ _ => N8))
      rename (val == Value.none) = true => hz
      have hl0 := lf_none hin (by rw [hz]; rfl)
      subst hl0
      refine ⟨_, _, _, rfl, F8, N8, off, .inr ⟨W.listOf vs9.toArray e9, .head _, rfl, _, rfl⟩, acc, rfl, ?_, har⟩
      rw [take_snoc hpe, List.flatMap_append]
      simpa [toldEnt, notNull] using hys
    · ((rename Fr g L _ _ => F8); (rename News g L _ _ => N8))
      rename (val == Value.none) = false => hz
      have hl0 := lf_some hin (by rw [hz]; rfl)
      rename ∀ q ∈ (I, oI) :: _, ∀ p ∈ _, _ => o9
      rename ∀ p ∈ _ ++ (I, oI) :: _, _ => l8
      rename DatIn _ _ _ => hT9
      obtain ⟨ot1, ot3⟩ := new_off2 [(D9, W.listOf vs9.toArray e9), e1, (L + 1, o1)] o9
      refine ⟨_, _, [(D9, W.listOf vs9.toArray e9), e1, (L + 1, o1)] ++ (((_ :: _) ++ acc) ++ rest), rfl, F8, news_c9 (t := _ :: _) [(D9, W.listOf vs9.toArray e9), e1, (L + 1, o1)] N8, off3_ins2 [(D9, W.listOf vs9.toArray e9), e1, (L + 1, o1)] off (fun p hp => ?_), .inr ⟨W.listOf vs9.toArray e9, .head _, rfl, _, rfl⟩, (_ :: _) ++ acc, rfl, ?_, fun q hq p hp => ?_⟩
      · rcases List.mem_cons.mp hp with rfl | hp
        · exact ⟨(Nat.ne_of_lt (l8 _ (List.mem_append.mpr (.inr (.head _))))).symm, (Nat.ne_of_lt (l8 _ (List.mem_append.mpr (.inr (.tail _ (.head _)))))).symm, (Nat.ne_of_lt (l8 _ (List.mem_append.mpr (.inr (.tail _ (.tail _ (.head _))))))).symm⟩
        · exact ot1 p hp
      · rw [take_snoc hpe, List.flatMap_append]
        have he : [((key, lf) : Str × Lf)].flatMap toldEnt = [.tuple [.str key, .tuple (toldLf lf)]] := by
          rw [List.flatMap_cons, List.flatMap_nil, List.append_nil, toldEnt, if_pos]
          cases lf <;> first | rfl | exact absurd rfl hl0
        rw [he]
        exact (hys.mono fun _ h => List.mem_append.mpr (.inr h)).append (.one (.tuple (.head _) (.cons (.str _ _) (.one (hT9.mono fun _ h => List.mem_append.mpr (.inl (.tail _ h)))))))
      · rcases List.mem_append.mp hp with hp | hp
        · rcases List.mem_cons.mp hp with rfl | hp
          · exact Nat.ne_of_lt (l8 q (List.mem_append.mpr (.inr (.tail _ (.tail _ (.tail _ (.tail _ (.tail _ (.tail _ (List.mem_append.mpr (.inr hq))))))))))) 
          · exact ot3 q hq p hp
        · exact har q hq p hp
  obtain ⟨acc, rfl, hys, har⟩ := hj
  intro D h3 tk F3 N3 o3
  have hyl := hys.length
  subst he1
  have hfl := flat_lenL toldEnt 1 toldEnt_len (ps.take vs9.toArray.size)
  rw [List.length_take] at hfl
  k_extra "x steps"
  ((rename Fr g L _ _ => F8); (rename News g L _ _ => N8))
  rename _ ∈ _ ++ [_] => m9
  rename ∀ q ∈ _ :: (D, LCg.lst ys) :: _, ∀ p ∈ _, _ => o9
  rename ∀ p ∈ (D, LCg.lst ys) :: _, _ => l9
  refine ⟨_, [], _ ++ (_, tupObj ys) :: (_, tupObj [_]) :: acc, _, _, rfl, F8, news_t2 N8, rfl, ord_t2 o9 l9 l1.2 har, ⟨_, rfl⟩, .tuple (mem_t1 m9) (.cons (.str _ _) ?_)⟩
  rw [List.take_of_length_le (by rw [List.size_toArray, hSl]; exact Nat.le_refl _)] at hys
  exact hys.mono fun _ h => List.mem_append.mpr (.inr (.tail _ (.tail _ h)))
theorem told_dict_d {w : World} {v : Value} {es : List (Str × Lf)} {rest : Led} (R : DtIn w rest v (.dict es)) (hok : (Dt.dict es).ok) : Does w 277 [v] 4 [] rest (fun r _ tl => (∃ T, r = .ref T) ∧ DatIn tl r (.tuple (toldDt (.dict es)))) := by
  have R' := R
  cases R with
  | dict h1 lo hd h2 =>
    obtain ⟨⟨kk, hk3, hks⟩, hoks⟩ := hok
    obtain ⟨_, _, _, _, _, _, hnd⟩ := id hd
    refine told_dict_g R' h1 lo hd (by rw [ent_keys h2]) (keys_sorted hk3 hks) (Nat.le_trans (dict_len3 hk3 hks) (by decide)) fun i key hkey => ?_
    obtain ⟨val, lf, hkv, hpe, hin⟩ := ent_at h2 hkey
    exact ⟨val, lf, hpe, hin, valueAt_of_get hnd hkv⟩

theorem told_dt_d {w : World} {v : Value} {d : Dt} {rest : Led} (R : DtIn w rest v d) (hok : d.ok) : Does w 277 [v] 4 [] rest (fun r _ tl => (∃ T, r = .ref T) ∧ DatIn tl r (.tuple (toldDt d))) := by
  cases d with
  | leaf l =>
    cases R with
    | leaf h => exact (told_leaf_d h).imp (by decide) fun _ _ _ p => p
  | arr ls => exact told_arr_d R hok
  | dict es => exact told_dict_d R hok

theorem DoesH.useT {Hp : Heap → Prop} {w : World} {f : Addr} {vs : List Value} {lv : Nat} {news : Led} {Post : Value → Led → Led → Prop} {mean : ExcName → Option Value} {mg mb : Str → Option Value} {dp un : Nat} {env : Env} {outer : List Env} {A₀ : Around} {base h₀ : Heap} {L : Addr} {m : Str → Option Value} {hh : Heap} {gs : Array GenState} {dr : Drawn} {tk : Tok} {os : OsState} {Q E : Value → Shared → Prop}
    (C : DoesH Hp w f vs lv [] news Post) (B : Below A₀ base outer h₀) (H : Hp h₀) (F : Fr h₀ L hh m) (X : (Kf w.params).In h₀) (N : News h₀ L hh news) (T : Top vw loo mean mg mb h₀)
    (hd : dp + 10 * lv < recursionLimit) (hu : un + 100 * lv < cLine)
    (ret : ∀ r tl h' tk', Fr h₀ L h' m → News h₀ L h' (tl ++ news) → (∀ q ∈ news, ∀ p ∈ tl, q.1 ≠ p.1) → Post r [] tl → Q r ⟨h', gs, dr, tk', os⟩)
    (hf : env.frame = some L := by rfl) (hke : env.scope.kind = .function := by rfl) :
    wpAny (model prg w) (mkA dp un (env :: outer)) (call (.ref f) vs) Q E ⟨hh, gs, dr, tk, os⟩ :=
  C _ _ _ _ _ _ _ _ _ _ _ _ _ _ _ _ _ _ _ B H F X N (fun _ h => nomatch h) T hf hke hd hu fun r mu' tl h' tk' F' N' hm ho hP => by
    cases mu' with
    | nil => exact ret r tl h' tk' F' N' ho hP
    | cons _ _ => cases hm

theorem ln_EC : True := by
  k_with_none
  (k_with "ite" => first | with_reducible refine ite_tt ?_ | with_reducible refine ite_ff ?_)
  (k_with "execs nil" => (with_reducible refine wpAny_execs_nil ?_; (try dsimp only)))
  (k_with "execs cons" => (k_here; k_dflt (refine seqK ?_; (try dsimp only))))
  (k_with "x lia" => ((try clear cc); (try clear c2); (try clear lf); lia))
  (k_with "x n7" => ((rename News _ _ _ _ => N7); exact N7))
  (k_with "x room" => (first | exact room1 (by assumption) (by rfl) | exact room2 (by assumption) (by rfl) | omega))
  (k_with "x unit" => (first | exact unit1 (by assumption) (by rfl) | exact unit2 (by assumption) (by rfl) | omega))
  (k_with "x got" => ((first | ((with_reducible intro r9 h9 tk9 F9 N9 P9); (first | (obtain ⟨t9, e9⟩ := P9; subst e9) | (subst P9) | skip)) | (with_reducible intro t9 h9 tk9 F9 N9) | (with_reducible intro h9 tk9 F9 N9)); (try k_sweep)))
  (k_with "x one" => (first | (k_unfold; (try dsimp only)) | walk1 | (dsimp only; walk1)))
  (k_with "x g" => ((fail_if_success plain_pass); k_here))
  (k_with "x k" => (k_asm; k_extra "x n7"; k_extra "x ix"))
  (k_with "x c" => (k_extra "x k"; k_extra "x ev"; k_extra "x ev"))
  (k_with "x if" => (k_dflt (k_here; (with_reducible show wpAny _ _ (execs (Stmt.If (PySem.Expr.Compare (PySem.Expr.Name _ _) [CmpOp.Eq] [PySem.Expr.Constant (Const.str _) _ _] _) _ _ _ :: _) _) _ _ _); first | (apply xif_f; k_extra "x c"; exact rfl) | (apply xif_t; k_extra "x c"; exact rfl))))
  (k_with "x stmt" => ((first | k_extra "x if" | refine seqK ?_ | refine wpAny_execs_cons ?_); (repeat' ((fail_if_success (with_reducible refine mark_execs ?_)); k_extra "x one"))))
  (k_with "x steps" => (repeat' k_extra "x one"))
  (k_with "x ix" => (first | exact isX1 rfl | exact isX2 rfl | exact isX3 rfl))
  (k_with "x ev" => (first | exact Ev.str | exact Ev.int | exact Ev.none | exact Ev.bool | (apply Ev.name; exact rfl; exact rfl; exact rfl) | (apply Ev.cell; exact rfl; exact rfl; exact rfl; (first | k_mem | (repeat (first | exact List.mem_cons_self .. | refine List.mem_cons_of_mem _ ?_))); k_asm)))
  (k_with "x evs" => (focus ((repeat' (first | exact Evs.nil | apply Evs.int | (apply Evs.name; exact rfl; exact rfl; exact rfl) | (apply Evs.cell; exact rfl; exact rfl; exact rfl; (first | k_mem | (repeat (first | exact List.mem_cons_self .. | refine List.mem_cons_of_mem _ ?_))); k_asm) | exact Ev.str | exact Ev.none | exact Ev.bool | apply Evs.cons)); done)))
  (k_with "execs cons If" => ((fail_if_success plain_pass); k_extra "x if"))
  (k_with "isTrue Compare" => (k_extra "x g"; (with_reducible show wpAny _ _ (PySem.isTrue (PySem.Expr.Compare _ [_] [_] _) _ _) _ _ _); k_dflt (first | ((with_reducible show wpAny _ _ (PySem.isTrue (PySem.Expr.Compare _ [CmpOp.Eq] [_] _) _ _) _ _ _); apply ist_strL; k_extra "x c") | (apply ist_int; k_extra "x c"; exact rfl))))
  (k_with "eval Call Name" => (k_extra "x g"; k_dflt (first | (apply call_ev; exact rfl; exact rfl; exact rfl; k_extra "x k"; k_extra "x evs"; k_asm; k_asm; k_is; k_is) | (apply bcall_ev; exact rfl; exact rfl; exact rfl; exact rfl; k_extra "x k"; k_extra "x evs"; k_asm; k_asm; k_is; boot_fast; decide))))
  (k_with "callWith" => (k_extra "x g"; k_dflt (apply meth_ev; exact rfl; k_extra "x k"; k_extra "x evs")))
  (k_with "spliced" => (k_extra "x g"; k_dflt (apply args_ev; exact rfl; k_extra "x k"; k_extra "x evs")))
  (k_with "eval Attribute Name" => (k_extra "x g"; k_dflt (apply attr_ev; k_extra "x k"; k_extra "x ev")))
  (k_with "x ho" => ((try simp only [List.nil_append, List.cons_append]); (repeat' (first | (refine off1_of ?_; assumption) | (refine off1_lt ?_; assumption) | (refine off1_all ?_; assumption) | refine And.intro ?_ ?_ | exact trivial | ((show @Ne Nat _ _); omega) | refine off1_app ?_ ?_))))
  (k_with "x hz" => ((try simp only [Array.size_push, List.size_toArray, List.length_cons, List.length_nil, List.length_append]); omega))
  (k_with "x hm" => (repeat (first | exact List.mem_cons_self .. | exact List.mem_append_left _ (by assumption) | refine List.mem_cons_of_mem _ ?_)))
  (k_with "call builtin:list.append" => (k_here; k_dflt ((rename News _ _ _ _ => N7); (first | (refine' append_at [] _ ?zcF N7 ?zho ?zhz ?_) | (refine' append_at [_] _ ?zcF N7 ?zho ?zhz ?_) | (refine' append_at [_, _] _ ?zcF N7 ?zho ?zhz ?_) | (refine' append_at [_, _, _] _ ?zcF N7 ?zho ?zhz ?_)); (case zcF => k_asm); (case zho => k_extra "x ho"); (case zhz => k_extra "x hz"); ((intro h9 F9 N9); (try simp only [List.nil_append, List.cons_append] at N9); (try k_sweep)))))
  (k_with "call builtin:list.extend" => (k_here; k_dflt ((rename News _ _ _ _ => N7); (first | (refine' extend_at [] _ ?zcF N7 ?zhb ?zho ?zhne ?zhz ?_) | (refine' extend_at [_] _ ?zcF N7 ?zhb ?zho ?zhne ?zhz ?_) | (refine' extend_at [_, _] _ ?zcF N7 ?zhb ?zho ?zhne ?zhz ?_) | (refine' extend_at [_, _, _] _ ?zcF N7 ?zhb ?zho ?zhne ?zhz ?_)); (case zcF => k_asm); (case zhb => k_extra "x hm"); (case zho => k_extra "x ho"); (case zhne => k_extra "x hz"); (case zhz => k_extra "x hz"); ((intro h9 F9 N9); (try simp only [List.nil_append, List.cons_append] at N9); (try k_sweep)))))
  (k_with "binaryOp Add str str" => (k_here; k_dflt (refine' add_strL ?zhz ?_; (case zhz => ((try simp only [ofString_size1]); omega)); intro y9 t9 k9 hy9 hs9; (try simp only [ofString_size1] at hs9))))
  (k_with "subscriptTail Name Slice str ref" => (k_here; k_dflt ((first | (refine' slice_nsL ?zhF ?zhN ?zhz ?_) | (refine' slice_snL ?zhF ?zhN ?zhz ?_)); (case zhF => k_asm); (case zhN => k_asm); (case zhz => omega); (intro z9 h9 t9 k9 F9 N9 hz9 hs9); (try k_sweep))))
  (k_with "setItem ref int" => (k_here; k_dflt ((rename News _ _ _ _ => N7); (first | (refine' dset_at (K := Int) (knd := intKind prg _) [] _ ?zcF N7 ?zhd ?zhk ?zho ?zhz ?_; (case zhd => assumption)) | (refine' dset_at (K := Int) (knd := intKind prg _) [_] _ ?zcF N7 ?zhd ?zhk ?zho ?zhz ?_; (case zhd => assumption)) | (refine' dset_at (K := Int) (knd := intKind prg _) [_, _] _ ?zcF N7 ?zhd ?zhk ?zho ?zhz ?_; (case zhd => assumption))); (case zcF => k_asm); (case zhk => exact is_int); (case zho => k_extra "x ho"); (case zhz => omega); ((intro h9 o9 F9 N9 hd9); (try simp only [List.nil_append, List.cons_append] at N9); (try k_sweep)))))
  (k_with "call builtin:list.pop" => (k_here; k_dflt ((rename News _ _ _ _ => N7); (first | (refine' pop_at [] _ ?zcF N7 ?zhi ?zho ?zhne ?zhz ?_; (case zhi => assumption)) | (refine' pop_at [_] _ ?zcF N7 ?zhi ?zho ?zhne ?zhz ?_; (case zhi => assumption))); (case zcF => k_asm); (case zho => k_extra "x ho"); (case zhne => omega); (case zhz => omega); ((intro h9 t9 us9 n9 F9 N9 hI9 hs9); (try simp only [List.nil_append, List.cons_append] at N9); (try k_sweep)))))
  (k_with "truthy ref" => (k_here; k_dflt ((rename News _ _ _ _ => N7); refine' truthy_at N7 ?zhm ?zhz ?_ ?_; (case zhm => k_extra "x hm"); (case zhz => omega)); intro htr))
  trivial
noncomputable def EntsOk (ents : List (Int × Dt)) : Prop := ents.length ≤ 8 ∧ (ents.map (·.1)).Pairwise (· < ·) ∧ ∀ e ∈ ents, 1 ≤ e.1 ∧ e.1 ≤ 96 ∧ e.2.ok
noncomputable def RowIn (w : World) (news : Led) (kv : Int × Value) (e : Int × Dt) : Prop := kv.1 = e.1 ∧ ∃ T a t, kv.2 = .ref T ∧ (T, tupObj [.int 0 t, a]) ∈ news ∧ DtIn w news a e.2
structure ShelfIn (w : World) (news : Led) (x : Addr) (ents : List (Int × Dt)) (dx D1 D2 : Addr) (od1 od2 : Obj) (k1 k2 : Int) (t1 t2 : Tok) (n : Nat) (kvs : List (Int × Value)) : Prop where
  m1 : (x, instObj 375 dx) ∈ news
  m2 : (dx, dictOf [⟨k1, .str (Str.ofString "table") t1, .ref D1⟩, ⟨k2, .str (Str.ofString "trailer") t2, .ref D2⟩] n) ∈ news
  m3 : (D1, od1) ∈ news
  m4 : (D2, od2) ∈ news
  l1 : (D1 == sysModules) = false
  l2 : (D2 == sysModules) = false
  h1 : od1.IsDictOf (intKind prg w) kvs
  h2 : od2.IsDictOf (PySem.strKind prg w) []
  rows : All2 (RowIn w news) kvs ents
theorem RowIn.mono {w : World} {news news' : Led} (hs : ∀ p ∈ news, p ∈ news') {kv : Int × Value} {e : Int × Dt} (h : RowIn w news kv e) : RowIn w news' kv e := by
  obtain ⟨e1, T, a, t, e2, m, d⟩ := h
  exact ⟨e1, T, a, t, e2, hs _ m, d.mono hs⟩
theorem put_d {w : World} {x dx D1 : Addr} {od1 : Obj} {D2 : Addr} {k1 k2 : Int} {t1 t2 : Tok} {n : Nat} {kvs : List (Int × Value)} {k : Int} {tk tg : Tok} {v : Value} {rest : Led}
    (m1 : (x, instObj 375 dx) ∈ rest) (m2 : (dx, dictOf [⟨k1, .str (Str.ofString "table") t1, .ref D1⟩, ⟨k2, .str (Str.ofString "trailer") t2, .ref D2⟩] n) ∈ rest) (lo : (D1 == sysModules) = false) (hd1 : od1.IsDictOf (intKind prg w) kvs) (hz : kvs.length ≤ 1000) :
    Does w 339 [.ref x, .int k tk, .int 0 tg, v] 1 [(D1, od1)] rest (fun r mu' tl => An2 (r = .none) (Ex2 fun T od1' => An3 (tl = [(T, tupObj [.int 0 tg, v])]) (mu' = [(D1, od1')]) (od1'.IsDictOf (intKind prg w) (stored kvs k (.ref T))))) := by
  refine' Does.of (binds := [(Str.ofString "self", .ref x), (Str.ofString "number", .int k tk), (Str.ofString "generation", .int 0 tg), (Str.ofString "value", v)]) (al := [(Str.ofString "value", some (v)), (Str.ofString "generation", some (.int 0 tg)), (Str.ofString "number", some (.int k tk)), (Str.ofString "self", some (.ref x))]) ?k6 ?kb ?ks ?k7 ?k9 ?kB ?c5 ?c2 ?c3 ?c4 ?lv ?kal ?_
  (case k6 => k_dflt k_is); (case kb => conv => lhs; whnf); (case ks => conv => lhs; whnf); (case k7 => k_dflt k_is); (case k9 => exact rfl); (case kB => exact locs rfl); (case c5 => decide); (case c2 => exact rfl); (case c3 => exact rfl); (case c4 => exact rfl); (case lv => decide); (case kal => exact rfl)
  intro mean mg mb dp un outer base g L s E F N hap B X T hlt hdp hun
  (try simp only [List.nil_append, List.cons_append] at N hlt)
  k_fold
  have hD : ∀ p ∈ rest, p.1 ≠ D1 := hap _ (List.mem_singleton_self _)
  have hsi := is_int (prog := prg) (w := w) (i := k) (t := tk)
  k_extra "x steps"
  ((rename Fr g L _ _ => F8); (rename News g L _ _ => N8))
  rename _ ∧ AllLt _ rest => l1
  rename Obj.IsDictOf (intKind prg w) _ (stored _ _ _) => h9
  refine ⟨_, [(D1, _)], [(_, _)], _, _, rfl, F8, news_sw N8, rfl, (fun q hq p hp => ?_), rfl, _, _, rfl, rfl, h9⟩
  rw [List.mem_singleton.mp hp]
  rcases List.mem_cons.mp hq with rfl | hq
  · exact Nat.ne_of_lt l1.1
  · exact Nat.ne_of_lt (allLt_mem l1.2 q hq)
theorem rows_keys {w : World} {news : Led} {kvs : List (Int × Value)} {ents : List (Int × Dt)} (h : All2 (RowIn w news) kvs ents) : kvs.map (·.1) = ents.map (·.1) := by
  induction h with
  | nil => rfl
  | cons h _ ih => rw [List.map_cons, List.map_cons, ih, h.1]
theorem keys_le {w : World} {news : Led} {kvs : List (Int × Value)} {ents : List (Int × Dt)} (h : All2 (RowIn w news) kvs ents) (hok : EntsOk ents) : (kvs.map (·.1)).Pairwise (· ≤ ·) := by
  rw [rows_keys h]; exact hok.2.1.imp fun h => Int.le_of_lt h
theorem keys_nodup {ents : List (Int × Dt)} (hok : EntsOk ents) : (ents.map (·.1)).Nodup := hok.2.1.imp fun h => Int.ne_of_lt h
theorem ln_EC_1 : True := by
  (k_with "call builtin:sorted" => (k_here; k_dflt (refine' sorted_dict_int ?zcF ?zcN ?zhm ?zlo ?zhd ?zhs ?zh64 ?_; (case zcF => k_asm); (case zcN => ((rename News _ _ _ _ => N7); exact N7)); (case zhm => assumption); (case zlo => assumption); (case zhd => assumption); (case zhs => assumption); (case zh64 => omega); (intro D9 h9 tk9 vs9 e9 F9 N9 l9 S9); (try k_sweep))))
  trivial
theorem numbers_d {w : World} {x dx D1 D2 : Addr} {od1 od2 : Obj} {k1 k2 : Int} {t1 t2 : Tok} {n : Nat} {kvs : List (Int × Value)} {ents : List (Int × Dt)} {rest : Led} (S : ShelfIn w rest x ents dx D1 D2 od1 od2 k1 k2 t1 t2 n kvs) (hok : EntsOk ents) :
    Does w 360 [.ref x] 1 [] rest (fun r _ tl => Ex3 fun D vs n => An3 (r = .ref D) (tl = [(D, W.listOf (vs : List Value).toArray n)]) (PyProof.Rows.IntsAre vs (ents.map (·.1)))) := by
  obtain ⟨m1, m2, m3, m4, lo1, lo2, h1, h2, rows⟩ := S
  have hkl := keys_le rows hok
  have hlen := rows.length
  have hlen8 := hok.1
  have hke := rows_keys rows
  refine' Does.of (binds := [(Str.ofString "self", .ref x)]) (al := [(Str.ofString "self", some (.ref x))]) ?k6 ?kb ?ks ?k7 ?k9 ?kB ?c5 ?c2 ?c3 ?c4 ?lv ?kal ?_
  (case k6 => k_dflt k_is); (case kb => conv => lhs; whnf); (case ks => conv => lhs; whnf); (case k7 => k_dflt k_is); (case k9 => exact rfl); (case kB => exact locs rfl); (case c5 => decide); (case c2 => exact rfl); (case c3 => exact rfl); (case c4 => exact rfl); (case lv => decide); (case kal => exact rfl)
  intro mean mg mb dp un outer base g L s E F N hap B X T hlt hdp hun
  (try simp only [List.nil_append, List.cons_append] at N hlt)
  k_fold
  k_extra "x steps"
  ((rename Fr g L _ _ => F8); (rename News g L _ _ => N8))
  rename ∀ q ∈ rest, q.1 < _ => l9
  rename PyProof.Rows.IntsAre _ _ => S9
  rw [hke] at S9
  exact ⟨_, [], [(_, _)], _, _, rfl, F8, N8, rfl, (fun q hq p hp => by rw [List.mem_singleton.mp hp]; exact Nat.ne_of_lt (l9 q hq)), _, _, _, rfl, rfl, S9⟩
theorem ShelfIn.mono {w : World} {news news' : Led} {x dx D1 D2 : Addr} {od1 od2 : Obj} {k1 k2 : Int} {t1 t2 : Tok} {n : Nat} {kvs : List (Int × Value)} {ents : List (Int × Dt)} (hs : ∀ p ∈ news, p ∈ news') (S : ShelfIn w news x ents dx D1 D2 od1 od2 k1 k2 t1 t2 n kvs) : ShelfIn w news' x ents dx D1 D2 od1 od2 k1 k2 t1 t2 n kvs :=
  ⟨hs _ S.m1, hs _ S.m2, hs _ S.m3, hs _ S.m4, S.l1, S.l2, S.h1, S.h2, S.rows.mono fun _ _ h => h.mono hs⟩
theorem row_at {w : World} {news : Led} {kvs : List (Int × Value)} {ents : List (Int × Dt)} (h : All2 (RowIn w news) kvs ents) {i : Nat} {k : Int} (hk : (ents.map (·.1))[i]? = some k) : ∃ T a t d, kvs[i]? = some (k, .ref T) ∧ ents[i]? = some (k, d) ∧ (T, tupObj [.int 0 t, a]) ∈ news ∧ DtIn w news a d := by
  induction h generalizing i with
  | nil => simp at hk
  | @cons kv e kvs es h _ ih =>
    cases i with
    | zero =>
      obtain ⟨e1, T, a, t, e2, m, dd⟩ := h
      obtain ⟨k', v⟩ := kv
      obtain ⟨k'', d⟩ := e
      simp at hk e1 e2
      subst hk e1 e2
      exact ⟨T, a, t, d, by simp, by simp, m, dd⟩
    | succ i => obtain ⟨T, a, t, d, q1, q2, q3, q4⟩ := ih (by simpa using hk); exact ⟨T, a, t, d, by simpa using q1, by simpa using q2, q3, q4⟩
theorem valueAt_row {kvs : List (Int × Value)} {i : Nat} {k : Int} {v : Value} (hnd : (kvs.map (·.1)).Nodup) (h : kvs[i]? = some (k, v)) : valueAt kvs k = some v := valueAt_of_get hnd h

theorem ln_ED : True := by
  k_with_none
  (k_with "ite" => first | with_reducible refine ite_tt ?_ | with_reducible refine ite_ff ?_)
  (k_with "execs nil" => (with_reducible refine wpAny_execs_nil ?_; (try dsimp only)))
  (k_with "execs cons" => (k_here; k_dflt (refine seqK ?_; (try dsimp only))))
  (k_with "x lia" => ((try clear cc); (try clear c2); (try clear lf); lia))
  (k_with "x n7" => ((rename News _ _ _ _ => N7); exact N7))
  (k_with "x room" => (first | exact room1 (by assumption) (by rfl) | exact room2 (by assumption) (by rfl) | omega))
  (k_with "x unit" => (first | exact unit1 (by assumption) (by rfl) | exact unit2 (by assumption) (by rfl) | omega))
  (k_with "x got" => ((first | ((with_reducible intro r9 h9 tk9 F9 N9 P9); (first | (obtain ⟨t9, e9⟩ := P9; subst e9) | (subst P9) | skip)) | (with_reducible intro t9 h9 tk9 F9 N9) | (with_reducible intro h9 tk9 F9 N9)); (try k_sweep)))
  (k_with "x one" => (first | (k_unfold; (try dsimp only)) | walk1 | (dsimp only; walk1)))
  (k_with "x g" => ((fail_if_success plain_pass); k_here))
  (k_with "x k" => (k_asm; k_extra "x n7"; k_extra "x ix"))
  (k_with "x c" => (k_extra "x k"; k_extra "x ev"; k_extra "x ev"))
  (k_with "x if" => (k_dflt (k_here; (with_reducible show wpAny _ _ (execs (Stmt.If (PySem.Expr.Compare (PySem.Expr.Name _ _) [CmpOp.Eq] [PySem.Expr.Constant (Const.str _) _ _] _) _ _ _ :: _) _) _ _ _); first | (apply xif_f; k_extra "x c"; exact rfl) | (apply xif_t; k_extra "x c"; exact rfl))))
  (k_with "x stmt" => ((first | k_extra "x if" | refine seqK ?_ | refine wpAny_execs_cons ?_); (repeat' ((fail_if_success (with_reducible refine mark_execs ?_)); k_extra "x one"))))
  (k_with "x steps" => (repeat' k_extra "x one"))
  (k_with "x ix" => (first | exact isX1 rfl | exact isX2 rfl | exact isX3 rfl))
  (k_with "x ev" => (first | exact Ev.str | exact Ev.int | exact Ev.none | exact Ev.bool | (apply Ev.name; exact rfl; exact rfl; exact rfl) | (apply Ev.cell; exact rfl; exact rfl; exact rfl; (first | k_mem | (repeat (first | exact List.mem_cons_self .. | refine List.mem_cons_of_mem _ ?_))); k_asm)))
  (k_with "x evs" => (focus ((repeat' (first | exact Evs.nil | apply Evs.int | (apply Evs.name; exact rfl; exact rfl; exact rfl) | (apply Evs.cell; exact rfl; exact rfl; exact rfl; (first | k_mem | (repeat (first | exact List.mem_cons_self .. | refine List.mem_cons_of_mem _ ?_))); k_asm) | exact Ev.str | exact Ev.none | exact Ev.bool | apply Evs.cons)); done)))
  (k_with "execs cons If" => ((fail_if_success plain_pass); k_extra "x if"))
  (k_with "isTrue Compare" => (k_extra "x g"; (with_reducible show wpAny _ _ (PySem.isTrue (PySem.Expr.Compare _ [_] [_] _) _ _) _ _ _); k_dflt (first | ((with_reducible show wpAny _ _ (PySem.isTrue (PySem.Expr.Compare _ [CmpOp.Eq] [_] _) _ _) _ _ _); apply ist_strL; k_extra "x c") | (apply ist_int; k_extra "x c"; exact rfl))))
  (k_with "eval Call Name" => (k_extra "x g"; k_dflt (first | (apply call_ev; exact rfl; exact rfl; exact rfl; k_extra "x k"; k_extra "x evs"; k_asm; k_asm; k_is; k_is) | (apply bcall_ev; exact rfl; exact rfl; exact rfl; exact rfl; k_extra "x k"; k_extra "x evs"; k_asm; k_asm; k_is; boot_fast; decide))))
  (k_with "callWith" => (k_extra "x g"; k_dflt (apply meth_ev; exact rfl; k_extra "x k"; k_extra "x evs")))
  (k_with "spliced" => (k_extra "x g"; k_dflt (apply args_ev; exact rfl; k_extra "x k"; k_extra "x evs")))
  (k_with "eval Attribute Name" => (k_extra "x g"; k_dflt (apply attr_ev; k_extra "x k"; k_extra "x ev")))
  (k_with "x ho" => ((try simp only [List.nil_append, List.cons_append]); (repeat' (first | (refine off1_of ?_; assumption) | (refine off1_lt ?_; assumption) | (refine off1_all ?_; assumption) | refine And.intro ?_ ?_ | exact trivial | ((show @Ne Nat _ _); omega) | refine off1_app ?_ ?_))))
  (k_with "x hz" => ((try simp only [Array.size_push, List.size_toArray, List.length_cons, List.length_nil, List.length_append]); omega))
  (k_with "x hm" => (repeat (first | exact List.mem_cons_self .. | exact List.mem_append_left _ (by assumption) | refine List.mem_cons_of_mem _ ?_)))
  (k_with "call builtin:list.append" => (k_here; k_dflt ((rename News _ _ _ _ => N7); (first | (refine' append_at [] _ ?zcF N7 ?zho ?zhz ?_) | (refine' append_at [_] _ ?zcF N7 ?zho ?zhz ?_) | (refine' append_at [_, _] _ ?zcF N7 ?zho ?zhz ?_) | (refine' append_at [_, _, _] _ ?zcF N7 ?zho ?zhz ?_)); (case zcF => k_asm); (case zho => k_extra "x ho"); (case zhz => k_extra "x hz"); ((intro h9 F9 N9); (try simp only [List.nil_append, List.cons_append] at N9); (try k_sweep)))))
  (k_with "call builtin:list.extend" => (k_here; k_dflt ((rename News _ _ _ _ => N7); (first | (refine' extend_at [] _ ?zcF N7 ?zhb ?zho ?zhne ?zhz ?_) | (refine' extend_at [_] _ ?zcF N7 ?zhb ?zho ?zhne ?zhz ?_) | (refine' extend_at [_, _] _ ?zcF N7 ?zhb ?zho ?zhne ?zhz ?_) | (refine' extend_at [_, _, _] _ ?zcF N7 ?zhb ?zho ?zhne ?zhz ?_)); (case zcF => k_asm); (case zhb => k_extra "x hm"); (case zho => k_extra "x ho"); (case zhne => k_extra "x hz"); (case zhz => k_extra "x hz"); ((intro h9 F9 N9); (try simp only [List.nil_append, List.cons_append] at N9); (try k_sweep)))))
  (k_with "setItem ref int" => (k_here; k_dflt ((rename News _ _ _ _ => N7); (first | (refine' dset_at (K := Int) (knd := intKind prg _) [] _ ?zcF N7 ?zhd ?zhk ?zho ?zhz ?_; (case zhd => assumption)) | (refine' dset_at (K := Int) (knd := intKind prg _) [_] _ ?zcF N7 ?zhd ?zhk ?zho ?zhz ?_; (case zhd => assumption)) | (refine' dset_at (K := Int) (knd := intKind prg _) [_, _] _ ?zcF N7 ?zhd ?zhk ?zho ?zhz ?_; (case zhd => assumption))); (case zcF => k_asm); (case zhk => exact is_int); (case zho => k_extra "x ho"); (case zhz => omega); ((intro h9 o9 F9 N9 hd9); (try simp only [List.nil_append, List.cons_append] at N9); (try k_sweep)))))
  (k_with "call builtin:list.pop" => (k_here; k_dflt ((rename News _ _ _ _ => N7); (first | (refine' pop_at [] _ ?zcF N7 ?zhi ?zho ?zhne ?zhz ?_; (case zhi => assumption)) | (refine' pop_at [_] _ ?zcF N7 ?zhi ?zho ?zhne ?zhz ?_; (case zhi => assumption))); (case zcF => k_asm); (case zho => k_extra "x ho"); (case zhne => omega); (case zhz => omega); ((intro h9 t9 us9 n9 F9 N9 hI9 hs9); (try simp only [List.nil_append, List.cons_append] at N9); (try k_sweep)))))
  (k_with "truthy ref" => (k_here; k_dflt ((rename News _ _ _ _ => N7); refine' truthy_at N7 ?zhm ?zhz ?_ ?_; (case zhm => k_extra "x hm"); (case zhz => omega)); intro htr))
  trivial
noncomputable def shelfRow (e : Int × Dt) : Dat := .tuple [.int e.1, .int 0, .tuple (toldDt e.2)]
noncomputable def shelfDat (ents : List (Int × Dt)) : List Dat := [.tuple (ents.map shelfRow), .tuple (toldDt (.dict []))]
theorem shelfDat_ok (ents : List (Int × Dt)) : dOk 6 (.tuple (shelfDat ents)) = true := by
  show [Dat.tuple (ents.map shelfRow), .tuple (toldDt (.dict []))].all (dOk 5) = true
  rw [List.all_eq_true]
  intro x hx
  rcases List.mem_cons.mp hx with rfl | hx
  · show (ents.map shelfRow).all (dOk 4) = true
    rw [List.all_eq_true]
    intro y hy
    obtain ⟨e, _, rfl⟩ := List.mem_map.mp hy
    show [Dat.int e.1, .int 0, .tuple (toldDt e.2)].all (dOk 3) = true
    simp only [List.all_cons, List.all_nil, Bool.and_true, toldDt_ok]
    rfl
  · rw [List.mem_singleton.mp hx]; rfl
theorem numbers_m {w : World} {x dx D1 D2 : Addr} {od1 od2 : Obj} {k1 k2 : Int} {t1 t2 : Tok} {n : Nat} {kvs : List (Int × Value)} {ents : List (Int × Dt)} {rest news : Led} (S : ShelfIn w rest x ents dx D1 D2 od1 od2 k1 k2 t1 t2 n kvs) (hok : EntsOk ents) (hs : ∀ p ∈ rest, p ∈ news) :
    Does w 360 [.ref x] 1 [] news (fun r _ tl => Ex3 fun D vs n => An3 (r = .ref D) (tl = [(D, W.listOf (vs : List Value).toArray n)]) (PyProof.Rows.IntsAre vs (ents.map (·.1)))) := numbers_d (S.mono hs) hok
theorem told_dt_m {w : World} {v : Value} {d : Dt} {rest news : Led} (R : DtIn w rest v d) (hok : d.ok) (hs : ∀ p ∈ rest, p ∈ news) : Does w 277 [v] 4 [] news (fun r _ tl => (∃ T, r = .ref T) ∧ DatIn tl r (.tuple (toldDt d))) := told_dt_d (R.mono hs) hok
theorem ln_ED_1 : True := by
  (k_with "call ref" => (k_here; k_dflt ((refine' Does.useT (numbers_m ?zS ?zok ?zhs) ?zcB ?zcF ?zcX ?zcN ?zcT ?zchd ?zchu ?_); (case zcF => k_asm); (case zcN => k_extra "x n7"); (case zcB => assumption); (case zcX => assumption); (case zcT => assumption); (case zchd => k_extra "x room"); (case zchu => k_extra "x unit"); (case zS => assumption); (case zok => assumption); (case zhs => (intro q7 hq7 ; simp only [List.mem_cons, List.mem_append, hq7, true_or, or_true])); ((intro r9 tl9 h9 tk9 F9 N9 o9 P9); (obtain ⟨D9, vs9, n9, z0, z1, hI9⟩ := P9); (subst z0); (subst z1); (try simp only [List.nil_append, List.cons_append] at N9 o9); (try k_sweep); skip))))
  trivial
theorem ln_ED_2 : True := by
  (k_with "call ref" => (k_here; k_dflt ((refine' Does.useT (told_dt_m ?zR ?zok ?zhs) ?zcB ?zcF ?zcX ?zcN ?zcT ?zchd ?zchu ?_); (case zcF => k_asm); (case zcN => k_extra "x n7"); (case zcB => assumption); (case zcX => assumption); (case zcT => assumption); (case zchd => k_extra "x room"); (case zchu => k_extra "x unit"); (case zR => assumption); (case zok => assumption); (case zhs => (intro q7 hq7 ; simp only [List.mem_cons, List.mem_append, hq7, true_or, or_true])); ((intro r9 tl9 h9 tk9 F9 N9 o9 P9); (obtain ⟨⟨T9, z0⟩, hT9⟩ := P9); (subst z0); (try simp only [List.nil_append, List.cons_append] at N9 o9); (try k_sweep); skip))))
  trivial
theorem ln_ED_3 : True := by
  (k_with "subscriptTail Name Name ref int" => (k_here; k_dflt (refine' kda_item (knd := intKind prg _) ?zcN ?zhm ?zhd ?zhk ?zhl ?_; (case zcN => ((rename News _ _ _ _ => N7); exact N7)); (case zhd => assumption); (case zhm => (repeat (first | assumption | exact List.mem_append_right _ (by assumption) | refine List.mem_cons_of_mem _ ?_))); (case zhk => assumption); (case zhl => assumption))))
  trivial
theorem ln_ED_4 : True := by
  (k_with "subscriptTail Subscript" => (k_here; k_dflt (refine' item_tupleT ?zt ?za ?zb ?zc ?zd ?_; (case zt => (refine' News.isTup ?ztn ?ztm; (case ztn => ((rename News _ _ _ _ => N7); exact N7)); (case ztm => (repeat (first | assumption | exact List.mem_append_right _ (by assumption) | refine List.mem_cons_of_mem _ ?_))))); (case za => decide); (case zb => decide); (case zc => rfl); (case zd => rfl))))
  trivial
theorem ln_ED_5 : True := by
  (k_with "call type:tuple" => (k_here; k_dflt (refine' tupOf ?zF ?zN ?zb ?zz ?_; (case zF => k_asm); (case zN => ((rename News _ _ _ _ => N7); exact N7)); (case zb => (repeat (first | exact List.mem_cons_self .. | refine List.mem_cons_of_mem _ ?_))); (case zz => omega); (intro D9 h9 F9 N9 l9); (try k_sweep))))
  trivial
theorem mem_n5 {g h : Heap} {L : Addr} {acc r : Led} {a b c d e p : Addr × Obj} (_ : News g L h (a :: b :: c :: d :: e :: (acc ++ r))) (h : p ∈ r) : p ∈ a :: b :: c :: d :: e :: (acc ++ r) := .tail _ (.tail _ (.tail _ (.tail _ (.tail _ (List.mem_append.mpr (.inr h))))))
theorem mem_n4 {g h : Heap} {L : Addr} {acc r : Led} {a b c d p : Addr × Obj} (_ : News g L h (a :: b :: c :: d :: (acc ++ r))) (h : p ∈ r) : p ∈ a :: b :: c :: d :: (acc ++ r) := .tail _ (.tail _ (.tail _ (.tail _ (List.mem_append.mpr (.inr h)))))
theorem news_t3 {g h : Heap} {L : Addr} {t acc r : Led} {u y d k c : Addr × Obj} (N : News g L h (u :: (t ++ y :: d :: k :: c :: (acc ++ r)))) : News g L h ([] ++ ((u :: (t ++ y :: acc)) ++ r)) := (nA nN (nA (nC (nH N) (nA (nL (nT N)) (nC (nH (nR (nT N))) (nL (nT (nT (nT (nT (nR (nT N)))))))))) (nR (nT (nT (nT (nT (nR (nT N)))))))))
theorem ord_t3 {t acc r : Led} {u y d k c : Addr × Obj} (h0 : ∀ p ∈ t ++ y :: d :: k :: c :: (acc ++ r), p.1 < u.1) (h1 : ∀ q ∈ y :: d :: k :: c :: (acc ++ r), ∀ p ∈ t, q.1 ≠ p.1) (h2 : ∀ p ∈ d :: k :: c :: (acc ++ r), p.1 < y.1) (h4 : ∀ q ∈ r, ∀ p ∈ acc, q.1 ≠ p.1) : ∀ q ∈ [] ++ r, ∀ p ∈ u :: (t ++ y :: acc), q.1 ≠ p.1 := by
  intro q hq p hp
  have hq : q ∈ r := hq
  have hq' : q ∈ d :: k :: c :: (acc ++ r) := .tail _ (.tail _ (.tail _ (List.mem_append.mpr (.inr hq))))
  rcases List.mem_cons.mp hp with rfl | hp
  · exact Nat.ne_of_lt (h0 q (List.mem_append.mpr (.inr (.tail _ hq'))))
  · rcases List.mem_append.mp hp with hp | hp
    · exact h1 q (.tail _ hq') p hp
    · rcases List.mem_cons.mp hp with rfl | hp
      · exact Nat.ne_of_lt (h2 q hq')
      · exact h4 q hq p hp
theorem told_shelf_d {w : World} {x dx D1 D2 : Addr} {od1 od2 : Obj} {k1 k2 : Int} {t1 t2 : Tok} {n : Nat} {kvs : List (Int × Value)} {ents : List (Int × Dt)} {rest : Led} (S : ShelfIn w rest x ents dx D1 D2 od1 od2 k1 k2 t1 t2 n kvs) (hok : EntsOk ents) :
    Does w 372 [.ref x] 6 [] rest (fun r _ tl => (∃ T, r = .ref T) ∧ DatIn tl r (.tuple (shelfDat ents))) := by
  obtain ⟨m1, m2, m3, m4, lo1, lo2, h1, h2, rows⟩ := id S
  have hlen := rows.length
  have hlen8 := hok.1
  have hke := rows_keys rows
  have hnd := keys_nodup hok
  rw [← hke] at hnd
  refine' Does.ofC (binds := [(Str.ofString "self", .ref x)]) (al := []) (cm := lkm [(Str.ofString "self", some (.ref x))]) ?k6 ?kb ?ks ?k7 ?k9 ?kB ?knd ?c3 ?c4 ?c5 ?lv ?kal ?kcm ?kcf ?_
  (case k6 => k_dflt k_is); (case kb => conv => lhs; whnf); (case ks => conv => lhs; whnf); (case k7 => k_dflt k_is); (case k9 => exact rfl); (case kB => exact rfl); (case knd => decide); (case c3 => exact rfl); (case c4 => exact rfl); (case c5 => exact rfl); (case lv => decide); (case kal => exact fun _ => rfl); (case kcm => exact fun _ => rfl); (case kcf => exact fun _ => rfl)
  intro mean mg mb dp un outer base g L s cells E F N C hap B X T hlt hdp hun
  obtain ⟨o1, hcells, d1⟩ := CellsAre.one C; subst hcells; clear C
  (try simp only [List.nil_append, List.cons_append] at N hlt)
  k_fold
  ((first | replace d1 : _ = Data.cell (some _) := d1 | replace d1 : _ = Data.cell none := d1))
  (repeat' ((fail_if_success (with_reducible refine mark_lc ?_)); k_extra "x one"))
  ((rename Fr g L _ _ => F8); (rename News g L _ _ => N8))
  refine LCg.ListComp_U (cl := _) F8 rfl (by decide) rfl (by decide) rfl ?_
  (repeat' ((fail_if_success (with_reducible refine mark_cs ?_)); k_extra "x one"))
  rename PyProof.Rows.IntsAre _ (ents.map (·.1)) => hI
  have hIl := hI.length
  rw [List.length_map] at hIl
  ((rename Fr g L _ _ => F8); (rename News g L _ _ => N8))
  rename ∀ q ∈ _ :: rest, ∀ p ∈ [_], _ => o9
  rename List Value => vs9
  refine LCg.CompSrc.ledger (its := vs9.toArray) (k := n9) rfl F8 N8 (.head _) (by rw [sizeLine_eq, List.size_toArray]; omega) fun g9 => ?_
  refine comp_rule (fun i ys nw => ∃ acc, nw = (D9, W.listOf vs9.toArray n9) :: (L + 1, o1) :: (acc ++ rest) ∧ DatAll acc ys ((ents.take i).map shelfRow) ∧ (∀ q ∈ rest, ∀ p ∈ acc, q.1 ≠ p.1)) ⟨[], rfl, .nil, fun _ _ _ h => nomatch h⟩ (fun ys nw hj => ?_) (fun i v I oI C oC D m₂ h tk E' ys nw hi9 hP hj hC9 hv F1 N1 off ne => ?_)
  rotate_left
  · obtain ⟨acc, rfl, hys, har⟩ := hj
    have hv9 : vs9[i]? = some v := by simpa using hP
    obtain ⟨k, hk⟩ : ∃ k, (ents.map (·.1))[i]? = some k := ⟨_, List.getElem?_eq_getElem (by rw [List.length_map]; rw [List.size_toArray] at hi9; omega)⟩
    obtain ⟨tk9, hvk⟩ := hI.get i k hk
    rw [hv9] at hvk
    cases hvk
    obtain ⟨T, a, t, d, hq1, hq2, hT, hD⟩ := row_at rows hk
    have hva := valueAt_row hnd hq1
    have hdok : d.ok := (hok.2.2 _ (List.mem_of_getElem? hq2)).2.2
    have hsi := is_int (prog := prg) (w := w) (i := k) (t := tk9)
    have m1' := mem_n5 N1 m1
    have m2' := mem_n5 N1 m2
    k_extra "x steps"
    ((rename Fr g L _ _ => F8); (rename News g L _ _ => N8))
    rename ∀ q ∈ (I, oI) :: _, ∀ p ∈ _, _ => o8
    rename ∀ p ∈ _ ++ (I, oI) :: _, _ => l8
    rename DatIn _ (.ref _) _ => hT9
    obtain ⟨ot1, ot3⟩ := new_off2 [(D9, W.listOf vs9.toArray n9), (L + 1, o1)] o8
    refine ⟨_, _, [(D9, W.listOf vs9.toArray n9), (L + 1, o1)] ++ (((_ :: _) ++ acc) ++ rest), rfl, F8, news_c9 (t := _ :: _) [(D9, W.listOf vs9.toArray n9), (L + 1, o1)] N8, off3_ins2 [(D9, W.listOf vs9.toArray n9), (L + 1, o1)] off (fun p hp => ?_), .inr ⟨W.listOf vs9.toArray n9, .head _, rfl, _, rfl⟩, (_ :: _) ++ acc, rfl, ?_, fun q hq p hp => ?_⟩
    · rcases List.mem_cons.mp hp with rfl | hp
      · exact ⟨(Nat.ne_of_lt (l8 _ (List.mem_append.mpr (.inr (.head _))))).symm, (Nat.ne_of_lt (l8 _ (List.mem_append.mpr (.inr (.tail _ (.head _)))))).symm, (Nat.ne_of_lt (l8 _ (List.mem_append.mpr (.inr (.tail _ (.tail _ (.head _))))))).symm⟩
      · exact ot1 p hp
    · rw [take_snoc hq2, List.map_append]
      exact (hys.mono fun _ h => List.mem_append.mpr (.inr h)).append (.one (.tuple (.head _) (.cons (.int _ _) (.cons (.int _ _) (.one (hT9.mono fun _ h => List.mem_append.mpr (.inl (.tail _ h))))))))
    · rcases List.mem_append.mp hp with hp | hp
      · rcases List.mem_cons.mp hp with rfl | hp
        · exact Nat.ne_of_lt (l8 q (List.mem_append.mpr (.inr (.tail _ (.tail _ (.tail _ (.tail _ (.tail _ (List.mem_append.mpr (.inr hq))))))))))
        · exact ot3 q hq p hp
      · exact har q hq p hp
  obtain ⟨acc, rfl, hys, har⟩ := hj
  intro D h3 tk F3 N3 o3
  have hyl := hys.length
  rw [List.length_map, List.length_take] at hyl
  (repeat' ((fail_if_success (with_reducible refine mark_call ?_)); k_extra "x one"))
  ((rename Fr g L _ _ => F8); (rename News g L _ _ => N8))
  have m1' := mem_n4 N8 m1
  have m2' := mem_n4 N8 m2
  have hDt : DtIn w rest (.ref D2) (.dict []) := .dict m4 lo2 h2 .nil
  have hDo : (Dt.dict []).ok := ⟨⟨0, by decide, rfl⟩, fun _ h => nomatch h⟩
  rename ∀ p ∈ (D, LCg.lst ys) :: _, _ => l9
  clear o9
  k_extra "x steps"
  ((rename Fr g L _ _ => F8); (rename News g L _ _ => N8))
  rename ∀ q ∈ _ :: (D, LCg.lst ys) :: _, ∀ p ∈ _, _ => o9
  rename ∀ p ∈ _ ++ _ :: (D, LCg.lst ys) :: _, _ => l8
  rename DatIn _ (.ref _) _ => hT9
  refine ⟨_, [], (_, _) :: (_ ++ (_, tupObj ys) :: acc), _, _, rfl, F8, news_t3 N8, rfl, ord_t3 l8 o9 l9 har, ⟨_, rfl⟩, .tuple (.head _) (.cons (.tuple (.tail _ (List.mem_append.mpr (.inr (.head _)))) ?_) (.one (hT9.mono fun _ h => .tail _ (List.mem_append.mpr (.inl h)))))⟩
  rw [List.take_of_length_le (by rw [List.size_toArray]; omega)] at hys
  exact hys.mono fun _ h => .tail _ (List.mem_append.mpr (.inr (.tail _ h)))

theorem ln_EE : True := by
  k_with_none
  (k_with "ite" => first | with_reducible refine ite_tt ?_ | with_reducible refine ite_ff ?_)
  (k_with "execs nil" => (with_reducible refine wpAny_execs_nil ?_; (try dsimp only)))
  (k_with "execs cons" => (k_here; k_dflt (refine seqK ?_; (try dsimp only))))
  (k_with "x lia" => ((try clear cc); (try clear c2); (try clear lf); lia))
  (k_with "x n7" => ((rename News _ _ _ _ => N7); exact N7))
  (k_with "x room" => (first | exact room1 (by assumption) (by rfl) | exact room2 (by assumption) (by rfl) | omega))
  (k_with "x unit" => (first | exact unit1 (by assumption) (by rfl) | exact unit2 (by assumption) (by rfl) | omega))
  (k_with "x got" => ((first | ((with_reducible intro r9 h9 tk9 F9 N9 P9); (first | (obtain ⟨t9, e9⟩ := P9; subst e9) | (subst P9) | skip)) | (with_reducible intro t9 h9 tk9 F9 N9) | (with_reducible intro h9 tk9 F9 N9)); (try k_sweep)))
  (k_with "x one" => (first | (k_unfold; (try dsimp only)) | walk1 | (dsimp only; walk1)))
  (k_with "x g" => ((fail_if_success plain_pass); k_here))
  (k_with "x k" => (k_asm; k_extra "x n7"; k_extra "x ix"))
  (k_with "x c" => (k_extra "x k"; k_extra "x ev"; k_extra "x ev"))
  (k_with "x if" => (k_dflt (k_here; (with_reducible show wpAny _ _ (execs (Stmt.If (PySem.Expr.Compare (PySem.Expr.Name _ _) [CmpOp.Eq] [PySem.Expr.Constant (Const.str _) _ _] _) _ _ _ :: _) _) _ _ _); first | (apply xif_f; k_extra "x c"; exact rfl) | (apply xif_t; k_extra "x c"; exact rfl))))
  (k_with "x stmt" => ((first | k_extra "x if" | refine seqK ?_ | refine wpAny_execs_cons ?_); (repeat' ((fail_if_success (with_reducible refine mark_execs ?_)); k_extra "x one"))))
  (k_with "x steps" => (repeat' k_extra "x one"))
  (k_with "x ix" => (first | exact isX1 rfl | exact isX2 rfl | exact isX3 rfl))
  (k_with "x ev" => (first | exact Ev.str | exact Ev.int | exact Ev.none | exact Ev.bool | (apply Ev.name; exact rfl; exact rfl; exact rfl) | (apply Ev.cell; exact rfl; exact rfl; exact rfl; (first | k_mem | (repeat (first | exact List.mem_cons_self .. | refine List.mem_cons_of_mem _ ?_))); k_asm)))
  (k_with "x evs" => (focus ((repeat' (first | exact Evs.nil | apply Evs.int | (apply Evs.name; exact rfl; exact rfl; exact rfl) | (apply Evs.cell; exact rfl; exact rfl; exact rfl; (first | k_mem | (repeat (first | exact List.mem_cons_self .. | refine List.mem_cons_of_mem _ ?_))); k_asm) | exact Ev.str | exact Ev.none | exact Ev.bool | apply Evs.cons)); done)))
  (k_with "execs cons If" => ((fail_if_success plain_pass); k_extra "x if"))
  (k_with "isTrue Compare" => (k_extra "x g"; (with_reducible show wpAny _ _ (PySem.isTrue (PySem.Expr.Compare _ [_] [_] _) _ _) _ _ _); k_dflt (first | ((with_reducible show wpAny _ _ (PySem.isTrue (PySem.Expr.Compare _ [CmpOp.Eq] [_] _) _ _) _ _ _); apply ist_strL; k_extra "x c") | (apply ist_int; k_extra "x c"; exact rfl))))
  (k_with "eval Call Name" => (k_extra "x g"; k_dflt (first | (apply call_ev; exact rfl; exact rfl; exact rfl; k_extra "x k"; k_extra "x evs"; k_asm; k_asm; k_is; k_is) | (apply bcall_ev; exact rfl; exact rfl; exact rfl; exact rfl; k_extra "x k"; k_extra "x evs"; k_asm; k_asm; k_is; boot_fast; decide))))
  (k_with "callWith" => (k_extra "x g"; k_dflt (apply meth_ev; exact rfl; k_extra "x k"; k_extra "x evs")))
  (k_with "spliced" => (k_extra "x g"; k_dflt (apply args_ev; exact rfl; k_extra "x k"; k_extra "x evs")))
  (k_with "eval Attribute Name" => (k_extra "x g"; k_dflt (apply attr_ev; k_extra "x k"; k_extra "x ev")))
  (k_with "x ho" => ((try simp only [List.nil_append, List.cons_append]); (repeat' (first | (refine off1_of ?_; assumption) | (refine off1_lt ?_; assumption) | (refine off1_all ?_; assumption) | refine And.intro ?_ ?_ | exact trivial | ((show @Ne Nat _ _); omega) | refine off1_app ?_ ?_))))
  (k_with "x hz" => ((try simp only [Array.size_push, List.size_toArray, List.length_cons, List.length_nil, List.length_append]); omega))
  (k_with "x hm" => (repeat (first | exact List.mem_cons_self .. | exact List.mem_append_left _ (by assumption) | refine List.mem_cons_of_mem _ ?_)))
  (k_with "call builtin:list.append" => (k_here; k_dflt ((rename News _ _ _ _ => N7); (first | (refine' append_at [] _ ?zcF N7 ?zho ?zhz ?_) | (refine' append_at [_] _ ?zcF N7 ?zho ?zhz ?_) | (refine' append_at [_, _] _ ?zcF N7 ?zho ?zhz ?_) | (refine' append_at [_, _, _] _ ?zcF N7 ?zho ?zhz ?_)); (case zcF => k_asm); (case zho => k_extra "x ho"); (case zhz => k_extra "x hz"); ((intro h9 F9 N9); (try simp only [List.nil_append, List.cons_append] at N9); (try k_sweep)))))
  (k_with "call builtin:list.extend" => (k_here; k_dflt ((rename News _ _ _ _ => N7); (first | (refine' extend_at [] _ ?zcF N7 ?zhb ?zho ?zhne ?zhz ?_) | (refine' extend_at [_] _ ?zcF N7 ?zhb ?zho ?zhne ?zhz ?_) | (refine' extend_at [_, _] _ ?zcF N7 ?zhb ?zho ?zhne ?zhz ?_) | (refine' extend_at [_, _, _] _ ?zcF N7 ?zhb ?zho ?zhne ?zhz ?_)); (case zcF => k_asm); (case zhb => k_extra "x hm"); (case zho => k_extra "x ho"); (case zhne => k_extra "x hz"); (case zhz => k_extra "x hz"); ((intro h9 F9 N9); (try simp only [List.nil_append, List.cons_append] at N9); (try k_sweep)))))
  (k_with "assign Tuple" => (k_here; k_dflt (refine' unpackN_ ?zF ?zN ?zT ?zk1 ?zk2 ?zk3 ?_; (case zF => k_asm); (case zN => k_extra "x n7"); (case zT => (refine' News.isTup ?ztn ?ztm; (case ztn => k_extra "x n7"); (case ztm => (repeat (first | assumption | exact List.mem_cons_self .. | exact List.mem_append_left _ (by assumption) | refine List.mem_cons_of_mem _ ?_))))); (case zk1 => exact rfl); (case zk2 => with_unfolding_all exact rfl); (case zk3 => with_unfolding_all exact rfl)); intro h' F' N'; (try k_sweep)))
  (k_with "setItem ref int" => (k_here; k_dflt ((rename News _ _ _ _ => N7); (first | (refine' dset_at (K := Int) (knd := intKind prg _) [] _ ?zcF N7 ?zhd ?zhk ?zho ?zhz ?_; (case zhd => assumption)) | (refine' dset_at (K := Int) (knd := intKind prg _) [_] _ ?zcF N7 ?zhd ?zhk ?zho ?zhz ?_; (case zhd => assumption)) | (refine' dset_at (K := Int) (knd := intKind prg _) [_, _] _ ?zcF N7 ?zhd ?zhk ?zho ?zhz ?_; (case zhd => assumption))); (case zcF => k_asm); (case zhk => exact is_int); (case zho => k_extra "x ho"); (case zhz => omega); ((intro h9 o9 F9 N9 hd9); (try simp only [List.nil_append, List.cons_append] at N9); (try k_sweep)))))
  (k_with "call builtin:list.pop" => (k_here; k_dflt ((rename News _ _ _ _ => N7); (first | (refine' pop_at [] _ ?zcF N7 ?zhi ?zho ?zhne ?zhz ?_; (case zhi => assumption)) | (refine' pop_at [_] _ ?zcF N7 ?zhi ?zho ?zhne ?zhz ?_; (case zhi => assumption))); (case zcF => k_asm); (case zho => k_extra "x ho"); (case zhne => omega); (case zhz => omega); ((intro h9 t9 us9 n9 F9 N9 hI9 hs9); (try simp only [List.nil_append, List.cons_append] at N9); (try k_sweep)))))
  (k_with "truthy ref" => (k_here; k_dflt ((rename News _ _ _ _ => N7); refine' truthy_at N7 ?zhm ?zhz ?_ ?_; (case zhm => k_extra "x hm"); (case zhz => omega)); intro htr))
  trivial
theorem kind_dt_m3 {w : World} {v : Value} {d : Dt} {rest : Led} (R : DtIn w rest v d) : Does w 265 [v] 1 [] rest (fun r _ tl => tl = [] ∧ ∃ tk, r = .str d.kind tk) := kind_dt R
theorem in2_d {prog : Program} {w : World} {A : Around} {E : Value → Shared → Prop} {s : Shared} {t : Addr} {items : Array Value} {u : Tok} {Q : Value → Shared → Prop} {d : Dt} (hok : d.ok) (ht : IsTup s.heap t items) (hi : StrsAre items.toList [Str.ofString "stream", Str.ofString "ref"]) (h : Q (.bool false) s) : wpAny (model prog w) A (compareOp .In (.str d.kind u) (.ref t)) Q E s := by
  refine in_tuple_strs ht hi ?_
  have e : ([Str.ofString "stream", Str.ofString "ref"].any (· == d.kind)) = false := by
    cases d with
    | leaf l =>
      cases l with
      | ref _ _ => exact hok.2.elim
      | _ => rfl
    | arr _ => rfl
    | dict _ => rfl
  rw [e]; exact h
theorem ln_EE_1 : True := by
  (k_with "compareOp In str ref" => (k_here; k_dflt (refine' in2_d ?zkb ?zk1 ?zk2 ?_; (case zkb => assumption); (case zk1 => exact News.isTup (by k_asm) (by news_mem)); (case zk2 => ((repeat constructor); first | done | fail "a goal is left")))))
  trivial
theorem ln_EE_2 : True := by
  (k_with "call ref" => (k_here; k_dflt ((first | refine' Does.use0E (kind_dt_m3 ?zp0) ?zcB ?zcF ?zcX ?zcN ?zcT ?zchd ?zchu ?_ | refine' Does.use0V (kind_dt_m3 ?zp0) ?zcB ?zcF ?zcX ?zcN ?zcT ?zchd ?zchu ?_ | refine' Does.use0 (kind_dt_m3 ?zp0) ?zcB ?zcF ?zcX ?zcN ?zcT ?zchd ?zchu ?_); (case zcB => assumption); (case zcF => k_asm); (case zcX => assumption); (case zcN => k_asm); (case zcT => assumption); (case zchd => k_extra "x room"); (case zchu => k_extra "x unit"); (case zp0 => assumption); (k_extra "x got"); (try simp only [Lf.kind, Dt.kind]))))
  trivial
theorem ln_EE_3 : True := by
  (k_with "getMethod ref" => (k_here; k_dflt (refine' kdg_method (knd := PySem.strKind prg _) ?zN ?zm ?zd ?_; (case zN => ((rename News _ _ _ _ => N7); exact N7)); (case zm => (repeat (first | assumption | exact List.mem_cons_self .. | exact List.mem_append_left _ (by assumption) | exact List.mem_append_right _ (by assumption) | refine List.mem_cons_of_mem _ ?_))); (case zd => assumption))))
  trivial
theorem ln_EE_4 : True := by
  (k_with "call builtin:dict.get" => (k_here; k_dflt (refine' kdg_get1 (knd := PySem.strKind prg _) ?zN ?zm ?zd ?zlo ?zk none ?zl ?_; (case zN => ((rename News _ _ _ _ => N7); exact N7)); (case zm => (repeat (first | assumption | exact List.mem_cons_self .. | exact List.mem_append_left _ (by assumption) | exact List.mem_append_right _ (by assumption) | refine List.mem_cons_of_mem _ ?_))); (case zd => assumption); (case zlo => assumption); (case zk => exact is_strL); (case zl => exact rfl); (try dsimp only [Option.getD]))))
  trivial
theorem may_be_packed_d {w : World} {k : Int} {tk tg : Tok} {v : Value} {d : Dt} {D2 : Addr} {od2 : Obj} {rest : Led} (hk : 1 ≤ k) (R : DtIn w rest v d) (hok : d.ok) (m4 : (D2, od2) ∈ rest) (lo2 : (D2 == sysModules) = false) (h2 : od2.IsDictOf (PySem.strKind prg w) []) :
    Does w 508 [.int k tk, .int 0 tg, v, .ref D2] 2 [] rest (fun r _ tl => tl = [] ∧ r = .bool true) := by
  refine' Does.of (binds := [(Str.ofString "number", .int k tk), (Str.ofString "generation", .int 0 tg), (Str.ofString "value", v), (Str.ofString "trailer", .ref D2)]) (al := [(Str.ofString "trailer", some (.ref D2)), (Str.ofString "value", some (v)), (Str.ofString "generation", some (.int 0 tg)), (Str.ofString "number", some (.int k tk))]) ?k6 ?kb ?ks ?k7 ?k9 ?kB ?c5 ?c2 ?c3 ?c4 ?lv ?kal ?_
  (case k6 => k_dflt k_is); (case kb => conv => lhs; whnf); (case ks => conv => lhs; whnf); (case k7 => k_dflt k_is); (case k9 => exact rfl); (case kB => exact locs rfl); (case c5 => decide); (case c2 => exact rfl); (case c3 => exact rfl); (case c4 => exact rfl); (case lv => decide); (case kal => exact rfl)
  intro mean mg mb dp un outer base g L s E F N hap B X T hlt hdp hun
  (try simp only [List.nil_append, List.cons_append] at N hlt)
  k_fold
  k_extra "x steps"
  ((rename Fr g L _ _ => F8); (rename News g L _ _ => N8))
  exact ⟨_, [], [], _, _, rfl, F8, (fun p hp => N8 p (.tail _ hp)), rfl, (fun _ _ _ h => nomatch h), rfl, rfl⟩

theorem ln_EF : True := by
  k_with_none
  (k_with "ite" => first | with_reducible refine ite_tt ?_ | with_reducible refine ite_ff ?_)
  (k_with "execs nil" => (with_reducible refine wpAny_execs_nil ?_; (try dsimp only)))
  (k_with "execs cons" => (k_here; k_dflt (refine seqK ?_; (try dsimp only))))
  (k_with "x lia" => ((try clear cc); (try clear c2); (try clear lf); lia))
  (k_with "x n7" => ((rename News _ _ _ _ => N7); exact N7))
  (k_with "x room" => (first | exact room1 (by assumption) (by rfl) | exact room2 (by assumption) (by rfl) | omega))
  (k_with "x unit" => (first | exact unit1 (by assumption) (by rfl) | exact unit2 (by assumption) (by rfl) | omega))
  (k_with "x got" => ((first | ((with_reducible intro r9 h9 tk9 F9 N9 P9); (first | (obtain ⟨t9, e9⟩ := P9; subst e9) | (subst P9) | skip)) | (with_reducible intro t9 h9 tk9 F9 N9) | (with_reducible intro h9 tk9 F9 N9)); (try k_sweep)))
  (k_with "x one" => (first | (k_unfold; (try dsimp only)) | walk1 | (dsimp only; walk1)))
  (k_with "x g" => ((fail_if_success plain_pass); k_here))
  (k_with "x k" => (k_asm; k_extra "x n7"; k_extra "x ix"))
  (k_with "x c" => (k_extra "x k"; k_extra "x ev"; k_extra "x ev"))
  (k_with "x if" => (k_dflt (k_here; (with_reducible show wpAny _ _ (execs (Stmt.If (PySem.Expr.Compare (PySem.Expr.Name _ _) [CmpOp.Eq] [PySem.Expr.Constant (Const.str _) _ _] _) _ _ _ :: _) _) _ _ _); first | (apply xif_f; k_extra "x c"; exact rfl) | (apply xif_t; k_extra "x c"; exact rfl))))
  (k_with "x stmt" => ((first | k_extra "x if" | refine seqK ?_ | refine wpAny_execs_cons ?_); (repeat' ((fail_if_success (with_reducible refine mark_execs ?_)); k_extra "x one"))))
  (k_with "x steps" => (repeat' k_extra "x one"))
  (k_with "x ix" => (first | exact isX1 rfl | exact isX2 rfl | exact isX3 rfl))
  (k_with "x ev" => (first | exact Ev.str | exact Ev.int | exact Ev.none | exact Ev.bool | (apply Ev.name; exact rfl; exact rfl; exact rfl) | (apply Ev.cell; exact rfl; exact rfl; exact rfl; (first | k_mem | (repeat (first | exact List.mem_cons_self .. | refine List.mem_cons_of_mem _ ?_))); k_asm)))
  (k_with "x evs" => (focus ((repeat' (first | exact Evs.nil | apply Evs.int | (apply Evs.name; exact rfl; exact rfl; exact rfl) | (apply Evs.cell; exact rfl; exact rfl; exact rfl; (first | k_mem | (repeat (first | exact List.mem_cons_self .. | refine List.mem_cons_of_mem _ ?_))); k_asm) | exact Ev.str | exact Ev.none | exact Ev.bool | apply Evs.cons)); done)))
  (k_with "execs cons If" => ((fail_if_success plain_pass); k_extra "x if"))
  (k_with "isTrue Compare" => (k_extra "x g"; (with_reducible show wpAny _ _ (PySem.isTrue (PySem.Expr.Compare _ [_] [_] _) _ _) _ _ _); k_dflt (first | ((with_reducible show wpAny _ _ (PySem.isTrue (PySem.Expr.Compare _ [CmpOp.Eq] [_] _) _ _) _ _ _); apply ist_strL; k_extra "x c") | (apply ist_int; k_extra "x c"; exact rfl))))
  (k_with "eval Call Name" => (k_extra "x g"; k_dflt (first | (apply call_ev; exact rfl; exact rfl; exact rfl; k_extra "x k"; k_extra "x evs"; k_asm; k_asm; k_is; k_is) | (apply bcall_ev; exact rfl; exact rfl; exact rfl; exact rfl; k_extra "x k"; k_extra "x evs"; k_asm; k_asm; k_is; boot_fast; decide))))
  (k_with "callWith" => (k_extra "x g"; k_dflt (apply meth_ev; exact rfl; k_extra "x k"; k_extra "x evs")))
  (k_with "spliced" => (k_extra "x g"; k_dflt (apply args_ev; exact rfl; k_extra "x k"; k_extra "x evs")))
  (k_with "eval Attribute Name" => (k_extra "x g"; k_dflt (apply attr_ev; k_extra "x k"; k_extra "x ev")))
  (k_with "x ho" => ((try simp only [List.nil_append, List.cons_append]); (repeat' (first | (refine off1_of ?_; assumption) | (refine off1_lt ?_; assumption) | (refine off1_all ?_; assumption) | refine And.intro ?_ ?_ | exact trivial | ((show @Ne Nat _ _); omega) | refine off1_app ?_ ?_))))
  (k_with "x hz" => ((try simp only [Array.size_push, List.size_toArray, List.length_cons, List.length_nil, List.length_append]); omega))
  (k_with "x hm" => (repeat (first | exact List.mem_cons_self .. | exact List.mem_append_left _ (by assumption) | refine List.mem_cons_of_mem _ ?_)))
  (k_with "call builtin:list.append" => (k_here; k_dflt ((rename News _ _ _ _ => N7); (first | (refine' append_at [] _ ?zcF N7 ?zho ?zhz ?_) | (refine' append_at [_] _ ?zcF N7 ?zho ?zhz ?_) | (refine' append_at [_, _] _ ?zcF N7 ?zho ?zhz ?_) | (refine' append_at [_, _, _] _ ?zcF N7 ?zho ?zhz ?_)); (case zcF => k_asm); (case zho => k_extra "x ho"); (case zhz => k_extra "x hz"); ((intro h9 F9 N9); (try simp only [List.nil_append, List.cons_append] at N9); (try k_sweep)))))
  (k_with "call builtin:list.extend" => (k_here; k_dflt ((rename News _ _ _ _ => N7); (first | (refine' extend_at [] _ ?zcF N7 ?zhb ?zho ?zhne ?zhz ?_) | (refine' extend_at [_] _ ?zcF N7 ?zhb ?zho ?zhne ?zhz ?_) | (refine' extend_at [_, _] _ ?zcF N7 ?zhb ?zho ?zhne ?zhz ?_) | (refine' extend_at [_, _, _] _ ?zcF N7 ?zhb ?zho ?zhne ?zhz ?_)); (case zcF => k_asm); (case zhb => k_extra "x hm"); (case zho => k_extra "x ho"); (case zhne => k_extra "x hz"); (case zhz => k_extra "x hz"); ((intro h9 F9 N9); (try simp only [List.nil_append, List.cons_append] at N9); (try k_sweep)))))
  (k_with "assign Tuple" => (k_here; k_dflt (refine' unpackN_ ?zF ?zN ?zT ?zk1 ?zk2 ?zk3 ?_; (case zF => k_asm); (case zN => k_extra "x n7"); (case zT => (refine' News.isTup ?ztn ?ztm; (case ztn => k_extra "x n7"); (case ztm => (repeat (first | assumption | exact List.mem_cons_self .. | exact List.mem_append_left _ (by assumption) | refine List.mem_cons_of_mem _ ?_))))); (case zk1 => exact rfl); (case zk2 => with_unfolding_all exact rfl); (case zk3 => with_unfolding_all exact rfl)); intro h' F' N'; (try k_sweep)))
  (k_with "setItem ref int" => (k_here; k_dflt ((rename News _ _ _ _ => N7); (first | (refine' dset_at (K := Int) (knd := intKind prg _) [] _ ?zcF N7 ?zhd ?zhk ?zho ?zhz ?_; (case zhd => assumption)) | (refine' dset_at (K := Int) (knd := intKind prg _) [_] _ ?zcF N7 ?zhd ?zhk ?zho ?zhz ?_; (case zhd => assumption)) | (refine' dset_at (K := Int) (knd := intKind prg _) [_, _] _ ?zcF N7 ?zhd ?zhk ?zho ?zhz ?_; (case zhd => assumption))); (case zcF => k_asm); (case zhk => exact is_int); (case zho => k_extra "x ho"); (case zhz => omega); ((intro h9 o9 F9 N9 hd9); (try simp only [List.nil_append, List.cons_append] at N9); (try k_sweep)))))
  (k_with "call builtin:list.pop" => (k_here; k_dflt ((rename News _ _ _ _ => N7); (first | (refine' pop_at [] _ ?zcF N7 ?zhi ?zho ?zhne ?zhz ?_; (case zhi => assumption)) | (refine' pop_at [_] _ ?zcF N7 ?zhi ?zho ?zhne ?zhz ?_; (case zhi => assumption))); (case zcF => k_asm); (case zho => k_extra "x ho"); (case zhne => omega); (case zhz => omega); ((intro h9 t9 us9 n9 F9 N9 hI9 hs9); (try simp only [List.nil_append, List.cons_append] at N9); (try k_sweep)))))
  (k_with "truthy ref" => (k_here; k_dflt ((rename News _ _ _ _ => N7); refine' truthy_at N7 ?zhm ?zhz ?_ ?_; (case zhm => k_extra "x hm"); (case zhz => omega)); intro htr))
  trivial
theorem ln_EF_1 : True := by
  (k_with "own" => exact kitx_own (by k_dflt k_is) (by k_dflt k_is) (by k_dflt k_is) (by k_dflt k_is) (by k_dflt k_is) (by k_dflt k_is))
  trivial
theorem ln_EF_2 : True := by
  (k_with "kit" => kit_is)
  trivial
theorem ln_EF_3 : True := by
  (k_with "call ref" => (k_here; k_dflt ((refine' Does.useT (numbers_m ?zS ?zok ?zhs) ?zcB ?zcF ?zcX ?zcN ?zcT ?zchd ?zchu ?_); (case zcF => k_asm); (case zcN => k_extra "x n7"); (case zcB => assumption); (case zcX => assumption); (case zcT => assumption); (case zchd => k_extra "x room"); (case zchu => k_extra "x unit"); (case zS => assumption); (case zok => assumption); (case zhs => (intro q7 hq7 ; simp only [List.mem_cons, List.mem_append, hq7, true_or, or_true])); ((intro r9 tl9 h9 tk9 F9 N9 o9 P9); (obtain ⟨D9, vs9, n9, z0, z1, hI9⟩ := P9); (subst z0); (subst z1); (try simp only [List.nil_append, List.cons_append] at N9 o9); (try k_sweep); skip))))
  trivial
theorem mem_n2 {g h : Heap} {L : Addr} {o r : Led} {a b p : Addr × Obj} (_ : News g L h (a :: b :: (r ++ o))) (h : p ∈ r) : p ∈ a :: b :: (r ++ o) := .tail _ (.tail _ (List.mem_append.mpr (.inl h)))
theorem ln_EF_4 : True := by
  (k_with "subscriptTail Name Name ref int" => (k_here; k_dflt (refine' kda_item (knd := intKind prg _) ?zcN ?zhm ?zhd ?zhk ?zhl ?_; (case zcN => ((rename News _ _ _ _ => N7); exact N7)); (case zhd => assumption); (case zhm => (repeat (first | assumption | exact List.mem_cons_self .. | exact List.mem_append_left _ (by assumption) | exact List.mem_append_right _ (by assumption) | refine List.mem_cons_of_mem _ ?_))); (case zhk => assumption); (case zhl => assumption))))
  trivial
theorem ln_EF_5 : True := by
  (k_with "subscriptTail Subscript" => (k_here; k_dflt (refine' item_tupleT ?zt ?za ?zb ?zc ?zd ?_; (case zt => (refine' News.isTup ?ztn ?ztm; (case ztn => ((rename News _ _ _ _ => N7); exact N7)); (case ztm => (repeat (first | assumption | exact List.mem_cons_self .. | exact List.mem_append_left _ (by assumption) | exact List.mem_append_right _ (by assumption) | refine List.mem_cons_of_mem _ ?_))))); (case za => decide); (case zb => decide); (case zc => rfl); (case zd => rfl))))
  trivial
theorem isin_stream {w : World} {A : Around} {E : Value → Shared → Prop} {s : Shared} {g : Heap} {L : Addr} {news : Led} {v : Value} {d : Dt} {Q : Value → Shared → Prop} (X : (Kf w.params).In s.heap) (N : News g L s.heap news) (R : DtIn w news v d) (h : ∀ tk, Q (.bool false) { s with toks := tk }) : wpAny (model prg w) A (call (.builtin "isinstance") [v, .ref 226]) Q E s := by
  cases R with
  | leaf R =>
    cases R with
    | null => exact kia_one kitx_none X trivial (by kit_is) (by intro q; cases q) h
    | truth b => exact kia_one kitx_bool X trivial (by kit_is) (by intro q; cases q) h
    | int i t => exact kia_one kitx_int X trivial (by kit_is) (by intro q; cases q) h
    | real h1 h2 => exact kia_one (H := fun h => PySem.W.InstAt h _ _ _ _) (by walk_at "own") X (inst_of_news N h1 h2) (by kit_is) (by intro q; cases q) h
    | name h1 h2 => exact kia_one (H := fun h => PySem.W.InstAt h _ _ _ _) (by walk_at "own") X (inst_of_news N h1 h2) (by kit_is) (by intro q; cases q) h
    | str h1 h2 => exact kia_one (H := fun h => PySem.W.InstAt h _ _ _ _) (by walk_at "own") X (inst_of_news N h1 h2) (by kit_is) (by intro q; cases q) h
    | ref h1 h2 => exact kia_one (H := fun h => PySem.W.InstAt h _ _ _ _) (by walk_at "own") X (inst_of_news N h1 h2) (by kit_is) (by intro q; cases q) h
  | arr h1 h2 => exact kia_one kitx_list X ⟨_, N.get h1, rfl⟩ (by kit_is) (by intro q; cases q) h
  | dict h1 h2 h3 h4 => exact kia_one kitx_dict X ⟨_, N.get h1, (let ⟨_, _, x, _⟩ := h3; x.1)⟩ (by kit_is) (by intro q; cases q) h
theorem ln_EF_6 : True := by
  (k_with "call builtin:isinstance" => (k_here; k_dflt (refine' isin_stream ?zX ?zN ?zR ?_; (case zX => k_in); (case zN => ((rename News _ _ _ _ => N7); exact N7)); (case zR => assumption); intro tk9)))
  trivial
theorem news_k13 {g h : Heap} {L : Addr} {a b c : Addr × Obj} {r : Led} (N : News g L h (a :: b :: c :: r)) : News g L h (a :: r) := (nC (nH N) (nT (nT (nT N))))
theorem length_numbers_d {w : World} {x dx D1 D2 : Addr} {od1 od2 : Obj} {k1 k2 : Int} {t1 t2 : Tok} {n : Nat} {kvs : List (Int × Value)} {ents : List (Int × Dt)} {rest : Led} (S : ShelfIn w rest x ents dx D1 D2 od1 od2 k1 k2 t1 t2 n kvs) (hok : EntsOk ents) :
    Does w 515 [.ref x] 3 [] rest (fun r _ tl => ∃ D n, r = .ref D ∧ tl = [(D, W.listOf #[] n)]) := by
  obtain ⟨m1, m2, m3, m4, lo1, lo2, h1, h2, rows⟩ := id S
  have hlen := rows.length
  have hlen8 := hok.1
  have hke := rows_keys rows
  have hnd := keys_nodup hok
  rw [← hke] at hnd
  refine' Does.of (binds := [(Str.ofString "shelf", .ref x)]) (al := [(Str.ofString "shelf", some (.ref x))]) ?k6 ?kb ?ks ?k7 ?k9 ?kB ?c5 ?c2 ?c3 ?c4 ?lv ?kal ?_
  (case k6 => k_dflt k_is); (case kb => conv => lhs; whnf); (case ks => conv => lhs; whnf); (case k7 => k_dflt k_is); (case k9 => exact rfl); (case kB => exact locs rfl); (case c5 => decide); (case c2 => exact rfl); (case c3 => exact rfl); (case c4 => exact rfl); (case lv => decide); (case kal => exact rfl)
  intro mean mg mb dp un outer base g L s E F N hap B X T hlt hdp hun
  (try simp only [List.nil_append, List.cons_append] at N hlt)
  k_fold
  (repeat' ((fail_if_success (with_reducible refine mark_pi ?_)); k_extra "x one"))
  rename PyProof.Rows.IntsAre _ (ents.map (·.1)) => hI
  have hIl := hI.length
  rw [List.length_map] at hIl
  rename ∀ q ∈ _ :: rest, ∀ p ∈ [_], _ => o9
  rename ∀ p ∈ rest, p.1 < _ => l9
  rename List Value => vs9
  ((rename Fr g L _ _ => F7); (rename News g L _ _ => N8); (have F8 := Fr_sel [Str.ofString "number", Str.ofString "value", Str.ofString "found", Str.ofString "shelf"] (al := [(_, _), (_, _)]) F7 (by rfl)); clear F7)
  rename_i D9 n9
  obtain ⟨e1, he1, N8⟩ := snd_ex N8
  refine list_loop (fun i al nx => ∃ o1 o2, nx = (D9, W.listOf vs9.toArray n9) :: e1 :: rest ∧ al = [(Str.ofString "number", o1), (Str.ofString "value", o2), (Str.ofString "found", some (.ref e1.1)), (Str.ofString "shelf", some (.ref x))]) F8 N8 (.head _) ⟨_, _, rfl, by rw [he1]; rfl⟩ ?_ ?_
  · rintro i v al₁ news₁ h tk own hv ho hm ⟨o1, o2, rfl, rfl⟩ F1 N1
    replace N1 : News g L h ((D9, W.listOf vs9.toArray n9) :: e1 :: (rest ++ own)) := N1
    obtain ⟨k, hk⟩ : ∃ k, (ents.map (·.1))[i]? = some k := ⟨_, List.getElem?_eq_getElem (by rw [List.length_map, ← hIl]; exact (List.getElem?_eq_some_iff.mp hv).1)⟩
    obtain ⟨tk9, hvk⟩ := hI.get i k hk
    rw [hv] at hvk
    cases hvk
    obtain ⟨T, a, t, d, hq1, hq2, hT, hD⟩ := row_at rows hk
    have hva := valueAt_row hnd hq1
    have hdok : d.ok := (hok.2.2 _ (List.mem_of_getElem? hq2)).2.2
    have hsi := is_int (prog := prg) (w := w) (i := k) (t := tk9)
    have m1' := mem_n2 N1 m1
    have m2' := mem_n2 N1 m2
    have hD' : DtIn w ((D9, W.listOf vs9.toArray n9) :: e1 :: (rest ++ own)) a d := hD.mono fun _ h => mem_n2 N1 h
    k_extra "x steps"
    ((rename Fr g L _ _ => F8); (rename News g L _ _ => N8))
    refine ⟨_, _, _, (D9, W.listOf vs9.toArray n9) :: e1 :: rest, rfl, Fr_sel [Str.ofString "number", Str.ofString "value", Str.ofString "found", Str.ofString "shelf"] (al := [(_, _), (_, _), (_, _), (_, _), (_, _), (_, _)]) F8 (by rfl), N8, ho, .head _, _, _, rfl, rfl⟩
  · rintro al₁ news₁ h tk ⟨o1, o2, rfl, rfl⟩ F1 N1
    try dsimp only
    subst he1
    k_extra "x steps"
    ((rename Fr g L _ _ => F8); (rename News g L _ _ => N8))
    rename List.length _ = 0 => hz
    rename PyProof.Rows.IntsAre _ _ => hI2
    rename _ ∧ _ ∧ AllLt _ rest => l3
    have hz2 := hI2.length
    rw [hz] at hz2
    have hz3 := List.eq_nil_of_length_eq_zero hz2
    rw [hz3] at N8
    exact ⟨_, [], [(_, _)], _, _, rfl, F8, news_k13 N8, rfl, (fun q hq p hp => by rw [List.mem_singleton.mp hp]; exact Nat.ne_of_lt (allLt_mem l3.2.2 q hq)), _, _, rfl, rfl⟩

theorem ln_EG : True := by
  k_with_none
  (k_with "ite" => first | with_reducible refine ite_tt ?_ | with_reducible refine ite_ff ?_)
  (k_with "execs nil" => (with_reducible refine wpAny_execs_nil ?_; (try dsimp only)))
  (k_with "execs cons" => (k_here; k_dflt (refine seqK ?_; (try dsimp only))))
  (k_with "x lia" => ((try clear cc); (try clear c2); (try clear lf); lia))
  (k_with "x n7" => ((rename News _ _ _ _ => N7); exact N7))
  (k_with "x room" => (first | exact room1 (by assumption) (by rfl) | exact room2 (by assumption) (by rfl) | omega))
  (k_with "x unit" => (first | exact unit1 (by assumption) (by rfl) | exact unit2 (by assumption) (by rfl) | omega))
  (k_with "x got" => ((first | ((with_reducible intro r9 h9 tk9 F9 N9 P9); (first | (obtain ⟨t9, e9⟩ := P9; subst e9) | (subst P9) | skip)) | (with_reducible intro t9 h9 tk9 F9 N9) | (with_reducible intro h9 tk9 F9 N9)); (try k_sweep)))
  (k_with "x one" => (first | (k_unfold; (try dsimp only)) | walk1 | (dsimp only; walk1)))
  (k_with "x g" => ((fail_if_success plain_pass); k_here))
  (k_with "x k" => (k_asm; k_extra "x n7"; k_extra "x ix"))
  (k_with "x c" => (k_extra "x k"; k_extra "x ev"; k_extra "x ev"))
  (k_with "x if" => (k_dflt (k_here; (with_reducible show wpAny _ _ (execs (Stmt.If (PySem.Expr.Compare (PySem.Expr.Name _ _) [CmpOp.Eq] [PySem.Expr.Constant (Const.str _) _ _] _) _ _ _ :: _) _) _ _ _); first | (apply xif_f; k_extra "x c"; exact rfl) | (apply xif_t; k_extra "x c"; exact rfl))))
  (k_with "x stmt" => ((first | k_extra "x if" | refine seqK ?_ | refine wpAny_execs_cons ?_); (repeat' ((fail_if_success (with_reducible refine mark_execs ?_)); k_extra "x one"))))
  (k_with "x steps" => (repeat' k_extra "x one"))
  (k_with "x ix" => (first | exact isX1 rfl | exact isX2 rfl | exact isX3 rfl))
  (k_with "x ev" => (first | exact Ev.str | exact Ev.int | exact Ev.none | exact Ev.bool | (apply Ev.name; exact rfl; exact rfl; exact rfl) | (apply Ev.cell; exact rfl; exact rfl; exact rfl; (first | k_mem | (repeat (first | exact List.mem_cons_self .. | refine List.mem_cons_of_mem _ ?_))); k_asm)))
  (k_with "x evs" => (focus ((repeat' (first | exact Evs.nil | apply Evs.int | (apply Evs.name; exact rfl; exact rfl; exact rfl) | (apply Evs.cell; exact rfl; exact rfl; exact rfl; (first | k_mem | (repeat (first | exact List.mem_cons_self .. | refine List.mem_cons_of_mem _ ?_))); k_asm) | exact Ev.str | exact Ev.none | exact Ev.bool | apply Evs.cons)); done)))
  (k_with "execs cons If" => ((fail_if_success plain_pass); k_extra "x if"))
  (k_with "isTrue Compare" => (k_extra "x g"; (with_reducible show wpAny _ _ (PySem.isTrue (PySem.Expr.Compare _ [_] [_] _) _ _) _ _ _); k_dflt (first | ((with_reducible show wpAny _ _ (PySem.isTrue (PySem.Expr.Compare _ [CmpOp.Eq] [_] _) _ _) _ _ _); apply ist_strL; k_extra "x c") | (apply ist_int; k_extra "x c"; exact rfl))))
  (k_with "eval Call Name" => (k_extra "x g"; k_dflt (first | (apply call_ev; exact rfl; exact rfl; exact rfl; k_extra "x k"; k_extra "x evs"; k_asm; k_asm; k_is; k_is) | (apply bcall_ev; exact rfl; exact rfl; exact rfl; exact rfl; k_extra "x k"; k_extra "x evs"; k_asm; k_asm; k_is; boot_fast; decide))))
  (k_with "callWith" => (k_extra "x g"; k_dflt (apply meth_ev; exact rfl; k_extra "x k"; k_extra "x evs")))
  (k_with "spliced" => (k_extra "x g"; k_dflt (apply args_ev; exact rfl; k_extra "x k"; k_extra "x evs")))
  (k_with "eval Attribute Name" => (k_extra "x g"; k_dflt (apply attr_ev; k_extra "x k"; k_extra "x ev")))
  (k_with "x ho" => ((try simp only [List.nil_append, List.cons_append]); (repeat' (first | (refine off1_of ?_; assumption) | (refine off1_lt ?_; assumption) | (refine off1_all ?_; assumption) | refine And.intro ?_ ?_ | exact trivial | ((show @Ne Nat _ _); omega) | refine off1_app ?_ ?_))))
  (k_with "x hz" => ((try simp only [Array.size_push, List.size_toArray, List.length_cons, List.length_nil, List.length_append]); omega))
  (k_with "x hm" => (repeat (first | exact List.mem_cons_self .. | exact List.mem_append_left _ (by assumption) | refine List.mem_cons_of_mem _ ?_)))
  (k_with "call builtin:list.append" => (k_here; k_dflt ((rename News _ _ _ _ => N7); (first | (refine' append_at [] _ ?zcF N7 ?zho ?zhz ?_) | (refine' append_at [_] _ ?zcF N7 ?zho ?zhz ?_) | (refine' append_at [_, _] _ ?zcF N7 ?zho ?zhz ?_) | (refine' append_at [_, _, _] _ ?zcF N7 ?zho ?zhz ?_)); (case zcF => k_asm); (case zho => k_extra "x ho"); (case zhz => k_extra "x hz"); ((intro h9 F9 N9); (try simp only [List.nil_append, List.cons_append] at N9); (try k_sweep)))))
  (k_with "call builtin:list.extend" => (k_here; k_dflt ((rename News _ _ _ _ => N7); (first | (refine' extend_at [] _ ?zcF N7 ?zhb ?zho ?zhne ?zhz ?_) | (refine' extend_at [_] _ ?zcF N7 ?zhb ?zho ?zhne ?zhz ?_) | (refine' extend_at [_, _] _ ?zcF N7 ?zhb ?zho ?zhne ?zhz ?_) | (refine' extend_at [_, _, _] _ ?zcF N7 ?zhb ?zho ?zhne ?zhz ?_)); (case zcF => k_asm); (case zhb => k_extra "x hm"); (case zho => k_extra "x ho"); (case zhne => k_extra "x hz"); (case zhz => k_extra "x hz"); ((intro h9 F9 N9); (try simp only [List.nil_append, List.cons_append] at N9); (try k_sweep)))))
  (k_with "assign Tuple" => (k_here; k_dflt (refine' unpackN_ ?zF ?zN ?zT ?zk1 ?zk2 ?zk3 ?_; (case zF => k_asm); (case zN => k_extra "x n7"); (case zT => (refine' News.isTup ?ztn ?ztm; (case ztn => k_extra "x n7"); (case ztm => (repeat (first | assumption | exact List.mem_cons_self .. | exact List.mem_append_left _ (by assumption) | refine List.mem_cons_of_mem _ ?_))))); (case zk1 => exact rfl); (case zk2 => with_unfolding_all exact rfl); (case zk3 => with_unfolding_all exact rfl)); intro h' F' N'; (try k_sweep)))
  (k_with "setItem ref int" => (k_here; k_dflt ((rename News _ _ _ _ => N7); (first | (refine' dset_at (K := Int) (knd := intKind prg _) [] _ ?zcF N7 ?zhd ?zhk ?zho ?zhz ?_; (case zhd => assumption)) | (refine' dset_at (K := Int) (knd := intKind prg _) [_] _ ?zcF N7 ?zhd ?zhk ?zho ?zhz ?_; (case zhd => assumption)) | (refine' dset_at (K := Int) (knd := intKind prg _) [_, _] _ ?zcF N7 ?zhd ?zhk ?zho ?zhz ?_; (case zhd => assumption))); (case zcF => k_asm); (case zhk => exact is_int); (case zho => k_extra "x ho"); (case zhz => omega); ((intro h9 o9 F9 N9 hd9); (try simp only [List.nil_append, List.cons_append] at N9); (try k_sweep)))))
  (k_with "call builtin:list.pop" => (k_here; k_dflt ((rename News _ _ _ _ => N7); (first | (refine' pop_at [] _ ?zcF N7 ?zhi ?zho ?zhne ?zhz ?_; (case zhi => assumption)) | (refine' pop_at [_] _ ?zcF N7 ?zhi ?zho ?zhne ?zhz ?_; (case zhi => assumption))); (case zcF => k_asm); (case zho => k_extra "x ho"); (case zhne => omega); (case zhz => omega); ((intro h9 t9 us9 n9 F9 N9 hI9 hs9); (try simp only [List.nil_append, List.cons_append] at N9); (try k_sweep)))))
  (k_with "truthy ref" => (k_here; k_dflt ((rename News _ _ _ _ => N7); refine' truthy_at N7 ?zhm ?zhz ?_ ?_; (case zhm => k_extra "x hm"); (case zhz => omega)); intro htr))
  trivial
theorem ln_EG_1 : True := by
  (k_with "call ref" => (k_here; k_dflt ((refine' Does.useT (numbers_m ?zS ?zok ?zhs) ?zcB ?zcF ?zcX ?zcN ?zcT ?zchd ?zchu ?_); (case zcF => k_asm); (case zcN => k_extra "x n7"); (case zcB => assumption); (case zcX => assumption); (case zcT => assumption); (case zchd => k_extra "x room"); (case zchu => k_extra "x unit"); (case zS => assumption); (case zok => assumption); (case zhs => (intro q7 hq7 ; simp only [List.mem_cons, List.mem_append, hq7, true_or, or_true])); ((intro r9 tl9 h9 tk9 F9 N9 o9 P9); (obtain ⟨D9, vs9, n9, z0, z1, hI9⟩ := P9); (subst z0); (subst z1); (try simp only [List.nil_append, List.cons_append] at N9 o9); (try k_sweep); skip))))
  trivial
theorem length_numbers_m {w : World} {x dx D1 D2 : Addr} {od1 od2 : Obj} {k1 k2 : Int} {t1 t2 : Tok} {n : Nat} {kvs : List (Int × Value)} {ents : List (Int × Dt)} {rest news : Led} (S : ShelfIn w rest x ents dx D1 D2 od1 od2 k1 k2 t1 t2 n kvs) (hok : EntsOk ents) (hs : ∀ p ∈ rest, p ∈ news) :
    Does w 515 [.ref x] 3 [] news (fun r _ tl => ∃ D n, r = .ref D ∧ tl = [(D, W.listOf #[] n)]) := length_numbers_d (S.mono hs) hok
theorem ln_EG_2 : True := by
  (k_with "call ref" => (k_here; k_dflt ((refine' Does.useT (length_numbers_m ?zS ?zok ?zhs) ?zcB ?zcF ?zcX ?zcN ?zcT ?zchd ?zchu ?_); (case zcF => k_asm); (case zcN => k_extra "x n7"); (case zcB => assumption); (case zcX => assumption); (case zcT => assumption); (case zchd => k_extra "x room"); (case zchu => k_extra "x unit"); (case zS => assumption); (case zok => assumption); (case zhs => (intro q7 hq7 ; simp only [List.mem_cons, List.mem_append, hq7, true_or, or_true])); ((intro r9 tl9 h9 tk9 F9 N9 o9 P9); (obtain ⟨D9, n9, z0, z1⟩ := P9); (subst z0); (subst z1); (try simp only [List.nil_append, List.cons_append] at N9 o9); (try k_sweep); skip))))
  trivial
theorem may_be_packed_m {w : World} {k : Int} {tk tg : Tok} {v : Value} {d : Dt} {D2 : Addr} {od2 : Obj} {rest news : Led} (hk : 1 ≤ k) (R : DtIn w rest v d) (hok : d.ok) (m4 : (D2, od2) ∈ rest) (lo2 : (D2 == sysModules) = false) (h2 : od2.IsDictOf (PySem.strKind prg w) []) (hs : ∀ p ∈ rest, p ∈ news) :
    Does w 508 [.int k tk, .int 0 tg, v, .ref D2] 2 [] news (fun r _ tl => tl = [] ∧ r = .bool true) := may_be_packed_d hk (R.mono hs) hok (hs _ m4) lo2 h2
theorem ln_EG_3 : True := by
  (k_with "call ref" => (k_here; k_dflt ((first | refine' Does.use0E (may_be_packed_m ?zp0 ?zp1 ?zp2 ?zp3 ?zp4 ?zp5 ?zp6) ?zcB ?zcF ?zcX ?zcN ?zcT ?zchd ?zchu ?_ | refine' Does.use0V (may_be_packed_m ?zp0 ?zp1 ?zp2 ?zp3 ?zp4 ?zp5 ?zp6) ?zcB ?zcF ?zcX ?zcN ?zcT ?zchd ?zchu ?_ | refine' Does.use0 (may_be_packed_m ?zp0 ?zp1 ?zp2 ?zp3 ?zp4 ?zp5 ?zp6) ?zcB ?zcF ?zcX ?zcN ?zcT ?zchd ?zchu ?_); (case zcB => assumption); (case zcF => k_asm); (case zcX => assumption); (case zcN => k_asm); (case zcT => assumption); (case zchd => k_extra "x room"); (case zchu => k_extra "x unit"); (case zp0 => first | assumption | (intro q7 hq7; simp only [List.mem_cons, List.mem_append, hq7, true_or, or_true])); (case zp1 => first | assumption | (intro q7 hq7; simp only [List.mem_cons, List.mem_append, hq7, true_or, or_true])); (case zp2 => first | assumption | (intro q7 hq7; simp only [List.mem_cons, List.mem_append, hq7, true_or, or_true])); (case zp3 => first | assumption | (intro q7 hq7; simp only [List.mem_cons, List.mem_append, hq7, true_or, or_true])); (case zp4 => first | assumption | (intro q7 hq7; simp only [List.mem_cons, List.mem_append, hq7, true_or, or_true])); (case zp5 => first | assumption | (intro q7 hq7; simp only [List.mem_cons, List.mem_append, hq7, true_or, or_true])); (case zp6 => first | assumption | (intro q7 hq7; simp only [List.mem_cons, List.mem_append, hq7, true_or, or_true])); (k_extra "x got"))))
  trivial
theorem ln_EG_4 : True := by
  (k_with "subscriptTail Name Name ref int" => (k_here; k_dflt (refine' kda_item (knd := intKind prg _) ?zcN ?zhm ?zhd ?zhk ?zhl ?_; (case zcN => ((rename News _ _ _ _ => N7); exact N7)); (case zhd => assumption); (case zhm => (repeat (first | assumption | exact List.mem_cons_self .. | exact List.mem_append_left _ (by assumption) | exact List.mem_append_right _ (by assumption) | refine List.mem_cons_of_mem _ ?_))); (case zhk => assumption); (case zhl => assumption))))
  trivial
theorem mem_n3 {g h : Heap} {L : Addr} {o r : Led} {a b c p : Addr × Obj} (_ : News g L h (a :: b :: c :: (r ++ o))) (h : p ∈ r) : p ∈ a :: b :: c :: (r ++ o) := .tail _ (.tail _ (.tail _ (List.mem_append.mpr (.inl h))))
theorem trd_ex {g h : Heap} {L : Addr} {a b c : Addr × Obj} {r : Led} (N : News g L h (a :: b :: c :: r)) : ∃ e, e = c ∧ News g L h (a :: b :: e :: r) := ⟨_, rfl, N⟩
theorem news_m3 {g h : Heap} {L : Addr} {a b c : Addr × Obj} {r : Led} (N : News g L h (a :: b :: c :: r)) : News g L h ([] ++ ([b] ++ r)) := (nA nN (nA (nC (nH (nT N)) nN) (nT (nT (nT N)))))
theorem packable_d {w : World} {x dx D1 D2 : Addr} {od1 od2 : Obj} {k1 k2 : Int} {t1 t2 : Tok} {n : Nat} {kvs : List (Int × Value)} {ents : List (Int × Dt)} {rest : Led} (S : ShelfIn w rest x ents dx D1 D2 od1 od2 k1 k2 t1 t2 n kvs) (hok : EntsOk ents) :
    Does w 522 [.ref x] 4 [] rest (fun r _ tl => Ex3 fun D vs n => An3 (r = .ref D) (tl = [(D, W.listOf (vs : List Value).toArray n)]) (PyProof.Rows.IntsAre vs (ents.map (·.1)))) := by
  obtain ⟨m1, m2, m3, m4, lo1, lo2, h1, h2, rows⟩ := id S
  have hlen := rows.length
  have hlen8 := hok.1
  have hke := rows_keys rows
  have hnd := keys_nodup hok
  rw [← hke] at hnd
  refine' Does.of (binds := [(Str.ofString "shelf", .ref x)]) (al := [(Str.ofString "shelf", some (.ref x))]) ?k6 ?kb ?ks ?k7 ?k9 ?kB ?c5 ?c2 ?c3 ?c4 ?lv ?kal ?_
  (case k6 => k_dflt k_is); (case kb => conv => lhs; whnf); (case ks => conv => lhs; whnf); (case k7 => k_dflt k_is); (case k9 => exact rfl); (case kB => exact locs rfl); (case c5 => decide); (case c2 => exact rfl); (case c3 => exact rfl); (case c4 => exact rfl); (case lv => decide); (case kal => exact rfl)
  intro mean mg mb dp un outer base g L s E F N hap B X T hlt hdp hun
  (try simp only [List.nil_append, List.cons_append] at N hlt)
  k_fold
  (repeat' ((fail_if_success (with_reducible refine mark_pi ?_)); k_extra "x one"))
  rename PyProof.Rows.IntsAre _ (ents.map (·.1)) => hI
  have hIl := hI.length
  rw [List.length_map] at hIl
  rename List Value => vs9
  rename ∀ q ∈ _ :: _ :: rest, ∀ p ∈ [_], _ => o9
  rename _ ∧ AllLt _ rest => l1
  ((rename Fr g L _ _ => F7); (rename News g L _ _ => N8); (have F8 := Fr_sel [Str.ofString "number", Str.ofString "generation", Str.ofString "value", Str.ofString "found", Str.ofString "lengths", Str.ofString "shelf"] (al := [(_, _), (_, _), (_, _)]) F7 (by rfl)); clear F7)
  rename_i D9 n9
  obtain ⟨e1, he1, N8⟩ := snd_ex N8
  obtain ⟨e2, he2, N8⟩ := trd_ex N8
  have hD1 : @Ne Nat D9 e1.1 := by rw [he1]; exact (o9 _ (.head _) _ (.head _)).symm
  have h21 : @Ne Nat e2.1 e1.1 := by rw [he1, he2]; exact Nat.ne_of_lt l1.1
  have hr1 : ∀ p ∈ rest, p.1 ≠ e1.1 := fun p hp => by rw [he1]; exact Nat.ne_of_lt (allLt_mem l1.2 p hp)
  refine list_loop (fun i al nx => Ex5 fun us k o1 o2 o3 => An4 (nx = (D9, W.listOf vs9.toArray n9) :: (e1.1, W.listOf us k) :: e2 :: rest) (PyProof.Rows.IntsAre us.toList ((ents.map (·.1)).take i)) (us.size ≤ i) (al = [(Str.ofString "number", o1), (Str.ofString "generation", o2), (Str.ofString "value", o3), (Str.ofString "found", some (.ref e1.1)), (Str.ofString "lengths", some (.ref e2.1)), (Str.ofString "shelf", some (.ref x))])) F8 N8 (.head _) ⟨_, _, _, _, _, by rw [he1], .nil, by decide, by rw [he1, he2]; rfl⟩ ?_ ?_
  · rintro i v al₁ news₁ h tk own hv ho hm ⟨us, ku, o1, o2, o3, rfl, hU, hus, rfl⟩ F1 N1
    replace N1 : News g L h ((D9, W.listOf vs9.toArray n9) :: (e1.1, W.listOf us ku) :: e2 :: (rest ++ own)) := N1
    have hi9 : i < vs9.length := (List.getElem?_eq_some_iff.mp hv).1
    obtain ⟨k, hk⟩ : ∃ k, (ents.map (·.1))[i]? = some k := ⟨_, List.getElem?_eq_getElem (by rw [List.length_map, ← hIl]; exact (List.getElem?_eq_some_iff.mp hv).1)⟩
    obtain ⟨tk9, hvk⟩ := hI.get i k hk
    rw [hv] at hvk
    cases hvk
    obtain ⟨T, a, t, d, hq1, hq2, hT, hD⟩ := row_at rows hk
    have hva := valueAt_row hnd hq1
    have hdok : d.ok := (hok.2.2 _ (List.mem_of_getElem? hq2)).2.2
    have hk1 : 1 ≤ k := (hok.2.2 _ (List.mem_of_getElem? hq2)).1
    have hsi := is_int (prog := prg) (w := w) (i := k) (t := tk9)
    have m1' := mem_n3 N1 m1
    have m2' := mem_n3 N1 m2
    have ho1 : ∀ p ∈ own, p.1 ≠ e1.1 := fun p hp => ho p hp _ (.tail _ (.head _))
    subst he2
    k_extra "x steps"
    ((rename Fr g L _ _ => F7); (rename News g L _ _ => N8); (have F8 := Fr_sel [Str.ofString "number", Str.ofString "generation", Str.ofString "value", Str.ofString "found", Str.ofString "lengths", Str.ofString "shelf"] (al := [(_, _), (_, _), (_, _), (_, _), (_, _), (_, _), (_, _), (_, _), (_, _)]) F7 (by rfl)); clear F7)
    refine ⟨_, _, _, (D9, W.listOf vs9.toArray n9) :: (e1.1, _) :: _ :: rest, rfl, F8, N8, ho, .head _, _, _, _, _, _, rfl, ?_, by simp; omega, rfl⟩
    rw [take_snoc hk]
    exact IA_push hU
  · rintro al₁ news₁ h tk ⟨us, ku, o1, o2, o3, rfl, hU, hus, rfl⟩ F1 N1
    try dsimp only
    k_extra "x steps"
    rw [hIl, ← List.length_map (f := fun (e : Int × Dt) => e.1), List.take_length] at hU
    exact ⟨_, [], [(e1.1, W.listOf us ku)], _, _, rfl, F1, news_m3 N1, rfl, (fun q hq p hp => by rw [List.mem_singleton.mp hp]; exact hr1 q hq), e1.1, us.toList, ku, rfl, by rw [Array.toArray_toList], hU⟩

theorem ln_EH : True := by
  k_with_none
  (k_with "ite" => first | with_reducible refine ite_tt ?_ | with_reducible refine ite_ff ?_)
  (k_with "execs nil" => (with_reducible refine wpAny_execs_nil ?_; (try dsimp only)))
  (k_with "execs cons" => (k_here; k_dflt (refine seqK ?_; (try dsimp only))))
  (k_with "x lia" => ((try clear cc); (try clear c2); (try clear lf); lia))
  (k_with "x n7" => ((rename News _ _ _ _ => N7); exact N7))
  (k_with "x room" => (first | exact room1 (by assumption) (by rfl) | exact room2 (by assumption) (by rfl) | omega))
  (k_with "x unit" => (first | exact unit1 (by assumption) (by rfl) | exact unit2 (by assumption) (by rfl) | omega))
  (k_with "x got" => ((first | ((with_reducible intro r9 h9 tk9 F9 N9 P9); (first | (obtain ⟨t9, e9⟩ := P9; subst e9) | (subst P9) | skip)) | (with_reducible intro t9 h9 tk9 F9 N9) | (with_reducible intro h9 tk9 F9 N9)); (try k_sweep)))
  (k_with "x one" => (first | (k_unfold; (try dsimp only)) | walk1 | (dsimp only; walk1)))
  (k_with "x g" => ((fail_if_success plain_pass); k_here))
  (k_with "x k" => (k_asm; k_extra "x n7"; k_extra "x ix"))
  (k_with "x c" => (k_extra "x k"; k_extra "x ev"; k_extra "x ev"))
  (k_with "x if" => (k_dflt (k_here; (with_reducible show wpAny _ _ (execs (Stmt.If (PySem.Expr.Compare (PySem.Expr.Name _ _) [CmpOp.Eq] [PySem.Expr.Constant (Const.str _) _ _] _) _ _ _ :: _) _) _ _ _); first | (apply xif_f; k_extra "x c"; exact rfl) | (apply xif_t; k_extra "x c"; exact rfl))))
  (k_with "x stmt" => ((first | k_extra "x if" | refine seqK ?_ | refine wpAny_execs_cons ?_); (repeat' ((fail_if_success (with_reducible refine mark_execs ?_)); k_extra "x one"))))
  (k_with "x steps" => (repeat' k_extra "x one"))
  (k_with "x ix" => (first | exact isX1 rfl | exact isX2 rfl | exact isX3 rfl))
  (k_with "x ev" => (first | exact Ev.str | exact Ev.int | exact Ev.none | exact Ev.bool | (apply Ev.name; exact rfl; exact rfl; exact rfl) | (apply Ev.cell; exact rfl; exact rfl; exact rfl; (first | k_mem | (repeat (first | exact List.mem_cons_self .. | refine List.mem_cons_of_mem _ ?_))); k_asm)))
  (k_with "x evs" => (focus ((repeat' (first | exact Evs.nil | apply Evs.int | (apply Evs.name; exact rfl; exact rfl; exact rfl) | (apply Evs.cell; exact rfl; exact rfl; exact rfl; (first | k_mem | (repeat (first | exact List.mem_cons_self .. | refine List.mem_cons_of_mem _ ?_))); k_asm) | exact Ev.str | exact Ev.none | exact Ev.bool | apply Evs.cons)); done)))
  (k_with "execs cons If" => ((fail_if_success plain_pass); k_extra "x if"))
  (k_with "isTrue Compare" => (k_extra "x g"; (with_reducible show wpAny _ _ (PySem.isTrue (PySem.Expr.Compare _ [_] [_] _) _ _) _ _ _); k_dflt (first | ((with_reducible show wpAny _ _ (PySem.isTrue (PySem.Expr.Compare _ [CmpOp.Eq] [_] _) _ _) _ _ _); apply ist_strL; k_extra "x c") | (apply ist_int; k_extra "x c"; exact rfl))))
  (k_with "eval Call Name" => (k_extra "x g"; k_dflt (first | (apply call_ev; exact rfl; exact rfl; exact rfl; k_extra "x k"; k_extra "x evs"; k_asm; k_asm; k_is; k_is) | (apply bcall_ev; exact rfl; exact rfl; exact rfl; exact rfl; k_extra "x k"; k_extra "x evs"; k_asm; k_asm; k_is; boot_fast; decide))))
  (k_with "callWith" => (k_extra "x g"; k_dflt (apply meth_ev; exact rfl; k_extra "x k"; k_extra "x evs")))
  (k_with "spliced" => (k_extra "x g"; k_dflt (apply args_ev; exact rfl; k_extra "x k"; k_extra "x evs")))
  (k_with "eval Attribute Name" => (k_extra "x g"; k_dflt (apply attr_ev; k_extra "x k"; k_extra "x ev")))
  (k_with "x ho" => ((try simp only [List.nil_append, List.cons_append]); (repeat' (first | (refine off1_of ?_; assumption) | (refine off1_lt ?_; assumption) | (refine off1_all ?_; assumption) | refine And.intro ?_ ?_ | exact trivial | ((show @Ne Nat _ _); omega) | refine off1_app ?_ ?_))))
  (k_with "x hz" => ((try simp only [Array.size_push, List.size_toArray, List.length_cons, List.length_nil, List.length_append]); omega))
  (k_with "x hm" => (repeat (first | exact List.mem_cons_self .. | exact List.mem_append_left _ (by assumption) | refine List.mem_cons_of_mem _ ?_)))
  (k_with "call builtin:list.append" => (k_here; k_dflt ((rename News _ _ _ _ => N7); (first | (refine' append_at [] _ ?zcF N7 ?zho ?zhz ?_) | (refine' append_at [_] _ ?zcF N7 ?zho ?zhz ?_) | (refine' append_at [_, _] _ ?zcF N7 ?zho ?zhz ?_) | (refine' append_at [_, _, _] _ ?zcF N7 ?zho ?zhz ?_)); (case zcF => k_asm); (case zho => k_extra "x ho"); (case zhz => k_extra "x hz"); ((intro h9 F9 N9); (try simp only [List.nil_append, List.cons_append] at N9); (try k_sweep)))))
  (k_with "call builtin:list.extend" => (k_here; k_dflt ((rename News _ _ _ _ => N7); (first | (refine' extend_at [] _ ?zcF N7 ?zhb ?zho ?zhne ?zhz ?_) | (refine' extend_at [_] _ ?zcF N7 ?zhb ?zho ?zhne ?zhz ?_) | (refine' extend_at [_, _] _ ?zcF N7 ?zhb ?zho ?zhne ?zhz ?_) | (refine' extend_at [_, _, _] _ ?zcF N7 ?zhb ?zho ?zhne ?zhz ?_)); (case zcF => k_asm); (case zhb => k_extra "x hm"); (case zho => k_extra "x ho"); (case zhne => k_extra "x hz"); (case zhz => k_extra "x hz"); ((intro h9 F9 N9); (try simp only [List.nil_append, List.cons_append] at N9); (try k_sweep)))))
  (k_with "assign Tuple" => (k_here; k_dflt (refine' unpackN_ ?zF ?zN ?zT ?zk1 ?zk2 ?zk3 ?_; (case zF => k_asm); (case zN => k_extra "x n7"); (case zT => (refine' News.isTup ?ztn ?ztm; (case ztn => k_extra "x n7"); (case ztm => (repeat (first | assumption | exact List.mem_cons_self .. | exact List.mem_append_left _ (by assumption) | refine List.mem_cons_of_mem _ ?_))))); (case zk1 => exact rfl); (case zk2 => with_unfolding_all exact rfl); (case zk3 => with_unfolding_all exact rfl)); intro h' F' N'; (try k_sweep)))
  (k_with "setItem ref int" => (k_here; k_dflt ((rename News _ _ _ _ => N7); (first | (refine' dset_at (K := Int) (knd := intKind prg _) [] _ ?zcF N7 ?zhd ?zhk ?zho ?zhz ?_; (case zhd => assumption)) | (refine' dset_at (K := Int) (knd := intKind prg _) [_] _ ?zcF N7 ?zhd ?zhk ?zho ?zhz ?_; (case zhd => assumption)) | (refine' dset_at (K := Int) (knd := intKind prg _) [_, _] _ ?zcF N7 ?zhd ?zhk ?zho ?zhz ?_; (case zhd => assumption))); (case zcF => k_asm); (case zhk => exact is_int); (case zho => k_extra "x ho"); (case zhz => omega); ((intro h9 o9 F9 N9 hd9); (try simp only [List.nil_append, List.cons_append] at N9); (try k_sweep)))))
  (k_with "call builtin:list.pop" => (k_here; k_dflt ((rename News _ _ _ _ => N7); (first | (refine' pop_at [] _ ?zcF N7 ?zhi ?zho ?zhne ?zhz ?_; (case zhi => assumption)) | (refine' pop_at [_] _ ?zcF N7 ?zhi ?zho ?zhne ?zhz ?_; (case zhi => assumption))); (case zcF => k_asm); (case zho => k_extra "x ho"); (case zhne => omega); (case zhz => omega); ((intro h9 t9 us9 n9 F9 N9 hI9 hs9); (try simp only [List.nil_append, List.cons_append] at N9); (try k_sweep)))))
  (k_with "truthy ref" => (k_here; k_dflt ((rename News _ _ _ _ => N7); refine' truthy_at N7 ?zhm ?zhz ?_ ?_; (case zhm => k_extra "x hm"); (case zhz => omega)); intro htr))
  trivial
section
open PyProof.Rows.LCg PyProof.Rows.LCt
variable {prog : Program} {w : World} {A : Around} {E : Value → Shared → Prop} {s : Shared} {h₀ : Heap} {L : Addr} {m : Str → Option Value} {env : Env}
noncomputable def RngSrc (prog : Program) (w : World) (A : Around) (h₀ : Heap) (L : Addr) (m : Str → Option Value) (s₁ : Shared) (R : Int → Int → Nat → Shared → Led → Prop) (xv : Value) : Prop :=
  ∃ r a b c t u v n news, xv = .ref r ∧ A.handled = none ∧ Fr h₀ L s₁.heap m ∧ News h₀ L s₁.heap news ∧ IsRange s₁.heap r a b c t u v ∧ Builtin.Range.small a b c = true ∧ Builtin.Range.rangeSize a b c = ((n : Nat) : Int) ∧ n ≤ sizeLine ∧ ∀ s₂ : Shared, (∃ h, s₂ = { s₁ with heap := h }) → R a c n s₂ news
theorem ListComp_R {elt iter : Expr} {x : Str} {px : Pos} {scope : Scope} {cl : List (Str × Addr)} {pos : Pos} {Q : Value → Shared → Prop} (F₀ : Fr h₀ L s.heap m)
    (hclos : closureFor scope env = pure cl) (hcell : ∀ y ∈ scope.names, y.2 ≠ .cell) (hkind : scope.kind = .function)
    (hnames : ∀ y ∈ scope.names, y.2 = .local → scope.names.lookup y.1 = some .local) (hx : scope.names.lookup x = some .local)
    (h : wpAny (model prog w) A (eval iter env) (fun xv s₁ => RngSrc prog w A h₀ L m s₁ (fun a c n s₂ news => CompRest prog w A h₀ L m env elt x scope cl s₂ (fun _ => True) (fun i v => ∃ t, v = .int (a + (i : Int) * c) t) (FinE h₀ L m s₂ Q) n 0 [] news) xv) E s)
    (hs : ∀ x, foldedSetIterable iter env x = pure x := by intro _; rfl) :
    wpAny (model prog w) A (eval (.ListComp elt [⟨.Name x px, iter, [], 0⟩] scope pos) env) Q E s := by
  rw [eval_ListComp]
  refine wpAny_comprehension_free (use := none) rfl hs hclos hkind hnames (wpAny_mono h (fun xv s₁ h₁ => ?_) fun _ _ e => e)
  obtain ⟨r, a, b, c, t, u, v, n, news, rfl, hh, F, N, hr, hsm, hn, hsz, R⟩ := h₁
  refine wpAny_pyIter_range hr hsm ?_
  refine block_U (Walks.range hh s₁.heap.objs.size a c n) hsz (fun i h st => ⟨_, st⟩) (fun i h h' o nw st e e' _ _ _ => ?_) hcell hkind hx (by show IsRangeIter _ _ _ _ _; rw [hn]; simpa using Heap.get?_push_size _ rfl) (fun b hb => ?_)
    (F.keeps fun _ _ e => Heap.get?_push_of_some _ e) (N.grown fun _ _ e => Heap.get?_push_of_some _ e) (Nat.ne_of_lt F.ns.lt) (next_is_new F) (fun p hp => Nat.ne_of_lt (Heap.lt_size (N p hp).1)) trivial (R _ ⟨_, rfl⟩) ?_
  · have st' : h.get? s₁.heap.objs.size = some _ := st
    show h'.get? s₁.heap.objs.size = some _
    rw [e', ← e]; exact st'
  · rw [List.mem_singleton.mp hb]
    show s₁.heap.objs.size < (s₁.heap.push _).objs.size
    rw [Heap.size_push]; exact Nat.lt_succ_self _
  · intro D C h tk m' ys news' F' N' o1 hn hC₀ hD₀ hCL hDL hCD offC fin
    refine ⟨m', hn, fun h'' hs'' => fin D h'' tk (F'.change hs'' hCL hC₀) (fun p hp => ?_) o1⟩
    refine ⟨hs''.extBut _ _ ?_ (N' p hp).1, (N' p hp).2⟩
    rcases List.mem_cons.mp hp with rfl | hp
    · exact Ne.symm hCD
    · exact offC p hp
end
theorem ln_EH_1 : True := by
  (k_with "call builtin:len cons nil" => (k_here; k_dflt (refine' len_ints ?zhi ?zhN ?zhm ?zhl ?_; (case zhi => assumption); (case zhN => ((rename News _ _ _ _ => N7); exact N7)); (case zhm => (repeat (first | assumption | exact List.mem_cons_self .. | exact List.mem_append_left _ (by assumption) | exact List.mem_append_right _ (by assumption) | refine List.mem_cons_of_mem _ ?_))); (case zhl => omega))))
  trivial
noncomputable def GrpIn (news : Led) (v : Value) (l : List Int) : Prop := ∃ D vs n, v = .ref D ∧ (D, W.listOf (vs : List Value).toArray n) ∈ news ∧ PyProof.Rows.IntsAre vs l
theorem GrpIn.mono {news news' : Led} (hs : ∀ p ∈ news, p ∈ news') {v : Value} {l : List Int} (h : GrpIn news v l) : GrpIn news' v l := by
  obtain ⟨D, vs, n, e, m, i⟩ := h
  exact ⟨D, vs, n, e, hs _ m, i⟩
theorem grp_num {k : Nat} {mo : Int} (h1 : 1 ≤ mo) : ∃ n : Nat, Builtin.Range.rangeSize 0 (k : Int) mo = (n : Int) ∧ (∀ j, j < n → j * mo.toNat < k) ∧ k ≤ n * mo.toNat ∧ n ≤ k := by
  obtain ⟨m, rfl⟩ : ∃ m : Nat, mo = (m : Int) := ⟨mo.toNat, by omega⟩
  have hm : 0 < m := by omega
  simp only [Int.toNat_natCast]
  by_cases hk : k = 0
  · subst hk
    exact ⟨0, by unfold Builtin.Range.rangeSize; simp, fun j h => absurd h (by omega), by omega, Nat.le_refl _⟩
  · have h2 := Nat.div_add_mod (k - 1) m
    have h3 := Nat.mod_lt (k - 1) hm
    have h4 := Nat.div_le_self (k - 1) m
    refine ⟨(k - 1) / m + 1, ?_, fun j hj => ?_, ?_, by omega⟩
    · unfold Builtin.Range.rangeSize
      rw [if_pos (by omega), if_pos (by omega)]
      have e : (k : Int) - 0 - 1 = ((k - 1 : Nat) : Int) := by omega
      rw [e]
      norm_cast
    · have h5 : j * m ≤ (k - 1) / m * m := Nat.mul_le_mul_right m (by omega)
      have h6 := Nat.div_mul_le_self (k - 1) m
      omega
    · rw [Nat.add_mul, Nat.one_mul, Nat.mul_comm]
      omega
theorem small_ok {k mo : Int} (h0 : 0 ≤ k) (h1 : k ≤ 1000) (h2 : 1 ≤ mo) (h3 : mo ≤ 1000) : Builtin.Range.small 0 k mo = true := by
  obtain ⟨n, e, _, _, hn⟩ := grp_num (k := k.toNat) h2
  rw [show ((k.toNat : Nat) : Int) = k by omega] at e
  unfold Builtin.Range.small
  rw [e]
  simp only [Builtin.Range.rangeFitsLong, Bool.and_eq_true, Bool.or_eq_true, decide_eq_true_eq, beq_iff_eq, show mo > 0 by omega, if_true]
  omega
theorem news_g1 {g h : Heap} {L : Addr} {acc r : Led} {d a b : Addr × Obj} (N : News g L h (d :: a :: b :: (acc ++ r))) : News g L h ([] ++ ((d :: acc) ++ r)) := (nA nN (nA (nC (nH N) (nL (nT (nT (nT N))))) (nR (nT (nT (nT N))))))
theorem groups_of_d {w : World} {P : Addr} {vs : List Value} {np : Nat} {ks : List Int} {mo : Int} {tm : Tok} {rest : Led} (mP : (P, W.listOf vs.toArray np) ∈ rest) (hI : PyProof.Rows.IntsAre vs ks) (hk : ks.length ≤ 8) (hm1 : 1 ≤ mo) (hm4 : mo ≤ 4) :
    Does w 527 [.ref P, .int mo tm] 1 [] rest (fun r _ tl => Ex4 fun G gs n k => An5 (r = .ref G) ((G, W.listOf (gs : List Value).toArray n) ∈ tl) ((∀ j, j < k → j * mo.toNat < ks.length)) (ks.length ≤ k * mo.toNat) (All2 (GrpIn tl) gs ((List.range k).map fun j => (ks.drop (j * mo.toNat)).take mo.toNat))) := by
  have hIl := hI.length
  refine' Does.ofC (binds := [(Str.ofString "numbers", .ref P), (Str.ofString "most", .int mo tm)]) (al := []) (cm := lkm [(Str.ofString "most", some (.int mo tm)), (Str.ofString "numbers", some (.ref P))]) ?k6 ?kb ?ks ?k7 ?k9 ?kB ?knd ?c3 ?c4 ?c5 ?lv ?kal ?kcm ?kcf ?_
  (case k6 => k_dflt k_is); (case kb => conv => lhs; whnf); (case ks => conv => lhs; whnf); (case k7 => k_dflt k_is); (case k9 => exact rfl); (case kB => exact rfl); (case knd => decide); (case c3 => exact rfl); (case c4 => exact rfl); (case c5 => exact rfl); (case lv => decide); (case kal => exact fun _ => rfl); (case kcm => exact fun _ => rfl); (case kcf => exact fun _ => rfl)
  intro mean mg mb dp un outer base g L s cells E F N C hap B X T hlt hdp hun
  obtain ⟨o1, o2, hcells, d1, d2⟩ := CellsAre.two C; subst hcells; clear C
  (try simp only [List.nil_append, List.cons_append] at N hlt)
  k_fold
  ((first | replace d1 : _ = Data.cell (some _) := d1 | replace d1 : _ = Data.cell none := d1); (first | replace d2 : _ = Data.cell (some _) := d2 | replace d2 : _ = Data.cell none := d2))
  (repeat' ((fail_if_success (with_reducible refine mark_lc ?_)); k_extra "x one"))
  ((rename Fr g L _ _ => F8); (rename News g L _ _ => N8))
  refine ListComp_R (cl := _) F8 rfl (by decide) rfl (by decide) rfl ?_
  k_extra "x steps"
  rename IsRange _ _ _ _ _ _ _ _ => hR
  rename News g L _ ((L + 1 + 1, o1) :: _) => NR
  rename Fr g L _ _ => FR
  obtain ⟨k, hk1, hk2, hk3, hk4⟩ := grp_num (k := ks.length) hm1
  refine ⟨_, _, _, _, _, _, _, k, _, rfl, rfl, FR, NR, hR, small_ok (by omega) (by omega) (by omega) (by omega), hk1, by rw [sizeLine_eq]; omega, ?_⟩
  rintro s₂ ⟨g9, rfl⟩
  refine comp_rule (fun i ys nw => ∃ acc, nw = (L + 1 + 1, o1) :: (L + 1, o2) :: (acc ++ rest) ∧ All2 (GrpIn acc) ys ((List.range i).map fun j => (ks.drop (j * mo.toNat)).take mo.toNat) ∧ (∀ q ∈ rest, ∀ p ∈ acc, q.1 ≠ p.1)) ⟨[], rfl, .nil, fun _ _ _ h => nomatch h⟩ (fun ys nw hj => ?_) (fun i v I oI C oC D m₂ h tk E' ys nw hi9 hP hj hC9 hv F1 N1 off ne => ?_)
  rotate_left
  · obtain ⟨acc, rfl, hys, har⟩ := hj
    obtain ⟨ti, rfl⟩ := hP
    have mP' := mem_n5 N1 mP
    obtain ⟨q, hq⟩ : ∃ q : Nat, q = i * mo.toNat := ⟨_, rfl⟩
    have e : 0 + (i : Int) * mo = (q : Int) := by
      rw [hq, Int.zero_add]; conv => lhs; rw [show mo = ((mo.toNat : Nat) : Int) by omega]
      norm_cast
    rw [e] at hv
    k_extra "x steps"
    ((rename Fr g L _ _ => F8); (rename News g L _ _ => N8))
    rename _ ∧ _ ∧ _ ∧ _ ∧ _ ∧ AllLt _ _ => l1
    rename PyProof.Rows.IntsAre _ (List.take _ _) => hI9
    have e3 : (q : Int).toNat = i * mo.toNat := by omega
    have e2 : (ks.drop (q : Int).toNat).take (min ((q : Int) + mo).toNat ks.length - (q : Int).toNat) = (ks.drop (i * mo.toNat)).take mo.toNat := by
      have e4 : ((q : Int) + mo).toNat = q + mo.toNat := by omega
      rw [← e3, List.take_eq_take_iff, List.length_drop, e4, Int.toNat_natCast, ← Nat.sub_min_sub_right, Nat.add_sub_cancel_left, Nat.min_assoc, Nat.min_self]
    rw [e2] at hI9
    refine ⟨_, _, [(L + 1 + 1, o1), (L + 1, o2)] ++ (([(_, _)] ++ acc) ++ rest), rfl, F8, news_c9 (t := [(_, _)]) [(L + 1 + 1, o1), (L + 1, o2)] N8, off3_ins2 [(L + 1 + 1, o1), (L + 1, o2)] off (fun p hp => ?_), trivial, [(_, _)] ++ acc, rfl, ?_, fun q hq p hp => ?_⟩
    · rw [List.mem_singleton.mp hp]
      exact ⟨(Nat.ne_of_lt l1.1).symm, (Nat.ne_of_lt l1.2.1).symm, (Nat.ne_of_lt l1.2.2.1).symm⟩
    · rw [List.range_succ, List.map_append]
      exact (hys.mono fun _ _ h => h.mono fun _ h => .tail _ h).snoc ⟨_, _, _, rfl, .head _, hI9⟩
    · rcases List.mem_cons.mp hp with rfl | hp
      · exact Nat.ne_of_lt (allLt_mem l1.2.2.2.2.2 q (List.mem_append.mpr (.inr hq)))
      · exact har q hq p hp
  obtain ⟨acc, rfl, hys, har⟩ := hj
  intro D h3 tk F3 N3 o3
  k_extra "x steps"
  refine ⟨_, [], (D, LCg.lst ys) :: acc, _, _, rfl, F3, news_g1 N3, rfl, (fun q hq p hp => ?_), D, ys, _, k, rfl, .head _, hk2, hk3, hys.mono fun _ _ h => h.mono fun _ h => .tail _ h⟩
  rcases List.mem_cons.mp hp with rfl | hp
  · exact off1_mem o3 q (.tail _ (.tail _ (List.mem_append.mpr (.inr hq))))
  · exact har q hq p hp

noncomputable def TurnT (h₀ : Heap) (L : Addr) (J : List (Str × Option Value) → Led → Prop) (own : Led) (s₁ : Shared) (f : Flow) (s₂ : Shared) : Prop :=
  f = .next ∧ ∃ h' tk al nx, s₂ = { s₁ with heap := h', toks := tk } ∧ Fr h₀ L h' (lkm al) ∧ News h₀ L h' (nx ++ own) ∧ OwnOff own (nx.map (·.1)) ∧ J al nx
theorem list_loopT {prog : Program} {w : World} {A : Around} {E : Value → Shared → Prop} {s : Shared} {env : Env} {h₀ : Heap} {L : Addr} {target : PySem.Expr} {body : List Stmt} {Q : Flow → Shared → Prop} {al : List (Str × Option Value)} {news : Led} {l : Addr} {vs : List Value} {nn : Nat} (J : Nat → List (Str × Option Value) → Led → Prop)
    (F : Fr h₀ L s.heap (lkm al)) (N : News h₀ L s.heap news) (hl : (l, W.listOf vs.toArray nn) ∈ news) (hj : J 0 al news)
    (turn : ∀ i v al₁ news₁ s₁ own, vs[i]? = some v → OwnOff own (news₁.map (·.1)) → (l, W.listOf vs.toArray nn) ∈ news₁ → J i al₁ news₁ → Fr h₀ L s₁.heap (lkm al₁) → News h₀ L s₁.heap (news₁ ++ own) →
      wpAny (model prog w) A (assign target env v) (fun _ s₃ => wpAny (model prog w) A (execs body env) (TurnT h₀ L (fun al' nx => (l, W.listOf vs.toArray nn) ∈ nx ∧ J (i + 1) al' nx) own s₁) E s₃) E s₁)
    (done : ∀ al₁ news₁ h tk, J vs.length al₁ news₁ → Fr h₀ L h (lkm al₁) → News h₀ L h news₁ → Q .next { s with heap := h, toks := tk })
    (hh : A.handled = none := by rfl) (hLe : env.locals = L := by rfl) :
    wpAny (model prog w) A (pyIter (.ref l)) (fun it s₂ => LoopAtT prog w A h₀ env target body Q E it s₂) E s := by
  subst hLe
  have hol : s.heap.get? l = some (W.listOf vs.toArray nn) := (N _ hl).1
  have hls : s.heap.IsList l vs.toArray := ⟨_, hol, rfl, nn, rfl⟩
  have hne : l ≠ s.heap.objs.size := Nat.ne_of_lt (Heap.lt_size hol)
  refine wpAny_pyIter_list hls ?_
  have Wk := Walks.list (prog := prog) (w := w) hh s.heap.objs.size l hne vs.toArray
  have hlen : vs.toArray.size = vs.length := by simp
  rw [hlen] at Wk
  refine ⟨_, _, _, vs.length, _, _, lkm al, news, (fun i m nx => ∃ al', m = lkm al' ∧ (l, W.listOf vs.toArray nn) ∈ nx ∧ J i al' nx), rfl, Wk, ?_, ?_, ?_, ⟨⟨_, Heap.get?_push_size _ rfl, rfl, rfl⟩, hls.at fun o e => Heap.get?_push_of_some _ e⟩, F.push _, (fun p hp => ⟨Heap.get?_push_of_some _ (N p hp).1, (N p hp).2⟩), (fun i s' v Q' st q => letGo_listiter st.1 q), ⟨al, rfl, hl, hj⟩, ?_, ?_⟩
  · intro hm
    rcases List.mem_cons.mp hm with e | hm
    · exact absurd F.ns.lt (e ▸ Nat.lt_irrefl _)
    · exact (N _ hl).2.1 ((List.mem_singleton.mp hm).symm)
  · intro b hb
    rw [List.mem_singleton.mp hb]
    exact next_is_new F
  · intro p hp hI
    exact absurd (Heap.lt_size (N p hp).1) ((List.mem_singleton.mp hI) ▸ Nat.lt_irrefl _)
  · rintro i v m₁ news₁ s₁ own hin hP ⟨al₁, rfl, hl₁, hJ⟩ hoff hown hget hfp hst F₁ N₁
    have hP' : vs[i]? = some v := by simpa using hP
    have hI0 : h₀.get? s.heap.objs.size = none := next_is_new F
    obtain ⟨⟨oI, hoI, _⟩, _⟩ := id hst
    have hIown : (s.heap.objs.size, oI) ∈ own.filter fun p => decide (p.1 = s.heap.objs.size) := List.mem_filter.mpr ⟨hfp _ (List.mem_cons.mpr (.inl rfl)) hI0 _ hoI, by simp⟩
    have hsep : OwnOff (own.filter fun p => decide (p.1 = s.heap.objs.size)) (news₁.map (·.1)) := by
      intro p hp b hb e
      obtain ⟨q, hq, rfl⟩ := List.mem_map.mp hb
      have h1 : p.1 = s.heap.objs.size := by simpa using (List.mem_filter.mp hp).2
      exact hoff q hq (List.mem_singleton.mpr (e ▸ h1))
    have N₂ : News h₀ env.locals s₁.heap (news₁ ++ own.filter fun p => decide (p.1 = s.heap.objs.size)) := fun p hp => N₁ p ((List.mem_append.mp hp).elim (fun h => List.mem_append.mpr (.inr h)) fun h => List.mem_append.mpr (.inl ((List.mem_filter.mp h).1)))
    have hlo : s₁.heap.get? l = some (W.listOf vs.toArray nn) := (N₁ _ (List.mem_append.mpr (.inr hl₁))).1
    refine wpAny_mono (turn i v al₁ news₁ s₁ _ hP' hsep hl₁ hJ F₁ N₂) (fun _ s₃ p3 => wpAny_mono p3 (fun f s₂ p => ?_) fun _ _ e => e) fun _ _ e => e
    obtain ⟨rfl, h', tk, al', nx, rfl, F', N', ho, hlx, hJ'⟩ := p
    refine ⟨rfl, h', tk, lkm al', nx, rfl, F', fun p hp => ?_, fun p hp hq => ?_, al', rfl, hlx, hJ'⟩
    · rcases List.mem_append.mp hp with h | h
      · by_cases hI : p.1 = s.heap.objs.size
        · exact N' p (List.mem_append.mpr (.inr (List.mem_filter.mpr ⟨h, by simpa using hI⟩)))
        · have h1 : p.1 = l := by
            rcases List.mem_cons.mp (hown p h) with h2 | h2
            · exact absurd h2 hI
            · exact List.mem_singleton.mp h2
          have h2 : s₁.heap.get? p.1 = some p.2 := hget p h
          rw [h1, hlo] at h2
          have h3 : p = (l, W.listOf vs.toArray nn) := Prod.ext h1 (Option.some.inj h2).symm
          rw [h3]
          exact N' _ (List.mem_append.mpr (.inl hlx))
      · exact N' p (List.mem_append.mpr (.inl h))
    · exact ho _ hIown p.1 (List.mem_map.mpr ⟨p, hp, rfl⟩) (List.mem_singleton.mp hq).symm
  · rintro h' tk m' news' F' N' hw ⟨al', rfl, hl', hJ'⟩
    exact done al' news' h' tk hJ' F' N'
noncomputable def PairIn (w : World) (news : Led) (v : Value) (e : Int × Dt) : Prop := ∃ T t a, v = .ref T ∧ (T, tupObj [.int e.1 t, a]) ∈ news ∧ DtIn w news a e.2
theorem PairIn.mono {w : World} {news news' : Led} (hs : ∀ p ∈ news, p ∈ news') {v : Value} {e : Int × Dt} (h : PairIn w news v e) : PairIn w news' v e := by
  obtain ⟨T, t, a, e, m, d⟩ := h
  exact ⟨T, t, a, e, hs _ m, d.mono hs⟩
theorem kind_dt_m4 {w : World} {v : Value} {d : Dt} {rest news : Led} (R : DtIn w rest v d) (hs : ∀ p ∈ rest, p ∈ news) : Does w 265 [v] 1 [] news (fun r _ tl => tl = [] ∧ ∃ tk, r = .str d.kind tk) := kind_dt (R.mono hs)
theorem ln_EI_1 : True := by
  (k_with "call ref" => (k_here; k_dflt ((first | refine' Does.use0E (kind_dt_m4 ?zp0 ?zp1) ?zcB ?zcF ?zcX ?zcN ?zcT ?zchd ?zchu ?_ | refine' Does.use0V (kind_dt_m4 ?zp0 ?zp1) ?zcB ?zcF ?zcX ?zcN ?zcT ?zchd ?zchu ?_ | refine' Does.use0 (kind_dt_m4 ?zp0 ?zp1) ?zcB ?zcF ?zcX ?zcN ?zcT ?zchd ?zchu ?_); (case zcB => assumption); (case zcF => k_asm); (case zcX => assumption); (case zcN => k_asm); (case zcT => assumption); (case zchd => k_extra "x room"); (case zchu => k_extra "x unit"); (case zp0 => first | assumption | (intro q7 hq7; simp only [List.mem_cons, List.mem_append, hq7, true_or, or_true])); (case zp1 => first | assumption | (intro q7 hq7; simp only [List.mem_cons, List.mem_append, hq7, true_or, or_true])); (k_extra "x got"); (try simp only [Lf.kind, Dt.kind]))))
  trivial
theorem din_no {prog : Program} {w : World} {A : Around} {E : Value → Shared → Prop} {s : Shared} {h₀ : Heap} {L d : Addr} {news : Led} {o : Obj} {kvs : List (Int × Value)} {k : Int} {t : Tok} {Q : Value → Shared → Prop} (N : News h₀ L s.heap news) (hm : (d, o) ∈ news) (hd : o.IsDictOf (intKind prog w) kvs) (lo : (d == sysModules) = false) (hV : (valueAt kvs k).isSome = false) (h : Q (.bool false) { s with toks := s.toks + 1 }) :
    wpAny (model prog w) A (compareOp .In (.int k t) (.ref d)) Q E s := kda_in (knd := intKind prog w) N hm hd lo is_int _ hV h
theorem nodup_take {ks : List Int} (h : ks.Nodup) {i : Nat} {k : Int} (hk : ks[i]? = some k) : k ∉ ks.take i := by
  intro hm
  obtain ⟨j, hj, e⟩ := List.mem_iff_getElem.mp hm
  rw [List.length_take] at hj
  obtain ⟨hi, e2⟩ := List.getElem?_eq_some_iff.mp hk
  rw [List.getElem_take] at e
  exact List.pairwise_iff_getElem.mp h j i (by omega) hi (by omega) (e.trans e2.symm)
theorem ln_EI_2 : True := by
  (k_with "compareOp In int ref" => (k_here; k_dflt (refine' din_no ?zcN ?zhm ?zhd ?zlo ?zhV ?_; (case zcN => ((rename News _ _ _ _ => N7); exact N7)); (case zhm => (repeat (first | assumption | exact List.mem_cons_self .. | exact List.mem_append_left _ (by assumption) | exact List.mem_append_right _ (by assumption) | refine List.mem_cons_of_mem _ ?_))); (case zhd => assumption); (case zlo => assumption); (case zhV => assumption))))
  trivial
theorem check_pairs_d {w : World} {P : Addr} {vs : List Value} {np : Nat} {ents : List (Int × Dt)} {rest : Led} (mP : (P, W.listOf vs.toArray np) ∈ rest) (hv : All2 (PairIn w rest) vs ents) (hok : EntsOk ents) :
    Does w 534 [.ref P] 2 [] rest (fun r _ tl => tl = [] ∧ r = .none) := by
  have hlen := hv.length
  have hlen8 := hok.1
  have hnd := keys_nodup hok
  refine' Does.of (binds := [(Str.ofString "pairs", .ref P)]) (al := [(Str.ofString "pairs", some (.ref P))]) ?k6 ?kb ?ks ?k7 ?k9 ?kB ?c5 ?c2 ?c3 ?c4 ?lv ?kal ?_
  (case k6 => k_dflt k_is); (case kb => conv => lhs; whnf); (case ks => conv => lhs; whnf); (case k7 => k_dflt k_is); (case k9 => exact rfl); (case kB => exact locs rfl); (case c5 => decide); (case c2 => exact rfl); (case c3 => exact rfl); (case c4 => exact rfl); (case lv => decide); (case kal => exact rfl)
  intro mean mg mb dp un outer base g L s E F N hap B X T hlt hdp hun
  (try simp only [List.nil_append, List.cons_append] at N hlt)
  k_fold
  k_extra "x stmt"
  ((rename Fr g L _ _ => F7); (rename News g L _ _ => N8); (have F8 := Fr_sel [Str.ofString "seen", Str.ofString "number", Str.ofString "value", Str.ofString "pairs"] (al := [(_, _), (_, _)]) F7 (by rfl)); clear F7)
  rename (_ == sysModules) = false => lo9
  rename Obj.IsDictOf (intKind _ _) _ _ => hd9
  rename ∀ p ∈ rest, p.1 < _ => l9
  refine seqK ?_
  refine For_invTF F8 ?_ (by intro _; rfl)
  (repeat' ((fail_if_success (with_reducible refine mark_pi ?_)); k_extra "x one"))
  obtain ⟨e1, he1, N8⟩ := head_ex N8
  have hr1 : ∀ p ∈ rest, p.1 ≠ e1.1 := fun p hp => by rw [he1]; exact Nat.ne_of_lt (l9 p hp)
  have lo1 : (e1.1 == sysModules) = false := by rw [he1]; exact lo9
  refine list_loopT (fun i al nx => Ex4 fun od kvs o2 o3 => An5 (nx = (e1.1, od) :: rest) (od.IsDictOf (intKind prg w) kvs) (kvs.length ≤ i) ((∀ k, (valueAt kvs k).isSome = decide (k ∈ (ents.map (·.1)).take i))) (al = [(Str.ofString "seen", some (.ref e1.1)), (Str.ofString "number", o2), (Str.ofString "value", o3), (Str.ofString "pairs", some (.ref P))])) F8 N8 (.tail _ mP) ⟨_, _, _, _, by rw [he1], hd9, Nat.le_refl _, fun _ => rfl, by rw [he1]; rfl⟩ ?_ ?_
  · rintro i v al₁ news₁ s₁ own hvi ho hm ⟨od, kvs, o2, o3, rfl, hd, hkl, hV, rfl⟩ F1 N1
    replace N1 : News g L s₁.heap ((e1.1, od) :: (rest ++ own)) := N1
    have hi9 : i < vs.length := (List.getElem?_eq_some_iff.mp hvi).1
    obtain ⟨⟨k, d⟩, hei, T, t, a, rfl, hT, hD⟩ := hv.get hvi
    have hki : (ents.map (·.1))[i]? = some k := by rw [List.getElem?_map, hei]; rfl
    have hV1 : (valueAt kvs k).isSome = false := by rw [hV]; exact decide_eq_false (nodup_take hnd hki)
    obtain ⟨hk1, hk2, hdok⟩ := hok.2.2 _ (List.mem_of_getElem? hei)
    have hsi := is_int (prog := prg) (w := w) (i := k) (t := t)
    have ho1 : ∀ p ∈ own, p.1 ≠ e1.1 := fun p hp => ho p hp _ (.head _)
    dsimp only at hk1 hk2 hdok hT hD
    have hV2 : ∀ j, (valueAt (stored kvs k (.bool true)) j).isSome = decide (j ∈ (ents.map (·.1)).take (i + 1)) := fun j => by
      rw [stored_isSome, hV, take_snoc hki]
      simp [List.mem_append]
    (repeat' ((fail_if_success (with_reducible refine mark_call ?_)); k_extra "x one"))
    cases d with
    | leaf l =>
      cases l with
      | ref a b => exact hdok.2.elim
      | _ =>
        k_extra "x steps"
        ((rename Fr g L _ _ => F7); (rename News g L _ _ => N8); (have F8 := Fr_sel [Str.ofString "seen", Str.ofString "number", Str.ofString "value", Str.ofString "pairs"] (al := [(_, _), (_, _), (_, _), (_, _), (_, _), (_, _)]) F7 (by rfl)); clear F7)
        refine ⟨rfl, _, _, _, (e1.1, _) :: rest, rfl, F8, news_tail N8, ho, .tail _ mP, _, _, _, _, rfl, by assumption, ?_, ?_, rfl⟩
        · have := stored_length_le kvs k (.bool true); omega
        · exact hV2
    | arr ls =>
        k_extra "x steps"
        ((rename Fr g L _ _ => F7); (rename News g L _ _ => N8); (have F8 := Fr_sel [Str.ofString "seen", Str.ofString "number", Str.ofString "value", Str.ofString "pairs"] (al := [(_, _), (_, _), (_, _), (_, _), (_, _), (_, _)]) F7 (by rfl)); clear F7)
        refine ⟨rfl, _, _, _, (e1.1, _) :: rest, rfl, F8, news_tail N8, ho, .tail _ mP, _, _, _, _, rfl, by assumption, ?_, ?_, rfl⟩
        · have := stored_length_le kvs k (.bool true); omega
        · exact hV2
    | dict es =>
        k_extra "x steps"
        ((rename Fr g L _ _ => F7); (rename News g L _ _ => N8); (have F8 := Fr_sel [Str.ofString "seen", Str.ofString "number", Str.ofString "value", Str.ofString "pairs"] (al := [(_, _), (_, _), (_, _), (_, _), (_, _), (_, _)]) F7 (by rfl)); clear F7)
        refine ⟨rfl, _, _, _, (e1.1, _) :: rest, rfl, F8, news_tail N8, ho, .tail _ mP, _, _, _, _, rfl, by assumption, ?_, ?_, rfl⟩
        · have := stored_length_le kvs k (.bool true); omega
        · exact hV2
  · rintro al₁ news₁ h tk ⟨od, kvs, o2, o3, rfl, hd, hkl, hV, rfl⟩ F1 N1
    try dsimp only
    k_extra "x steps"
    exact ⟨_, [], [], _, _, rfl, F1, fun p hp => N1 p (.tail _ hp), rfl, (fun _ _ _ h => nomatch h), rfl, rfl⟩

theorem join_cons (sep a b : Str) (l : List Str) : Txt.join sep (a :: b :: l) = (a ++ sep) ++ Txt.join sep (b :: l) := by
  unfold Txt.join
  rw [StrLaws.glued_eq_join, StrLaws.glued_eq_join]; rfl
theorem join_one (sep a : Str) : Txt.join sep [a] = a := by
  unfold Txt.join
  rw [StrLaws.glued_eq_join]; rfl
theorem join_none (sep : Str) : Txt.join sep [] = Str.empty := by
  unfold Txt.join
  rw [StrLaws.glued_eq_join]; rfl
noncomputable def rowS (p : Int × Int) : Str := (Str.ofString (toString p.1) ++ Str.ofString " ") ++ Str.ofString (toString p.2)
theorem codes_app (x y : Str) : codes (x ++ y) = codes x ++ codes y := by
  show ((x.cps ++ y.cps).toList.map _) = _
  rw [Array.toList_append, List.map_append]; rfl
theorem codes_row (p : Int × Int) : codes (rowS p) = dg p.1 ++ [32] ++ dg p.2 := by
  unfold rowS
  rw [codes_app, codes_app]; rfl
theorem lead_codes : ∀ (ps : List (Int × Int)), ps ≠ [] → codes (Txt.join (Str.ofString " ") (ps.map rowS)) ++ [10] = sepd (ps.flatMap fun p => [p.1, p.2])
  | [], h => absurd rfl h
  | [p], _ => by
    rw [List.map_cons, List.map_nil, join_one]
    show codes (rowS p) ++ [10] = dg p.1 ++ [32] ++ (dg p.2 ++ [10])
    rw [codes_row]; simp
  | p :: q :: r, _ => by
    have ih := lead_codes (q :: r) (List.cons_ne_nil _ _)
    have e : Txt.join (Str.ofString " ") ((p :: q :: r).map rowS) = (rowS p ++ Str.ofString " ") ++ Txt.join (Str.ofString " ") ((q :: r).map rowS) := join_cons _ _ _ _
    have e2 : (q :: r).flatMap (fun p => [p.1, p.2]) = q.1 :: q.2 :: r.flatMap fun p => [p.1, p.2] := by simp [List.flatMap_cons]
    have e3 : (p :: q :: r).flatMap (fun p => [p.1, p.2]) = p.1 :: p.2 :: q.1 :: q.2 :: r.flatMap fun p => [p.1, p.2] := by simp [List.flatMap_cons]
    rw [e2] at ih
    have e4 : sepd (p.1 :: p.2 :: q.1 :: q.2 :: r.flatMap fun p => [p.1, p.2]) = dg p.1 ++ [32] ++ (dg p.2 ++ [32] ++ sepd (q.1 :: q.2 :: r.flatMap fun p => [p.1, p.2])) := rfl
    have : codes (Str.ofString " ") = [32] := rfl
    rw [e, codes_app, codes_app, codes_row, this, e3, e4, ← ih]
    simp only [List.append_assoc]
theorem join_ascii : ∀ (ps : List (Int × Int)), ascii (Txt.join (Str.ofString " ") (ps.map rowS)) := by
  have sp : ascii (Str.ofString " ") := fun c hc => by have hc : c ∈ [32] := hc; rw [List.mem_singleton.mp hc]; decide
  have hr : ∀ p, ascii (rowS p) := fun p => ascii_app (ascii_app (ascii_int _) sp) (ascii_int _)
  intro ps
  induction ps with
  | nil => intro c hc; rw [List.map_nil, join_none] at hc; exact absurd hc List.not_mem_nil
  | cons p r ih =>
    cases r with
    | nil => rw [List.map_cons, List.map_nil, join_one]; exact hr p
    | cons q r => rw [List.map_cons, List.map_cons, join_cons]; exact ascii_app (ascii_app (hr p) sp) ih
theorem rowS_size {p : Int × Int} (h1 : (Str.ofString (toString p.1)).cps.size ≤ 8) (h2 : (Str.ofString (toString p.2)).cps.size ≤ 8) : (rowS p).cps.size ≤ 17 := by
  show ((((Str.ofString (toString p.1)).cps ++ (Str.ofString " ").cps) ++ (Str.ofString (toString p.2)).cps)).size ≤ 17
  rw [Array.size_append, Array.size_append]
  have : (Str.ofString " ").cps.size = 1 := rfl
  omega
theorem join_sz : ∀ (ps : List (Int × Int)), (∀ p ∈ ps, (rowS p).cps.size ≤ 17) → (Txt.join (Str.ofString " ") (ps.map rowS)).cps.size ≤ 18 * ps.length
  | [], _ => by rw [List.map_nil, join_none]; exact Nat.le_refl 0
  | [p], h => by have := h p (.head _); rw [List.map_cons, List.map_nil, join_one]; show (rowS p).cps.size ≤ 18; omega
  | p :: q :: r, h => by
    have ih := join_sz (q :: r) fun x hx => h x (.tail _ hx)
    have e : Txt.join (Str.ofString " ") ((p :: q :: r).map rowS) = (rowS p ++ Str.ofString " ") ++ Txt.join (Str.ofString " ") ((q :: r).map rowS) := join_cons _ _ _ _
    rw [e]
    show (((rowS p).cps ++ (Str.ofString " ").cps) ++ (Txt.join (Str.ofString " ") ((q :: r).map rowS)).cps).size ≤ _
    rw [Array.size_append, Array.size_append]
    have h1 := h p (.head _)
    have : (Str.ofString " ").cps.size = 1 := rfl
    simp only [List.length_cons] at ih ⊢
    omega

theorem ln_EJ : True := by
  k_with_none
  (k_with "ite" => first | with_reducible refine ite_tt ?_ | with_reducible refine ite_ff ?_)
  (k_with "execs nil" => (with_reducible refine wpAny_execs_nil ?_; (try dsimp only)))
  (k_with "execs cons" => (k_here; k_dflt (refine seqK ?_; (try dsimp only))))
  (k_with "x lia" => ((try clear cc); (try clear c2); (try clear lf); lia))
  (k_with "x n7" => ((rename News _ _ _ _ => N7); exact N7))
  (k_with "x room" => (first | exact room1 (by assumption) (by rfl) | exact room2 (by assumption) (by rfl) | omega))
  (k_with "x unit" => (first | exact unit1 (by assumption) (by rfl) | exact unit2 (by assumption) (by rfl) | omega))
  (k_with "x got" => ((first | ((with_reducible intro r9 h9 tk9 F9 N9 P9); (first | (obtain ⟨t9, e9⟩ := P9; subst e9) | (subst P9) | skip)) | (with_reducible intro t9 h9 tk9 F9 N9) | (with_reducible intro h9 tk9 F9 N9)); (try k_sweep)))
  (k_with "x one" => (first | (k_unfold; (try dsimp only)) | walk1 | (dsimp only; walk1)))
  (k_with "x g" => ((fail_if_success plain_pass); k_here))
  (k_with "x k" => (k_asm; k_extra "x n7"; k_extra "x ix"))
  (k_with "x c" => (k_extra "x k"; k_extra "x ev"; k_extra "x ev"))
  (k_with "x if" => (k_dflt (k_here; (with_reducible show wpAny _ _ (execs (Stmt.If (PySem.Expr.Compare (PySem.Expr.Name _ _) [CmpOp.Eq] [PySem.Expr.Constant (Const.str _) _ _] _) _ _ _ :: _) _) _ _ _); first | (apply xif_f; k_extra "x c"; exact rfl) | (apply xif_t; k_extra "x c"; exact rfl))))
  (k_with "x stmt" => ((first | k_extra "x if" | refine seqK ?_ | refine wpAny_execs_cons ?_); (repeat' ((fail_if_success (with_reducible refine mark_execs ?_)); k_extra "x one"))))
  (k_with "x steps" => (repeat' k_extra "x one"))
  (k_with "x ix" => (first | exact isX1 rfl | exact isX2 rfl | exact isX3 rfl))
  (k_with "x ev" => (first | exact Ev.str | exact Ev.int | exact Ev.none | exact Ev.bool | (apply Ev.name; exact rfl; exact rfl; exact rfl) | (apply Ev.cell; exact rfl; exact rfl; exact rfl; (first | k_mem | (repeat (first | exact List.mem_cons_self .. | refine List.mem_cons_of_mem _ ?_))); k_asm)))
  (k_with "x evs" => (focus ((repeat' (first | exact Evs.nil | apply Evs.int | (apply Evs.name; exact rfl; exact rfl; exact rfl) | (apply Evs.cell; exact rfl; exact rfl; exact rfl; (first | k_mem | (repeat (first | exact List.mem_cons_self .. | refine List.mem_cons_of_mem _ ?_))); k_asm) | exact Ev.str | exact Ev.none | exact Ev.bool | apply Evs.cons)); done)))
  (k_with "execs cons If" => ((fail_if_success plain_pass); k_extra "x if"))
  (k_with "isTrue Compare" => (k_extra "x g"; (with_reducible show wpAny _ _ (PySem.isTrue (PySem.Expr.Compare _ [_] [_] _) _ _) _ _ _); k_dflt (first | ((with_reducible show wpAny _ _ (PySem.isTrue (PySem.Expr.Compare _ [CmpOp.Eq] [_] _) _ _) _ _ _); apply ist_strL; k_extra "x c") | (apply ist_int; k_extra "x c"; exact rfl))))
  (k_with "eval Call Name" => (k_extra "x g"; k_dflt (first | (apply call_ev; exact rfl; exact rfl; exact rfl; k_extra "x k"; k_extra "x evs"; k_asm; k_asm; k_is; k_is) | (apply bcall_ev; exact rfl; exact rfl; exact rfl; exact rfl; k_extra "x k"; k_extra "x evs"; k_asm; k_asm; k_is; boot_fast; decide))))
  (k_with "callWith" => (k_extra "x g"; k_dflt (apply meth_ev; exact rfl; k_extra "x k"; k_extra "x evs")))
  (k_with "spliced" => (k_extra "x g"; k_dflt (apply args_ev; exact rfl; k_extra "x k"; k_extra "x evs")))
  (k_with "eval Attribute Name" => (k_extra "x g"; k_dflt (apply attr_ev; k_extra "x k"; k_extra "x ev")))
  (k_with "x ho" => ((try simp only [List.nil_append, List.cons_append]); (repeat' (first | (refine off1_of ?_; assumption) | (refine off1_lt ?_; assumption) | (refine off1_all ?_; assumption) | refine And.intro ?_ ?_ | exact trivial | ((show @Ne Nat _ _); omega) | refine off1_app ?_ ?_))))
  (k_with "x hz" => ((try simp only [Array.size_push, List.size_toArray, List.length_cons, List.length_nil, List.length_append]); omega))
  (k_with "x hm" => (repeat (first | exact List.mem_cons_self .. | exact List.mem_append_left _ (by assumption) | refine List.mem_cons_of_mem _ ?_)))
  (k_with "call builtin:list.append" => (k_here; k_dflt ((rename News _ _ _ _ => N7); (first | (refine' append_at [] _ ?zcF N7 ?zho ?zhz ?_) | (refine' append_at [_] _ ?zcF N7 ?zho ?zhz ?_) | (refine' append_at [_, _] _ ?zcF N7 ?zho ?zhz ?_) | (refine' append_at [_, _, _] _ ?zcF N7 ?zho ?zhz ?_)); (case zcF => k_asm); (case zho => k_extra "x ho"); (case zhz => k_extra "x hz"); ((intro h9 F9 N9); (try simp only [List.nil_append, List.cons_append] at N9); (try k_sweep)))))
  (k_with "call builtin:list.extend" => (k_here; k_dflt ((rename News _ _ _ _ => N7); (first | (refine' extend_at [] _ ?zcF N7 ?zhb ?zho ?zhne ?zhz ?_) | (refine' extend_at [_] _ ?zcF N7 ?zhb ?zho ?zhne ?zhz ?_) | (refine' extend_at [_, _] _ ?zcF N7 ?zhb ?zho ?zhne ?zhz ?_) | (refine' extend_at [_, _, _] _ ?zcF N7 ?zhb ?zho ?zhne ?zhz ?_)); (case zcF => k_asm); (case zhb => k_extra "x hm"); (case zho => k_extra "x ho"); (case zhne => k_extra "x hz"); (case zhz => k_extra "x hz"); ((intro h9 F9 N9); (try simp only [List.nil_append, List.cons_append] at N9); (try k_sweep)))))
  (k_with "assign Tuple" => (k_here; k_dflt (refine' unpackN_ ?zF ?zN ?zT ?zk1 ?zk2 ?zk3 ?_; (case zF => k_asm); (case zN => k_extra "x n7"); (case zT => (refine' News.isTup ?ztn ?ztm; (case ztn => k_extra "x n7"); (case ztm => (repeat (first | assumption | exact List.mem_cons_self .. | exact List.mem_append_left _ (by assumption) | refine List.mem_cons_of_mem _ ?_))))); (case zk1 => exact rfl); (case zk2 => with_unfolding_all exact rfl); (case zk3 => with_unfolding_all exact rfl)); intro h' F' N'; (try k_sweep)))
  (k_with "setItem ref int" => (k_here; k_dflt ((rename News _ _ _ _ => N7); (first | (refine' dset_at (K := Int) (knd := intKind prg _) [] _ ?zcF N7 ?zhd ?zhk ?zho ?zhz ?_; (case zhd => assumption)) | (refine' dset_at (K := Int) (knd := intKind prg _) [_] _ ?zcF N7 ?zhd ?zhk ?zho ?zhz ?_; (case zhd => assumption)) | (refine' dset_at (K := Int) (knd := intKind prg _) [_, _] _ ?zcF N7 ?zhd ?zhk ?zho ?zhz ?_; (case zhd => assumption))); (case zcF => k_asm); (case zhk => exact is_int); (case zho => k_extra "x ho"); (case zhz => omega); ((intro h9 o9 F9 N9 hd9); (try simp only [List.nil_append, List.cons_append] at N9); (try k_sweep)))))
  (k_with "call builtin:list.pop" => (k_here; k_dflt ((rename News _ _ _ _ => N7); (first | (refine' pop_at [] _ ?zcF N7 ?zhi ?zho ?zhne ?zhz ?_; (case zhi => assumption)) | (refine' pop_at [_] _ ?zcF N7 ?zhi ?zho ?zhne ?zhz ?_; (case zhi => assumption))); (case zcF => k_asm); (case zho => k_extra "x ho"); (case zhne => omega); (case zhz => omega); ((intro h9 t9 us9 n9 F9 N9 hI9 hs9); (try simp only [List.nil_append, List.cons_append] at N9); (try k_sweep)))))
  (k_with "truthy ref" => (k_here; k_dflt ((rename News _ _ _ _ => N7); refine' truthy_at N7 ?zhm ?zhz ?_ ?_; (case zhm => k_extra "x hm"); (case zhz => omega)); intro htr))
  trivial
noncomputable def octsOf (ents : List (Int × Dt)) : List (List Int) := ents.map fun e => octOf e.2
noncomputable def pairsAt (ents : List (Int × Dt)) : Nat → List (Int × Int)
  | 0 => []
  | i + 1 => pairsAt ents i ++ [((ents.map (·.1)).getD i 0, (offAt (octsOf ents) i : Int))]
theorem pairsAt_len (ents : List (Int × Dt)) : ∀ i, (pairsAt ents i).length = i
  | 0 => rfl
  | i + 1 => by rw [pairsAt, List.length_append, pairsAt_len ents i]; rfl
noncomputable def numsAt (ents : List (Int × Dt)) (i : Nat) : List Int := (pairsAt ents i).flatMap fun p => [p.1, p.2]
noncomputable def rowsStr (ents : List (Int × Dt)) (i : Nat) : List Str := (pairsAt ents i).map rowS
theorem rowsStr_len (ents : List (Int × Dt)) (i : Nat) : (rowsStr ents i).length = i := by rw [rowsStr, List.length_map, pairsAt_len]
theorem rowsStr_succ {ents : List (Int × Dt)} {i : Nat} {k : Int} (h : (ents.map (·.1))[i]? = some k) : rowsStr ents (i + 1) = rowsStr ents i ++ [rowS (k, (offAt (octsOf ents) i : Int))] := by
  unfold rowsStr
  rw [pairsAt, List.map_append, List.getD_eq_getElem?_getD, h]; rfl
noncomputable def leadOf (ents : List (Int × Dt)) : List Int := sepd (numsAt ents ents.length)
noncomputable def dataOf (ents : List (Int × Dt)) : List Int := leadOf ents ++ bodyOf (octsOf ents)
theorem SA_app {a b : List Value} {x y : List Str} (h : StrsAre a x) (h2 : StrsAre b y) : StrsAre (a ++ b) (x ++ y) := by
  induction h with
  | nil => exact h2
  | cons y t _ ih => exact .cons y t ih
theorem SA_push {vs : Array Value} {l : List Str} {x : Str} {t : Tok} (h : StrsAre vs.toList l) : StrsAre (vs.push (.str x t)).toList (l ++ [x]) := by
  rw [Array.toList_push]
  exact SA_app h (.cons x t .nil)
theorem offAt_le {ents : List (Int × Dt)} (hok : ∀ e ∈ ents, e.2.ok) : ∀ i, i ≤ ents.length → offAt (octsOf ents) i ≤ 1001 * i
  | 0, _ => by rw [offAt_zero]; omega
  | i + 1, hi => by
    have h := offAt_le hok i (by omega)
    have he : (octsOf ents)[i]? = some (octOf (ents[i]'(by omega)).2) := by
      rw [octsOf, List.getElem?_map, List.getElem?_eq_getElem (by omega)]; rfl
    rw [offAt_succ he]
    have := octOf_len (hok _ (List.getElem_mem (l := ents) (by omega : i < ents.length)))
    omega
theorem pairs_rows {ents : List (Int × Dt)} (hok : EntsOk ents) : ∀ i, i ≤ ents.length → ∀ p ∈ pairsAt ents i, (rowS p).cps.size ≤ 17
  | 0, _ => fun _ h => nomatch h
  | i + 1, hi => fun p hp => by
    have hoff := offAt_le (fun e he => (hok.2.2 e he).2.2) i (by omega)
    have h8 := hok.1
    rcases List.mem_append.mp hp with hp | hp
    · exact pairs_rows hok i (by omega) p hp
    · rw [List.mem_singleton.mp hp]
      have hk := (hok.2.2 _ (List.getElem_mem (l := ents) (by omega : i < ents.length)))
      have e : (ents.map (·.1)).getD i 0 = (ents[i]'(by omega)).1 := by
        rw [List.getD_eq_getElem?_getD, List.getElem?_map, List.getElem?_eq_getElem (by omega)]; rfl
      exact rowS_size (int_len (by rw [e]; omega) (by rw [e]; omega)) (int_len (by simp only; omega) (by simp only; omega))
theorem check_pairs_m {w : World} {P : Addr} {vs : List Value} {np : Nat} {ents : List (Int × Dt)} {rest news : Led} (mP : (P, W.listOf vs.toArray np) ∈ rest) (hv : All2 (PairIn w rest) vs ents) (hok : EntsOk ents) (hs : ∀ p ∈ rest, p ∈ news) :
    Does w 534 [.ref P] 2 [] news (fun r _ tl => tl = [] ∧ r = .none) := check_pairs_d (hs _ mP) (hv.mono fun _ _ h => h.mono hs) hok
theorem write_object_m {w : World} {v : Value} {d : Dt} {rest news : Led} (R : DtIn w rest v d) (hok : d.ok) (hs : ∀ p ∈ rest, p ∈ news) : Does w 501 [v, .bool true] 16 [] news (fun r _ tl => tl = [] ∧ ∃ tk, r = .bytes (byteArr (octOf d)) tk) := write_object_d (R.mono hs) hok
theorem ln_EJ_1 : True := by
  (k_with "call ref" => (k_here; k_dflt ((first | refine' Does.use0E (check_pairs_m ?zp0 ?zp1 ?zp2 ?zp3) ?zcB ?zcF ?zcX ?zcN ?zcT ?zchd ?zchu ?_ | refine' Does.use0V (check_pairs_m ?zp0 ?zp1 ?zp2 ?zp3) ?zcB ?zcF ?zcX ?zcN ?zcT ?zchd ?zchu ?_ | refine' Does.use0 (check_pairs_m ?zp0 ?zp1 ?zp2 ?zp3) ?zcB ?zcF ?zcX ?zcN ?zcT ?zchd ?zchu ?_); (case zcB => assumption); (case zcF => k_asm); (case zcX => assumption); (case zcN => k_asm); (case zcT => assumption); (case zchd => k_extra "x room"); (case zchu => k_extra "x unit"); (case zp0 => first | assumption | (intro q7 hq7; simp only [List.mem_cons, List.mem_append, hq7, true_or, or_true])); (case zp1 => first | assumption | (intro q7 hq7; simp only [List.mem_cons, List.mem_append, hq7, true_or, or_true])); (case zp2 => first | assumption | (intro q7 hq7; simp only [List.mem_cons, List.mem_append, hq7, true_or, or_true])); (case zp3 => first | assumption | (intro q7 hq7; simp only [List.mem_cons, List.mem_append, hq7, true_or, or_true])); (k_extra "x got"))))
  trivial
theorem ln_EJ_2 : True := by
  (k_with "call ref" => (k_here; k_dflt ((first | refine' Does.use0E (write_object_m ?zp0 ?zp1 ?zp2) ?zcB ?zcF ?zcX ?zcN ?zcT ?zchd ?zchu ?_ | refine' Does.use0V (write_object_m ?zp0 ?zp1 ?zp2) ?zcB ?zcF ?zcX ?zcN ?zcT ?zchd ?zchu ?_ | refine' Does.use0 (write_object_m ?zp0 ?zp1 ?zp2) ?zcB ?zcF ?zcX ?zcN ?zcT ?zchd ?zchu ?_); (case zcB => assumption); (case zcF => k_asm); (case zcX => assumption); (case zcN => k_asm); (case zcT => assumption); (case zchd => k_extra "x room"); (case zchu => k_extra "x unit"); (case zp0 => first | assumption | (intro q7 hq7; simp only [List.mem_cons, List.mem_append, hq7, true_or, or_true])); (case zp1 => first | assumption | (intro q7 hq7; simp only [List.mem_cons, List.mem_append, hq7, true_or, or_true])); (case zp2 => first | assumption | (intro q7 hq7; simp only [List.mem_cons, List.mem_append, hq7, true_or, or_true])); (k_extra "x got"))))
  trivial
theorem ln_EJ_3 : True := by
  (k_with "call builtin:len cons nil" => (k_here; k_dflt (refine' len_byteArr ?zhz ?_; (case zhz => omega))))
  trivial
theorem sp_size : (Str.ofString " ").cps.size = 1 := rfl
theorem nl_size : (Str.ofString "\n").cps.size = 1 := rfl
theorem nl_ascii : ascii (Str.ofString "\n") := fun c hc => by have hc : c ∈ [10] := hc; rw [List.mem_singleton.mp hc]; decide
theorem ln_EJ_4 : True := by
  (k_with "binaryOp Add str str" => (k_here; (with_reducible show wpAny _ _ (binaryOp _ _ (Value.str (Str.ofString "\n") _)) _ _ _); k_dflt (refine' add_strL ?zhz ?_; (case zhz => ((try simp only [sp_size, nl_size]); omega)); intro y9 t9 k9 hy9 hs9; (try simp only [sp_size, nl_size] at hs9))))
  trivial
theorem join_rows {prog : Program} {w : World} {A : Around} {E : Value → Shared → Prop} {s : Shared} {h₀ : Heap} {L D : Addr} {news : Led} {us : Array Value} {k : Nat} {t : Tok} {ps : List (Int × Int)} {Q : Value → Shared → Prop} (N : News h₀ L s.heap news) (hm : (D, W.listOf us k) ∈ news) (hU : StrsAre us.toList (ps.map rowS)) (hp : ∀ p ∈ ps, (rowS p).cps.size ≤ 17) (hl : ps.length ≤ 8)
    (h : ∀ z t' k, z = Txt.join (Str.ofString " ") (ps.map rowS) → z.cps.size ≤ 200 → Q (.str z t') { s with toks := k }) : wpAny (model prog w) A (call (.builtin "str.join") [.str (Str.ofString " ") t, .ref D]) Q E s := by
  refine join_listW ⟨_, (N _ hm).1, rfl, _, rfl⟩ hU (by decide) ?_ fun t' k => h _ t' k rfl (Nat.le_trans (join_sz ps hp) (by omega))
  have : ∀ (l : List (Int × Int)), (∀ p ∈ l, (rowS p).cps.size ≤ 17) → ((l.map rowS).map (·.length)).sum ≤ 17 * l.length := by
    intro l
    induction l with
    | nil => intro _; exact Nat.le_refl 0
    | cons a r ih =>
      intro h
      have h1 : (rowS a).length ≤ 17 := h a (.head _)
      have h2 := ih fun p hp => h p (.tail _ hp)
      simp only [List.map_cons, List.sum_cons, List.length_cons]
      omega
  have h2 := this ps hp
  rw [List.length_map]
  omega
theorem type_str_encode : typeOf (.builtin "str.encode") = pure (.type "method_descriptor") := by show builtinType _ = _; rw [builtinType_eq_fast]; kernel_rfl
theorem str_method_encode {M : Model} {A : Around} {E : Value → Shared → Prop} {s : Shared} {x : Str} {t : Tok} {pl : Sem Bool} {Q : Value × List Value → Shared → Prop} (h : Q (.builtin "str.encode", [.str x t]) s) : wpAny M A (getMethod (.str x t) (Str.ofString "encode") pl) Q E s := by
  with_reducible exact GM.of (.str x t) (typeIs_str _ _ _) PySem.F.slot_str_encode type_str_encode GM.noRef h
theorem ln_EJ_5 : True := by
  (k_with "getMethod bytes" => (k_here; k_dflt (refine bytes_method_join ?_)))
  trivial
theorem ln_EJ_6 : True := by
  (k_with "call builtin:str.join" => (k_here; k_dflt (refine' join_rows ?zN ?zm ?zU ?zp ?zl ?_; (case zN => ((rename News _ _ _ _ => N7); exact N7)); (case zm => (repeat (first | assumption | exact List.mem_cons_self .. | exact List.mem_append_left _ (by assumption) | exact List.mem_append_right _ (by assumption) | refine List.mem_cons_of_mem _ ?_))); (case zU => assumption); (case zp => assumption); (case zl => omega); (intro y9 t9 k9 hy9 hs9))))
  trivial
theorem lead_str (ents : List (Int × Dt)) (h0 : 0 < ents.length) {y : Str} (hy : y = Txt.join (Str.ofString " ") ((pairsAt ents ents.length).map rowS)) : codes (y ++ Str.ofString "\n") = leadOf ents := by
  rw [hy, codes_app]
  exact lead_codes _ fun e => by have := congrArg List.length e; rw [pairsAt_len, List.length_nil] at this; omega
theorem join_body {ents : List (Int × Dt)} (h0 : 0 < ents.length) : Builtin.Bytes.joined #[10] ((octsOf ents).map byteArr) = byteArr (bodyOf (octsOf ents)) := by
  cases ents with
  | nil => exact absurd h0 (by decide)
  | cons a r =>
    show Builtin.Bytes.joined (byteArr [10]) ((octOf a.2 :: octsOf r).map byteArr) = _
    rw [joined_bytes, body_joined]; rfl
theorem add_ba {prog : Program} {w : World} {A : Around} {E : Value → Shared → Prop} {s : Shared} {a b : List Int} {t u : Tok} {Q : Value → Shared → Prop} (hz : a.length + b.length ≤ 100000) (h : ∀ t' k, Q (.bytes (byteArr (a ++ b)) t') { s with toks := k }) : wpAny (model prog w) A (binaryOp .Add (.bytes (byteArr a) t) (.bytes (byteArr b) u)) Q E s := by
  refine PySem.W.KBy.add_bytes (by rw [byteArr_size, byteArr_size]; omega) fun t' k => ?_
  have e : byteArr a ++ byteArr b = byteArr (a ++ b) := by
    apply Array.ext'
    rw [Array.toList_append, byteArr_list, byteArr_list, byteArr_list, List.map_append]
  rw [e]; exact h t' k
theorem ln_EJ_7 : True := by
  (k_with "binaryOp Add bytes bytes" => (k_here; k_dflt (refine' add_ba ?zz ?_; (case zz => omega); (intro t9 k9))))
  trivial
theorem laid_octets_d {w : World} {P : Addr} {vs : List Value} {np : Nat} {ents : List (Int × Dt)} {rest : Led} (mP : (P, W.listOf vs.toArray np) ∈ rest) (hv : All2 (PairIn w rest) vs ents) (hok : EntsOk ents) (h0 : 0 < ents.length) :
    Does w 541 [.ref P] 18 [] rest (fun r _ tl => Ex3 fun T t1 t2 => An2 (r = .ref T) (tl = [(T, tupObj [.bytes (byteArr (dataOf ents)) t1, .int (leadOf ents).length t2])])) := by
  have hlen := hv.length
  have hlen8 := hok.1
  have hoks : ∀ e ∈ ents, e.2.ok := fun e he => (hok.2.2 e he).2.2
  refine' Does.of (binds := [(Str.ofString "pairs", .ref P)]) (al := [(Str.ofString "pairs", some (.ref P))]) ?k6 ?kb ?ks ?k7 ?k9 ?kB ?c5 ?c2 ?c3 ?c4 ?lv ?kal ?_
  (case k6 => k_dflt k_is); (case kb => conv => lhs; whnf); (case ks => conv => lhs; whnf); (case k7 => k_dflt k_is); (case k9 => exact rfl); (case kB => exact locs rfl); (case c5 => decide); (case c2 => exact rfl); (case c3 => exact rfl); (case c4 => exact rfl); (case lv => decide); (case kal => exact rfl)
  intro mean mg mb dp un outer base g L s E F N hap B X T hlt hdp hun
  (try simp only [List.nil_append, List.cons_append] at N hlt)
  k_fold
  k_extra "x stmt"
  k_extra "x stmt"
  k_extra "x stmt"
  k_extra "x stmt"
  ((rename Fr g L _ _ => F7); (rename News g L _ _ => N8); (have F8 := Fr_sel [Str.ofString "number", Str.ofString "value", Str.ofString "part", Str.ofString "rows", Str.ofString "parts", Str.ofString "offset", Str.ofString "pairs"] (al := [(_, _), (_, _), (_, _), (_, _)]) F7 (by rfl)); clear F7)
  rename ∀ p ∈ rest, p.1 < _ => l9
  rename _ ∧ AllLt _ rest => l8
  refine seqK ?_
  refine For_invTF F8 ?_ (by intro _; rfl)
  (repeat' ((fail_if_success (with_reducible refine mark_pi ?_)); k_extra "x one"))
  obtain ⟨e1, he1, N8⟩ := head_ex N8
  obtain ⟨e2, he2, N8⟩ := snd_ex N8
  have h21 : @Ne Nat e2.1 e1.1 := by rw [he1, he2]; exact Nat.ne_of_lt l8.1
  have h12 : @Ne Nat e1.1 e2.1 := h21.symm
  have hr1 : ∀ p ∈ rest, p.1 ≠ e1.1 := fun p hp => by rw [he1]; exact Nat.ne_of_lt (allLt_mem l8.2 p hp)
  have hr2 : ∀ p ∈ rest, p.1 ≠ e2.1 := fun p hp => by rw [he2]; exact Nat.ne_of_lt (l9 p hp)
  refine list_loopT (fun i al nx => Ex8 fun us k ps kp o1 o2 o3 tk => An6 (nx = (e1.1, W.listOf ps kp) :: (e2.1, W.listOf us k) :: rest) (StrsAre us.toList (rowsStr ents i)) (us.size ≤ i) (BsAre ps.toList ((octsOf ents).take i)) (ps.size ≤ i) (al = [(Str.ofString "number", o1), (Str.ofString "value", o2), (Str.ofString "part", o3), (Str.ofString "rows", some (.ref e2.1)), (Str.ofString "parts", some (.ref e1.1)), (Str.ofString "offset", some (.int (offAt (octsOf ents) i : Int) tk)), (Str.ofString "pairs", some (.ref P))])) F8 N8 (.tail _ (.tail _ mP)) ⟨_, _, _, _, _, _, _, _, by rw [he1, he2], .nil, Nat.le_refl _, .nil, Nat.le_refl _, by rw [he1, he2]; rfl⟩ ?_ ?_
  · rintro i v al₁ news₁ s₁ own hvi ho hm ⟨us, ku, ps, kp, o1, o2, o3, tko, rfl, hU, hus, hB, hps, rfl⟩ F1 N1
    replace N1 : News g L s₁.heap ((e1.1, W.listOf ps kp) :: (e2.1, W.listOf us ku) :: (rest ++ own)) := N1
    have hi9 : i < vs.length := (List.getElem?_eq_some_iff.mp hvi).1
    obtain ⟨⟨k, d⟩, hei, T, t, a, rfl, hT, hD⟩ := hv.get hvi
    have hki : (ents.map (·.1))[i]? = some k := by rw [List.getElem?_map, hei]; rfl
    have hoi : (octsOf ents)[i]? = some (octOf d) := by rw [octsOf, List.getElem?_map, hei]; rfl
    obtain ⟨hk1, hk2, hdok⟩ := hok.2.2 _ (List.mem_of_getElem? hei)
    have ho1 : ∀ p ∈ own, p.1 ≠ e1.1 := fun p hp => ho p hp _ (.head _)
    have ho2 : ∀ p ∈ own, p.1 ≠ e2.1 := fun p hp => ho p hp _ (.tail _ (.head _))
    dsimp only at hk1 hk2 hdok hT hD
    have hol := octOf_len hdok
    have hoff := offAt_le hoks i (by omega)
    have hil1 := int_len (i := k) (by omega) (by omega)
    have hil2 := int_len (i := (offAt (octsOf ents) i : Int)) (by omega) (by omega)
    k_extra "x steps"
    ((rename Fr g L _ _ => F7); (rename News g L _ _ => N8); (have F8 := Fr_sel [Str.ofString "number", Str.ofString "value", Str.ofString "part", Str.ofString "rows", Str.ofString "parts", Str.ofString "offset", Str.ofString "pairs"] (al := [(_, _), (_, _), (_, _), (_, _), (_, _), (_, _), (_, _), (_, _), (_, _), (_, _), (_, _)]) F7 (by rfl)); clear F7)
    refine ⟨rfl, _, _, _, (e1.1, _) :: (e2.1, _) :: rest, rfl, F8, N8, ho, .tail _ (.tail _ mP), _, _, _, _, _, _, _, _, rfl, ?_, by simp; omega, ?_, by simp; omega, by rw [offAt_succ hoi]; push_cast; rfl⟩
    · rw [rowsStr_succ hki]; exact SA_push hU
    · rw [take_snoc hoi]; exact BsAre.push hB
  · rintro al₁ news₁ h tk ⟨us, ku, ps, kp, o1, o2, o3, tko, rfl, hU, hus, hB, hps, rfl⟩ F1 N1
    try dsimp only
    have hul := hU.length
    rw [rowsStr_len, Array.length_toList] at hul
    have hU2 : StrsAre us.toList ((pairsAt ents vs.length).map rowS) := hU
    clear hU
    have hpr := pairs_rows hok vs.length (by omega)
    have hpl := pairsAt_len ents vs.length
    (repeat' ((fail_if_success (with_reducible refine mark_bc ?_)); k_extra "x one"))
    rotate_left
    · exfalso; omega
    refine str_method_encode ?_
    (repeat' ((fail_if_success (with_reducible refine mark_bc ?_)); k_extra "x one"))
    rename _ = Txt.join _ _ => hy
    rename _ = _ ++ Str.ofString "\n" => hz
    rename _ ≤ 200 => hs200
    have hbl := body_len (parts := octsOf ents) (fun e => by have := congrArg List.length e; rw [octsOf, List.length_map, List.length_nil] at this; omega)
    have hol := offAt_le hoks ents.length (Nat.le_refl _)
    rw [show (octsOf ents).length = ents.length by rw [octsOf, List.length_map]] at hbl
    have hlead := (congrArg codes hz).trans (lead_str ents (by omega) (by rw [hy, hlen]))
    refine encode_ascii (by rw [hz, hy]; exact ascii_app (join_ascii _) nl_ascii) (by omega) fun t9 k9 => ?_
    have hll : (leadOf ents).length ≤ 300 := by rw [← hlead, codes_len]; omega
    rw [hlead]
    (repeat' ((fail_if_success (with_reducible refine mark_bc ?_)); k_extra "x one"))
    rw [hlen, List.take_of_length_le (by rw [octsOf, List.length_map]; exact Nat.le_refl _)] at hB
    ((rename Fr g L _ _ => F8); (rename News g L _ _ => N8))
    refine join_bytes (sep := #[10]) (vs := ps.toList) (nn := kp) (by rw [Array.toArray_toList]; exact N8.get (.head _)) hB.bytes ?_ ?_ ?_ fun t' k => ?_
    · have := join_size 0 ((octsOf ents).map byteArr) ((#[10] : Array UInt8).size * (((octsOf ents).map byteArr).toArray.size - 1)) 1000 (fun b hb => by
        obtain ⟨x, hx, rfl⟩ := List.mem_map.mp hb
        obtain ⟨e, he, rfl⟩ := List.mem_map.mp hx
        rw [byteArr_size]; exact octOf_len (hoks e he))
      refine Nat.le_trans this ?_
      rw [show (#[10] : Array UInt8).size = 1 from rfl, Nat.one_mul, List.size_toArray, List.length_map, octsOf, List.length_map]
      omega
    · rw [join_body h0, byteArr_size]; omega
    · intro e; have := congrArg List.length e; rw [List.length_map, octsOf, List.length_map, List.length_nil] at this; omega
    · rw [join_body h0]
      k_extra "x steps"
      ((rename Fr g L _ _ => F8); (rename News g L _ _ => N8))
      rename _ ∧ _ ∧ AllLt _ rest => l7
      exact ⟨_, [], [(_, _)], _, _, rfl, F8, news_k13 N8, rfl, (fun q hq p hp => by rw [List.mem_singleton.mp hp]; exact Nat.ne_of_lt (allLt_mem l7.2.2 q hq)), _, _, _, rfl, rfl⟩

theorem ln_EK : True := by
  k_with_none
  (k_with "ite" => first | with_reducible refine ite_tt ?_ | with_reducible refine ite_ff ?_)
  (k_with "execs nil" => (with_reducible refine wpAny_execs_nil ?_; (try dsimp only)))
  (k_with "execs cons" => (k_here; k_dflt (refine seqK ?_; (try dsimp only))))
  (k_with "x lia" => ((try clear cc); (try clear c2); (try clear lf); lia))
  (k_with "x n7" => ((rename News _ _ _ _ => N7); exact N7))
  (k_with "x room" => (first | exact room1 (by assumption) (by rfl) | exact room2 (by assumption) (by rfl) | omega))
  (k_with "x unit" => (first | exact unit1 (by assumption) (by rfl) | exact unit2 (by assumption) (by rfl) | omega))
  (k_with "x got" => ((first | ((with_reducible intro r9 h9 tk9 F9 N9 P9); (first | (obtain ⟨t9, e9⟩ := P9; subst e9) | (subst P9) | skip)) | (with_reducible intro t9 h9 tk9 F9 N9) | (with_reducible intro h9 tk9 F9 N9)); (try k_sweep)))
  (k_with "x one" => (first | (k_unfold; (try dsimp only)) | walk1 | (dsimp only; walk1)))
  (k_with "x g" => ((fail_if_success plain_pass); k_here))
  (k_with "x k" => (k_asm; k_extra "x n7"; k_extra "x ix"))
  (k_with "x c" => (k_extra "x k"; k_extra "x ev"; k_extra "x ev"))
  (k_with "x if" => (k_dflt (k_here; (with_reducible show wpAny _ _ (execs (Stmt.If (PySem.Expr.Compare (PySem.Expr.Name _ _) [CmpOp.Eq] [PySem.Expr.Constant (Const.str _) _ _] _) _ _ _ :: _) _) _ _ _); first | (apply xif_f; k_extra "x c"; exact rfl) | (apply xif_t; k_extra "x c"; exact rfl))))
  (k_with "x stmt" => ((first | k_extra "x if" | refine seqK ?_ | refine wpAny_execs_cons ?_); (repeat' ((fail_if_success (with_reducible refine mark_execs ?_)); k_extra "x one"))))
  (k_with "x steps" => (repeat' k_extra "x one"))
  (k_with "x ix" => (first | exact isX1 rfl | exact isX2 rfl | exact isX3 rfl))
  (k_with "x ev" => (first | exact Ev.str | exact Ev.int | exact Ev.none | exact Ev.bool | (apply Ev.name; exact rfl; exact rfl; exact rfl) | (apply Ev.cell; exact rfl; exact rfl; exact rfl; (first | k_mem | (repeat (first | exact List.mem_cons_self .. | refine List.mem_cons_of_mem _ ?_))); k_asm)))
  (k_with "x evs" => (focus ((repeat' (first | exact Evs.nil | apply Evs.int | (apply Evs.name; exact rfl; exact rfl; exact rfl) | (apply Evs.cell; exact rfl; exact rfl; exact rfl; (first | k_mem | (repeat (first | exact List.mem_cons_self .. | refine List.mem_cons_of_mem _ ?_))); k_asm) | exact Ev.str | exact Ev.none | exact Ev.bool | apply Evs.cons)); done)))
  (k_with "execs cons If" => ((fail_if_success plain_pass); k_extra "x if"))
  (k_with "isTrue Compare" => (k_extra "x g"; (with_reducible show wpAny _ _ (PySem.isTrue (PySem.Expr.Compare _ [_] [_] _) _ _) _ _ _); k_dflt (first | ((with_reducible show wpAny _ _ (PySem.isTrue (PySem.Expr.Compare _ [CmpOp.Eq] [_] _) _ _) _ _ _); apply ist_strL; k_extra "x c") | (apply ist_int; k_extra "x c"; exact rfl))))
  (k_with "eval Call Name" => (k_extra "x g"; k_dflt (first | (apply call_ev; exact rfl; exact rfl; exact rfl; k_extra "x k"; k_extra "x evs"; k_asm; k_asm; k_is; k_is) | (apply bcall_ev; exact rfl; exact rfl; exact rfl; exact rfl; k_extra "x k"; k_extra "x evs"; k_asm; k_asm; k_is; boot_fast; decide))))
  (k_with "callWith" => (k_extra "x g"; k_dflt (apply meth_ev; exact rfl; k_extra "x k"; k_extra "x evs")))
  (k_with "spliced" => (k_extra "x g"; k_dflt (apply args_ev; exact rfl; k_extra "x k"; k_extra "x evs")))
  (k_with "eval Attribute Name" => (k_extra "x g"; k_dflt (apply attr_ev; k_extra "x k"; k_extra "x ev")))
  (k_with "x ho" => ((try simp only [List.nil_append, List.cons_append]); (repeat' (first | (refine off1_of ?_; assumption) | (refine off1_lt ?_; assumption) | (refine off1_all ?_; assumption) | refine And.intro ?_ ?_ | exact trivial | ((show @Ne Nat _ _); omega) | refine off1_app ?_ ?_))))
  (k_with "x hz" => ((try simp only [Array.size_push, List.size_toArray, List.length_cons, List.length_nil, List.length_append]); omega))
  (k_with "x hm" => (repeat (first | exact List.mem_cons_self .. | exact List.mem_append_left _ (by assumption) | refine List.mem_cons_of_mem _ ?_)))
  (k_with "call builtin:list.append" => (k_here; k_dflt ((rename News _ _ _ _ => N7); (first | (refine' append_at [] _ ?zcF N7 ?zho ?zhz ?_) | (refine' append_at [_] _ ?zcF N7 ?zho ?zhz ?_) | (refine' append_at [_, _] _ ?zcF N7 ?zho ?zhz ?_) | (refine' append_at [_, _, _] _ ?zcF N7 ?zho ?zhz ?_)); (case zcF => k_asm); (case zho => k_extra "x ho"); (case zhz => k_extra "x hz"); ((intro h9 F9 N9); (try simp only [List.nil_append, List.cons_append] at N9); (try k_sweep)))))
  (k_with "call builtin:list.extend" => (k_here; k_dflt ((rename News _ _ _ _ => N7); (first | (refine' extend_at [] _ ?zcF N7 ?zhb ?zho ?zhne ?zhz ?_) | (refine' extend_at [_] _ ?zcF N7 ?zhb ?zho ?zhne ?zhz ?_) | (refine' extend_at [_, _] _ ?zcF N7 ?zhb ?zho ?zhne ?zhz ?_) | (refine' extend_at [_, _, _] _ ?zcF N7 ?zhb ?zho ?zhne ?zhz ?_)); (case zcF => k_asm); (case zhb => k_extra "x hm"); (case zho => k_extra "x ho"); (case zhne => k_extra "x hz"); (case zhz => k_extra "x hz"); ((intro h9 F9 N9); (try simp only [List.nil_append, List.cons_append] at N9); (try k_sweep)))))
  (k_with "assign Tuple" => (k_here; k_dflt (refine' unpackN_ ?zF ?zN ?zT ?zk1 ?zk2 ?zk3 ?_; (case zF => k_asm); (case zN => k_extra "x n7"); (case zT => (refine' News.isTup ?ztn ?ztm; (case ztn => k_extra "x n7"); (case ztm => (repeat (first | assumption | exact List.mem_cons_self .. | exact List.mem_append_left _ (by assumption) | refine List.mem_cons_of_mem _ ?_))))); (case zk1 => exact rfl); (case zk2 => with_unfolding_all exact rfl); (case zk3 => with_unfolding_all exact rfl)); intro h' F' N'; (try k_sweep)))
  (k_with "setItem ref int" => (k_here; k_dflt ((rename News _ _ _ _ => N7); (first | (refine' dset_at (K := Int) (knd := intKind prg _) [] _ ?zcF N7 ?zhd ?zhk ?zho ?zhz ?_; (case zhd => assumption)) | (refine' dset_at (K := Int) (knd := intKind prg _) [_] _ ?zcF N7 ?zhd ?zhk ?zho ?zhz ?_; (case zhd => assumption)) | (refine' dset_at (K := Int) (knd := intKind prg _) [_, _] _ ?zcF N7 ?zhd ?zhk ?zho ?zhz ?_; (case zhd => assumption))); (case zcF => k_asm); (case zhk => exact is_int); (case zho => k_extra "x ho"); (case zhz => omega); ((intro h9 o9 F9 N9 hd9); (try simp only [List.nil_append, List.cons_append] at N9); (try k_sweep)))))
  (k_with "call builtin:list.pop" => (k_here; k_dflt ((rename News _ _ _ _ => N7); (first | (refine' pop_at [] _ ?zcF N7 ?zhi ?zho ?zhne ?zhz ?_; (case zhi => assumption)) | (refine' pop_at [_] _ ?zcF N7 ?zhi ?zho ?zhne ?zhz ?_; (case zhi => assumption))); (case zcF => k_asm); (case zho => k_extra "x ho"); (case zhne => omega); (case zhz => omega); ((intro h9 t9 us9 n9 F9 N9 hI9 hs9); (try simp only [List.nil_append, List.cons_append] at N9); (try k_sweep)))))
  (k_with "truthy ref" => (k_here; k_dflt ((rename News _ _ _ _ => N7); refine' truthy_at N7 ?zhm ?zhz ?_ ?_; (case zhm => k_extra "x hm"); (case zhz => omega)); intro htr))
  trivial
theorem first_of {prog : Program} {w : World} {A : Around} {E : Value → Shared → Prop} {s : Shared} {h₀ : Heap} {L c : Addr} {news : Led} {v : Value} {n : Nat} {u : Tok} {value slice : PySem.Expr} {Q : Value → Shared → Prop} (N : News h₀ L s.heap news) (hm : (c, W.listOf #[v] n) ∈ news) (h : Q v s)
    (hs : subscripted slice false (.ref c) (.int 0 u) = operate [.ref c, .int 0 u] (getItem (.ref c) (.int 0 u)) := by with_unfolding_all rfl) : wpAny (model prog w) A (subscriptTail value slice (.ref c) (.int 0 u)) Q E s :=
  item_of (items := #[v]) N hm (by decide) (by show (0 : Int) < ((1 : Nat) : Int); decide) (by show 1 ≤ 100000; decide) (fun x hx => by have : some v = some x := hx; cases this; exact h) hs
theorem ln_EK_1 : True := by
  (k_with "subscriptTail Name Constant ref int" => (k_here; k_dflt (refine' first_of ?zN ?zm ?_; (case zN => ((rename News _ _ _ _ => N7); exact N7)); (case zm => (repeat (first | assumption | exact List.mem_cons_self .. | exact List.mem_append_left _ (by assumption) | exact List.mem_append_right _ (by assumption) | refine List.mem_cons_of_mem _ ?_))))))
  trivial
theorem ln_EK_2 : True := by
  (k_with "call builtin:len cons nil" => (k_here; k_dflt (refine' len_byteArr ?zhz ?_; (case zhz => omega))))
  trivial
theorem ln_EK_3 : True := by
  (k_with "binaryOp Add bytes bytes" => (k_here; k_dflt (refine' add_ba (b := [33]) ?zz ?_; (case zz => ((simp only [List.length_cons, List.length_nil]); omega)); (intro t9 k9))))
  trivial
theorem ord5 {r : Led} {h dn nm ds s : Addr × Obj} (h1 : ∀ p ∈ r, p.1 < h.1) (h2 : AllLt dn.1 r) (h3 : dn.1 < nm.1) (h4 : AllLt ds.1 r) (h5 : ds.1 < s.1) : ∀ q ∈ [] ++ r, ∀ p ∈ [s, ds, nm, dn, h], q.1 ≠ p.1 := by
  intro q hq p hp
  have hq : q ∈ r := hq
  have a1 : @LT.lt Nat _ q.1 h.1 := h1 q hq
  have a2 : @LT.lt Nat _ q.1 dn.1 := allLt_mem h2 q hq
  have a4 : @LT.lt Nat _ q.1 ds.1 := allLt_mem h4 q hq
  have h3 : @LT.lt Nat _ dn.1 nm.1 := h3
  have h5 : @LT.lt Nat _ ds.1 s.1 := h5
  simp only [List.mem_cons, List.not_mem_nil, or_false] at hp
  show @Ne Nat _ _
  rcases hp with rfl | rfl | rfl | rfl | rfl <;> omega
theorem law_lay_d {w : World} {ns : List Int} {t : Tok} {W1 : Addr} {tw : Tok} {nw : Nat} {rest : Led} (mW : (W1, W.listOf #[.str (Str.ofString "Own") tw] nw) ∈ rest) (hz : ns.length ≤ 50000) : Does w 572 [.bytes (byteArr ns) t, .ref W1] 3 [] rest (fun r _ tl => Ex16 fun S dS Nm dN H oH k1 k2 k3 t1 t2 t3 t4 t5 n1 n2 => An8 (r = .ref S) (tl = [(S, instObj 226 dS), (dS, dictOf [⟨k1, .str (Str.ofString "head") t1, .ref H⟩, ⟨k2, .str (Str.ofString "octets") t2, .bytes (byteArr (ns ++ [33])) t3⟩] n1), (Nm, instObj 183 dN), (dN, dictOf [⟨k3, .str (Str.ofString "text") t4, .str (Str.ofString "Own") tw⟩] n2), (H, oH)]) ((H == sysModules) = false) (oH.IsDictOf (PySem.strKind prg w) [(Str.ofString "Filter", .ref Nm), (Str.ofString "Length", .int ns.length t5)]) (@LT.lt Nat _ H dN) (@LT.lt Nat _ dN Nm) (@LT.lt Nat _ Nm dS) (@LT.lt Nat _ dS S)) := by
  refine' Does.of (binds := [(Str.ofString "octets", .bytes (byteArr ns) t), (Str.ofString "names", .ref W1)]) (al := [(Str.ofString "names", some (.ref W1)), (Str.ofString "octets", some (.bytes (byteArr ns) t))]) ?k6 ?kb ?ks ?k7 ?k9 ?kB ?c5 ?c2 ?c3 ?c4 ?lv ?kal ?_
  (case k6 => k_dflt k_is); (case kb => conv => lhs; whnf); (case ks => conv => lhs; whnf); (case k7 => k_dflt k_is); (case k9 => exact rfl); (case kB => exact locs rfl); (case c5 => decide); (case c2 => exact rfl); (case c3 => exact rfl); (case c4 => exact rfl); (case lv => decide); (case kal => exact rfl)
  intro mean mg mb dp un outer base g L s E F N hap B X T hlt hdp hun
  (try simp only [List.nil_append, List.cons_append] at N hlt)
  k_fold
  k_extra "x steps"
  ((rename Fr g L _ _ => F8); (rename News g L _ _ => N8))
  rename ∀ p ∈ rest, p.1 < _ => la
  rename _ ∧ AllLt _ rest => lb
  rename _ ∧ _ ∧ _ ∧ AllLt _ rest => ld
  rename (_ == sysModules) = false => lo
  rename Obj.IsDictOf (PySem.strKind prg w) _ _ => hd
  refine ⟨_, [], [(_, _), (_, _), (_, _), (_, _), (_, _)], _, _, rfl, F8, N8, rfl, ?_, _, _, _, _, _, _, _, _, _, _, _, _, _, _, _, _, rfl, rfl, lo, hd, lb.1, by assumption, ld.1, by assumption⟩
  exact ord5 la lb.2 (by assumption) ld.2.2.2 (by assumption)

theorem dict_loop {prog : Program} {w : World} {A : Around} {E : Value → Shared → Prop} {s : Shared} {env : Env} {h₀ : Heap} {L : Addr} {x : Str} {body : List Stmt} {Q : Flow → Shared → Prop} {al : List (Str × Option Value)} {news : Led} {d : Addr} {od : Obj} {kvs : List (Str × Value)} (J : Nat → List (Str × Option Value) → Led → Prop)
    (F : Fr h₀ L s.heap (lkm al)) (N : News h₀ L s.heap news) (hd : (d, od) ∈ news) (lo : (d == sysModules) = false) (ho : od.IsDictOf (PySem.strKind prog w) kvs) (hj : J 0 al news)
    (turn : ∀ i k y t al₁ news₁ s₁ own, kvs[i]? = some (k, y) → OwnOff own (news₁.map (·.1)) → (d, od) ∈ news₁ → J i al₁ news₁ → Fr h₀ L s₁.heap (lkm ((x, some (.str k t)) :: al₁)) → News h₀ L s₁.heap (news₁ ++ own) →
      wpAny (model prog w) A (execs body env) (TurnT h₀ L (fun al' nx => (d, od) ∈ nx ∧ J (i + 1) al' nx) own s₁) E s₁)
    (done : ∀ al₁ news₁ h tk, J kvs.length al₁ news₁ → Fr h₀ L h (lkm al₁) → News h₀ L h news₁ → Q .next { s with heap := h, toks := tk })
    (hh : A.handled = none := by rfl) (hLe : env.locals = L := by rfl) :
    wpAny (model prog w) A (pyIter (.ref d)) (fun it s₂ => LoopAtV prog w A h₀ env x body Q E it s₂) E s := by
  subst hLe
  obtain ⟨ep, hat⟩ := (Heap.dictOf_iff.mpr ⟨od, N.get hd, ho⟩).dictAt
  have hod : s.heap.get? d = some od := (N _ hd).1
  have hne : d ≠ s.heap.objs.size := Nat.ne_of_lt (Heap.lt_size hod)
  refine wpAny_pyIter_dict lo hat ?_
  have Wk := Walks.dictKeys (prog := prog) (w := w) (knd := PySem.strKind prog w) hh s.heap.objs.size d hne kvs ep
  refine ⟨_, _, _, kvs.length, _, _, lkm al, news, (fun i m nx => ∃ al', m = lkm al' ∧ (d, od) ∈ nx ∧ J i al' nx), rfl, Wk, ?_, ?_, ?_, ⟨⟨_, Heap.get?_push_size _ rfl, rfl, rfl⟩, hat.push _⟩, F.push _, (fun p hp => ⟨Heap.get?_push_of_some _ (N p hp).1, (N p hp).2⟩), ⟨al, rfl, hd, hj⟩, ?_, ?_⟩
  · intro hm
    rcases List.mem_cons.mp hm with e | hm
    · exact absurd F.ns.lt (e ▸ Nat.lt_irrefl _)
    · exact (N _ hd).2.1 ((List.mem_singleton.mp hm).symm)
  · intro b hb
    rw [List.mem_singleton.mp hb]
    exact next_is_new F
  · intro p hp hI
    exact absurd (Heap.lt_size (N p hp).1) ((List.mem_singleton.mp hI) ▸ Nat.lt_irrefl _)
  · rintro i v m₁ news₁ s₁ own hs1 hin hP ⟨al₁, rfl, hl₁, hJ⟩ hoff hown hget hfp hst F₁ N₁
    obtain ⟨k, y, hky, hkv⟩ := hP
    obtain ⟨t, rfl⟩ := Value.isStrOf_shape hkv
    have hI0 : h₀.get? s.heap.objs.size = none := next_is_new F
    obtain ⟨⟨oI, hoI, _⟩, _⟩ := id hst
    have hIown : (s.heap.objs.size, oI) ∈ own.filter fun p => decide (p.1 = s.heap.objs.size) := List.mem_filter.mpr ⟨hfp _ (List.mem_cons.mpr (.inl rfl)) hI0 _ hoI, by simp⟩
    have hsep : OwnOff (own.filter fun p => decide (p.1 = s.heap.objs.size)) (news₁.map (·.1)) := by
      intro p hp b hb e
      obtain ⟨q, hq, rfl⟩ := List.mem_map.mp hb
      have h1 : p.1 = s.heap.objs.size := by simpa using (List.mem_filter.mp hp).2
      exact hoff q hq (List.mem_singleton.mpr (e ▸ h1))
    have N₂ : News h₀ env.locals s₁.heap (news₁ ++ own.filter fun p => decide (p.1 = s.heap.objs.size)) := fun p hp => N₁ p ((List.mem_append.mp hp).elim (fun h => List.mem_append.mpr (.inr h)) fun h => List.mem_append.mpr (.inl ((List.mem_filter.mp h).1)))
    have hlo : s₁.heap.get? d = some od := (N₁ _ (List.mem_append.mpr (.inr hl₁))).1
    refine wpAny_mono (turn i k y t al₁ news₁ s₁ _ hky hsep hl₁ hJ F₁ N₂) (fun f s₂ p => ?_) fun _ _ e => e
    obtain ⟨rfl, h', tk, al', nx, rfl, F', N', ho, hlx, hJ'⟩ := p
    refine .next ⟨rfl, h', tk, lkm al', nx, rfl, F', fun p hp => ?_, fun p hp hq => ?_, al', rfl, hlx, hJ'⟩
    · rcases List.mem_append.mp hp with h | h
      · by_cases hI : p.1 = s.heap.objs.size
        · exact N' p (List.mem_append.mpr (.inr (List.mem_filter.mpr ⟨h, by simpa using hI⟩)))
        · have h1 : p.1 = d := by
            rcases List.mem_cons.mp (hown p h) with h2 | h2
            · exact absurd h2 hI
            · exact List.mem_singleton.mp h2
          have h2 : s₁.heap.get? p.1 = some p.2 := hget p h
          rw [h1, hlo] at h2
          have h3 : p = (d, od) := Prod.ext h1 (Option.some.inj h2).symm
          rw [h3]
          exact N' _ (List.mem_append.mpr (.inl hlx))
      · exact N' p (List.mem_append.mpr (.inl h))
    · exact ho _ hIown p.1 (List.mem_map.mpr ⟨p, hp, rfl⟩) (List.mem_singleton.mp hq).symm
  · rintro h' tk m' news' F' N' hw ⟨al', rfl, hl', hJ'⟩
    exact done al' news' h' tk hJ' F' N'

theorem ln_EM : True := by
  k_with_none
  (k_with "ite" => first | with_reducible refine ite_tt ?_ | with_reducible refine ite_ff ?_)
  (k_with "execs nil" => (with_reducible refine wpAny_execs_nil ?_; (try dsimp only)))
  (k_with "execs cons" => (k_here; k_dflt (refine seqK ?_; (try dsimp only))))
  (k_with "x lia" => ((try clear cc); (try clear c2); (try clear lf); lia))
  (k_with "x n7" => ((rename News _ _ _ _ => N7); exact N7))
  (k_with "x room" => (first | exact room1 (by assumption) (by rfl) | exact room2 (by assumption) (by rfl) | omega))
  (k_with "x unit" => (first | exact unit1 (by assumption) (by rfl) | exact unit2 (by assumption) (by rfl) | omega))
  (k_with "x got" => ((first | ((with_reducible intro r9 h9 tk9 F9 N9 P9); (first | (obtain ⟨t9, e9⟩ := P9; subst e9) | (subst P9) | skip)) | (with_reducible intro t9 h9 tk9 F9 N9) | (with_reducible intro h9 tk9 F9 N9)); (try k_sweep)))
  (k_with "x one" => (first | (k_unfold; (try dsimp only)) | walk1 | (dsimp only; walk1)))
  (k_with "x g" => ((fail_if_success plain_pass); k_here))
  (k_with "x k" => (k_asm; k_extra "x n7"; k_extra "x ix"))
  (k_with "x c" => (k_extra "x k"; k_extra "x ev"; k_extra "x ev"))
  (k_with "x if" => (k_dflt (k_here; (with_reducible show wpAny _ _ (execs (Stmt.If (PySem.Expr.Compare (PySem.Expr.Name _ _) [CmpOp.Eq] [PySem.Expr.Constant (Const.str _) _ _] _) _ _ _ :: _) _) _ _ _); first | (apply xif_f; k_extra "x c"; exact rfl) | (apply xif_t; k_extra "x c"; exact rfl))))
  (k_with "x stmt" => ((first | k_extra "x if" | refine seqK ?_ | refine wpAny_execs_cons ?_); (repeat' ((fail_if_success (with_reducible refine mark_execs ?_)); k_extra "x one"))))
  (k_with "x steps" => (repeat' k_extra "x one"))
  (k_with "x ix" => (first | exact isX1 rfl | exact isX2 rfl | exact isX3 rfl))
  (k_with "x ev" => (first | exact Ev.str | exact Ev.int | exact Ev.none | exact Ev.bool | (apply Ev.name; exact rfl; exact rfl; exact rfl) | (apply Ev.cell; exact rfl; exact rfl; exact rfl; (first | k_mem | (repeat (first | exact List.mem_cons_self .. | refine List.mem_cons_of_mem _ ?_))); k_asm)))
  (k_with "x evs" => (focus ((repeat' (first | exact Evs.nil | apply Evs.int | (apply Evs.name; exact rfl; exact rfl; exact rfl) | (apply Evs.cell; exact rfl; exact rfl; exact rfl; (first | k_mem | (repeat (first | exact List.mem_cons_self .. | refine List.mem_cons_of_mem _ ?_))); k_asm) | exact Ev.str | exact Ev.none | exact Ev.bool | apply Evs.cons)); done)))
  (k_with "execs cons If" => ((fail_if_success plain_pass); k_extra "x if"))
  (k_with "isTrue Compare" => (k_extra "x g"; (with_reducible show wpAny _ _ (PySem.isTrue (PySem.Expr.Compare _ [_] [_] _) _ _) _ _ _); k_dflt (first | ((with_reducible show wpAny _ _ (PySem.isTrue (PySem.Expr.Compare _ [CmpOp.Eq] [_] _) _ _) _ _ _); apply ist_strL; k_extra "x c") | (apply ist_int; k_extra "x c"; exact rfl))))
  (k_with "eval Call Name" => (k_extra "x g"; k_dflt (first | (apply call_ev; exact rfl; exact rfl; exact rfl; k_extra "x k"; k_extra "x evs"; k_asm; k_asm; k_is; k_is) | (apply bcall_ev; exact rfl; exact rfl; exact rfl; exact rfl; k_extra "x k"; k_extra "x evs"; k_asm; k_asm; k_is; boot_fast; decide))))
  (k_with "callWith" => (k_extra "x g"; k_dflt (apply meth_ev; exact rfl; k_extra "x k"; k_extra "x evs")))
  (k_with "spliced" => (k_extra "x g"; k_dflt (apply args_ev; exact rfl; k_extra "x k"; k_extra "x evs")))
  (k_with "eval Attribute Name" => (k_extra "x g"; k_dflt (apply attr_ev; k_extra "x k"; k_extra "x ev")))
  (k_with "x ho" => ((try simp only [List.nil_append, List.cons_append]); (repeat' (first | (refine off1_of ?_; assumption) | (refine off1_lt ?_; assumption) | (refine off1_all ?_; assumption) | refine And.intro ?_ ?_ | exact trivial | ((show @Ne Nat _ _); omega) | refine off1_app ?_ ?_))))
  (k_with "x hz" => ((try simp only [Array.size_push, List.size_toArray, List.length_cons, List.length_nil, List.length_append]); omega))
  (k_with "x hm" => (repeat (first | exact List.mem_cons_self .. | exact List.mem_append_left _ (by assumption) | refine List.mem_cons_of_mem _ ?_)))
  (k_with "call builtin:list.append" => (k_here; k_dflt ((rename News _ _ _ _ => N7); (first | (refine' append_at [] _ ?zcF N7 ?zho ?zhz ?_) | (refine' append_at [_] _ ?zcF N7 ?zho ?zhz ?_) | (refine' append_at [_, _] _ ?zcF N7 ?zho ?zhz ?_) | (refine' append_at [_, _, _] _ ?zcF N7 ?zho ?zhz ?_)); (case zcF => k_asm); (case zho => k_extra "x ho"); (case zhz => k_extra "x hz"); ((intro h9 F9 N9); (try simp only [List.nil_append, List.cons_append] at N9); (try k_sweep)))))
  (k_with "call builtin:list.extend" => (k_here; k_dflt ((rename News _ _ _ _ => N7); (first | (refine' extend_at [] _ ?zcF N7 ?zhb ?zho ?zhne ?zhz ?_) | (refine' extend_at [_] _ ?zcF N7 ?zhb ?zho ?zhne ?zhz ?_) | (refine' extend_at [_, _] _ ?zcF N7 ?zhb ?zho ?zhne ?zhz ?_) | (refine' extend_at [_, _, _] _ ?zcF N7 ?zhb ?zho ?zhne ?zhz ?_)); (case zcF => k_asm); (case zhb => k_extra "x hm"); (case zho => k_extra "x ho"); (case zhne => k_extra "x hz"); (case zhz => k_extra "x hz"); ((intro h9 F9 N9); (try simp only [List.nil_append, List.cons_append] at N9); (try k_sweep)))))
  (k_with "assign Tuple" => (k_here; k_dflt (refine' unpackN_ ?zF ?zN ?zT ?zk1 ?zk2 ?zk3 ?_; (case zF => k_asm); (case zN => k_extra "x n7"); (case zT => (refine' News.isTup ?ztn ?ztm; (case ztn => k_extra "x n7"); (case ztm => (repeat (first | assumption | exact List.mem_cons_self .. | exact List.mem_append_left _ (by assumption) | refine List.mem_cons_of_mem _ ?_))))); (case zk1 => exact rfl); (case zk2 => with_unfolding_all exact rfl); (case zk3 => with_unfolding_all exact rfl)); intro h' F' N'; (try k_sweep)))
  (k_with "setItem ref int" => (k_here; k_dflt ((rename News _ _ _ _ => N7); (first | (refine' dset_at (K := Int) (knd := intKind prg _) [] _ ?zcF N7 ?zhd ?zhk ?zho ?zhz ?_; (case zhd => assumption)) | (refine' dset_at (K := Int) (knd := intKind prg _) [_] _ ?zcF N7 ?zhd ?zhk ?zho ?zhz ?_; (case zhd => assumption)) | (refine' dset_at (K := Int) (knd := intKind prg _) [_, _] _ ?zcF N7 ?zhd ?zhk ?zho ?zhz ?_; (case zhd => assumption))); (case zcF => k_asm); (case zhk => exact is_int); (case zho => k_extra "x ho"); (case zhz => omega); ((intro h9 o9 F9 N9 hd9); (try simp only [List.nil_append, List.cons_append] at N9); (try k_sweep)))))
  (k_with "call builtin:list.pop" => (k_here; k_dflt ((rename News _ _ _ _ => N7); (first | (refine' pop_at [] _ ?zcF N7 ?zhi ?zho ?zhne ?zhz ?_; (case zhi => assumption)) | (refine' pop_at [_] _ ?zcF N7 ?zhi ?zho ?zhne ?zhz ?_; (case zhi => assumption))); (case zcF => k_asm); (case zho => k_extra "x ho"); (case zhne => omega); (case zhz => omega); ((intro h9 t9 us9 n9 F9 N9 hI9 hs9); (try simp only [List.nil_append, List.cons_append] at N9); (try k_sweep)))))
  (k_with "truthy ref" => (k_here; k_dflt ((rename News _ _ _ _ => N7); refine' truthy_at N7 ?zhm ?zhz ?_ ?_; (case zhm => k_extra "x hm"); (case zhz => omega)); intro htr))
  trivial
noncomputable def headOf (ents : List (Int × Dt)) : List (Str × Lf) := [(Str.ofString "Type", .name (Str.ofString "ObjStm")), (Str.ofString "N", .int ents.length), (Str.ofString "First", .int (leadOf ents).length), (Str.ofString "Filter", .name (Str.ofString "Own")), (Str.ofString "Length", .int (dataOf ents).length)]
theorem laid_octets_m {w : World} {P : Addr} {vs : List Value} {np : Nat} {ents : List (Int × Dt)} {rest news : Led} (mP : (P, W.listOf vs.toArray np) ∈ rest) (hv : All2 (PairIn w rest) vs ents) (hok : EntsOk ents) (h0 : 0 < ents.length) (hs : ∀ p ∈ rest, p ∈ news) :
    Does w 541 [.ref P] 18 [] news (fun r _ tl => Ex3 fun T t1 t2 => An2 (r = .ref T) (tl = [(T, tupObj [.bytes (byteArr (dataOf ents)) t1, .int (leadOf ents).length t2])])) := laid_octets_d (hs _ mP) (hv.mono fun _ _ h => h.mono hs) hok h0
theorem ln_EM_1 : True := by
  (k_with "call ref" => (k_here; k_dflt ((refine' Does.useT (laid_octets_m ?zmP ?zhv ?zok ?zh0 ?zhs) ?zcB ?zcF ?zcX ?zcN ?zcT ?zchd ?zchu ?_); (case zcF => k_asm); (case zcN => k_extra "x n7"); (case zcB => assumption); (case zcX => assumption); (case zcT => assumption); (case zchd => k_extra "x room"); (case zchu => k_extra "x unit"); (case zmP => assumption); (case zhv => assumption); (case zok => assumption); (case zh0 => assumption); (case zhs => (intro q7 hq7 ; simp only [List.mem_cons, List.mem_append, hq7, true_or, or_true])); ((intro r9 tl9 h9 tk9 F9 N9 o9 P9); (obtain ⟨T9, t91, t92, z0, z1⟩ := P9); (subst z0); (subst z1); (try simp only [List.nil_append, List.cons_append] at N9 o9); (try k_sweep); skip))))
  trivial
theorem law_lay_m {w : World} {ns : List Int} {t : Tok} {W1 : Addr} {tw : Tok} {nw : Nat} {rest news : Led} (mW : (W1, W.listOf #[.str (Str.ofString "Own") tw] nw) ∈ rest) (hz : ns.length ≤ 50000) (hs : ∀ p ∈ rest, p ∈ news) : Does w 572 [.bytes (byteArr ns) t, .ref W1] 3 [] news (fun r _ tl => Ex16 fun S dS Nm dN H oH k1 k2 k3 t1 t2 t3 t4 t5 n1 n2 => An8 (r = .ref S) (tl = [(S, instObj 226 dS), (dS, dictOf [⟨k1, .str (Str.ofString "head") t1, .ref H⟩, ⟨k2, .str (Str.ofString "octets") t2, .bytes (byteArr (ns ++ [33])) t3⟩] n1), (Nm, instObj 183 dN), (dN, dictOf [⟨k3, .str (Str.ofString "text") t4, .str (Str.ofString "Own") tw⟩] n2), (H, oH)]) ((H == sysModules) = false) (oH.IsDictOf (PySem.strKind prg w) [(Str.ofString "Filter", .ref Nm), (Str.ofString "Length", .int ns.length t5)]) (@LT.lt Nat _ H dN) (@LT.lt Nat _ dN Nm) (@LT.lt Nat _ Nm dS) (@LT.lt Nat _ dS S)) := law_lay_d (hs _ mW) hz
theorem ln_EM_2 : True := by
  (k_with "call ref" => (k_here; k_dflt ((refine' Does.useT (law_lay_m ?zmW ?zhz ?zhs) ?zcB ?zcF ?zcX ?zcN ?zcT ?zchd ?zchu ?_); (case zcF => k_asm); (case zcN => k_extra "x n7"); (case zcB => assumption); (case zcX => assumption); (case zcT => assumption); (case zchd => k_extra "x room"); (case zchu => k_extra "x unit"); (case zmW => assumption); (case zhz => assumption); (case zhs => (intro q7 hq7 ; simp only [List.mem_cons, List.mem_append, hq7, true_or, or_true])); ((intro r9 tl9 h9 tk9 F9 N9 o9 P9); (obtain ⟨S9, dS9, Nm9, dN9, H9, oH9, k91, k92, k93, t91, t92, t93, t94, t95, n91, n92, z0, z1, loH9, hdH9, lt91, lt92, lt93, lt94⟩ := P9); (subst z0); (subst z1); (try simp only [List.nil_append, List.cons_append] at N9 o9); (try k_sweep); skip))))
  trivial
theorem len_vs {prog : Program} {w : World} {A : Around} {E : Value → Shared → Prop} {s : Shared} {h₀ : Heap} {L c : Addr} {news : Led} {vs : List Value} {n : Nat} {Q : Value → Shared → Prop} (N : News h₀ L s.heap news) (hm : (c, W.listOf vs.toArray n) ∈ news) (hl : vs.length ≤ 100000)
    (h : Q (.int vs.length (s.toks + 1)) { s with toks := s.toks + 1 + 1 }) : wpAny (model prog w) A (call (.builtin "len") [.ref c]) Q E s := by
  refine PyProof.Rows.len_list (items := vs.toArray) ⟨_, N.get hm, rfl, n, rfl⟩ (by rw [List.size_toArray]; omega) ?_
  rw [List.size_toArray]; exact h
theorem ln_EM_3 : True := by
  (k_with "call builtin:len cons nil" => (k_here; k_dflt (refine' len_vs ?zhN ?zhm ?zhl ?_; (case zhN => ((rename News _ _ _ _ => N7); exact N7)); (case zhm => (repeat (first | assumption | exact List.mem_cons_self .. | exact List.mem_append_left _ (by assumption) | exact List.mem_append_right _ (by assumption) | refine List.mem_cons_of_mem _ ?_))); (case zhl => omega))))
  trivial
theorem cut_head {g h : Heap} {L : Addr} {a b c s ds nm dn hh t : Addr × Obj} {r : Led} (N : News g L h (a :: b :: c :: s :: ds :: nm :: dn :: hh :: t :: r)) : ∃ R : Led, s ∈ R ∧ ds ∈ R ∧ nm ∈ R ∧ dn ∈ R ∧ hh ∈ R ∧ (∀ p ∈ r, p ∈ R) ∧ R = s :: ds :: nm :: dn :: hh :: t :: r ∧ News g L h (a :: b :: c :: R) :=
  ⟨_, .head _, .tail _ (.head _), .tail _ (.tail _ (.head _)), .tail _ (.tail _ (.tail _ (.head _))), .tail _ (.tail _ (.tail _ (.tail _ (.head _)))), fun _ h => .tail _ (.tail _ (.tail _ (.tail _ (.tail _ (.tail _ h))))), rfl, N⟩
theorem name_s {g h : Heap} {L : Addr} {a b c : Addr × Obj} {S : Addr} {o : Obj} {r : Led} (_ : News g L h (a :: b :: c :: (S, o) :: r)) : ∃ x, x = S := ⟨_, rfl⟩
theorem mem_c3 {g h : Heap} {L : Addr} {r : Led} {a b c p : Addr × Obj} (_ : News g L h (a :: b :: c :: r)) (h : p ∈ r) : p ∈ a :: b :: c :: r := .tail _ (.tail _ (.tail _ h))
theorem stored_new {kvs : List (Str × Value)} {k : Str} {v : Value} (h : ∀ p ∈ kvs, p.1 ≠ k) : stored kvs k v = kvs ++ [(k, v)] := by
  unfold stored
  split
  · rename_i h1
    obtain ⟨p, hp, e⟩ := List.any_eq_true.mp h1
    exact absurd (by simpa using e) (h p hp)
  · rfl
theorem ln_EM_4 : True := by
  (k_with "subscriptTail Name Name ref str" => (k_here; k_dflt (refine' kda_item (knd := PySem.strKind prg _) ?zcN ?zhm ?zhd ?zhk ?zhl ?_; (case zcN => ((rename News _ _ _ _ => N7); exact N7)); (case zhl => assumption); (case zhd => assumption); (case zhm => (repeat (first | assumption | exact List.mem_cons_self .. | exact List.mem_append_left _ (by assumption) | exact List.mem_append_right _ (by assumption) | refine List.mem_cons_of_mem _ ?_))); (case zhk => exact is_strL))))
  trivial
theorem ln_EM_5 : True := by
  (k_with "setItem ref str" => (k_here; k_dflt (refine' dset_at (K := Str) (knd := PySem.strKind prg _) [_, _] _ ?zcF ?zcN ?zhd ?zhk ?zho ?zhz ?_; (case zcF => k_asm); (case zcN => ((rename News _ _ _ _ => N7); exact N7)); (case zhd => assumption); (case zhk => exact is_strL); (case zho => ((simp only [List.cons_append, List.nil_append]); repeat' (first | (refine off1_of ?_; assumption) | refine And.intro ?_ ?_ | exact trivial | ((show @Ne Nat _ _); omega) | refine off1_app ?_ ?_))); (case zhz => omega); (intro h9 o9 F9 N9 hd9; (try k_sweep)))))
  trivial
noncomputable def StreamIn (w : World) (tl : Led) (r : Value) (es : List (Str × Lf)) (oc : List Int) : Prop := ∃ S dS H oH kvs k1 k2 t1 t2 t3 n, r = .ref S ∧ (S, instObj 226 dS) ∈ tl ∧ (dS, dictOf [⟨k1, .str (Str.ofString "head") t1, .ref H⟩, ⟨k2, .str (Str.ofString "octets") t2, .bytes (byteArr oc) t3⟩] n) ∈ tl ∧ (H, oH) ∈ tl ∧ (H == sysModules) = false ∧ oH.IsDictOf (PySem.strKind prg w) kvs ∧ All2 (EntIn tl) kvs es
theorem ord_w {r : Led} {s d a b t c1 c2 c3 c4 c5 : Addr × Obj} {ea : Addr} {eo : Obj} (h1 : ∀ p ∈ r, p.1 < ea) (h2 : ea < b.1) (h3 : b.1 < a.1) (h4 : ∀ p ∈ r, p.1 < d.1) (h5 : d.1 < s.1) (o1 : ∀ q ∈ r, ∀ p ∈ [t], q.1 ≠ p.1) (o2 : ∀ q ∈ t :: r, ∀ p ∈ [c1, c2, c3, c4, c5], q.1 ≠ p.1) : ∀ q ∈ [] ++ r, ∀ p ∈ [s, d, a, b, (ea, eo), c1, c2, c3, c4, c5, t], q.1 ≠ p.1 := by
  intro q hq p hp
  have hq : q ∈ r := hq
  have a1 : @LT.lt Nat _ q.1 ea := h1 q hq
  have a2 : @LT.lt Nat _ q.1 d.1 := h4 q hq
  have h2 : @LT.lt Nat _ ea b.1 := h2
  have h3 : @LT.lt Nat _ b.1 a.1 := h3
  have h5 : @LT.lt Nat _ d.1 s.1 := h5
  have g1 := o1 q hq
  have g2 := o2 q (.tail _ hq)
  simp only [List.mem_cons, List.not_mem_nil, or_false] at hp g1 g2
  show @Ne Nat _ _
  rcases hp with rfl | rfl | rfl | rfl | rfl | rfl | rfl | rfl | rfl | rfl | rfl
  · omega
  · omega
  · omega
  · omega
  · show @Ne Nat q.1 ea; omega
  · exact g2 _ (.inl rfl)
  · exact g2 _ (.inr (.inl rfl))
  · exact g2 _ (.inr (.inr (.inl rfl)))
  · exact g2 _ (.inr (.inr (.inr (.inl rfl))))
  · exact g2 _ (.inr (.inr (.inr (.inr rfl))))
  · exact g1 _ rfl
theorem mem_as {l : Led} {a b : Addr × Obj} (e : a = b) (h : a ∈ l) : b ∈ l := e ▸ h
theorem write_packed_d {w : World} {P : Addr} {vs : List Value} {np : Nat} {ents : List (Int × Dt)} {W1 : Addr} {tw : Tok} {nw : Nat} {rest : Led} (mP : (P, W.listOf vs.toArray np) ∈ rest) (hv : All2 (PairIn w rest) vs ents) (hok : EntsOk ents) (h0 : 0 < ents.length) (mW : (W1, W.listOf #[.str (Str.ofString "Own") tw] nw) ∈ rest) (hdl : (dataOf ents).length ≤ 50000) :
    Does w 548 [.ref P, .ref W1, .ref 572] 20 [] rest (fun r _ tl => StreamIn w tl r (headOf ents) (dataOf ents ++ [33])) := by
  have hlen := hv.length
  have hlen8 := hok.1
  refine' Does.of (binds := [(Str.ofString "pairs", .ref P), (Str.ofString "names", .ref W1), (Str.ofString "lay", .ref 572)]) (al := [(Str.ofString "lay", some (.ref 572)), (Str.ofString "names", some (.ref W1)), (Str.ofString "pairs", some (.ref P))]) ?k6 ?kb ?ks ?k7 ?k9 ?kB ?c5 ?c2 ?c3 ?c4 ?lv ?kal ?_
  (case k6 => k_dflt k_is); (case kb => conv => lhs; whnf); (case ks => conv => lhs; whnf); (case k7 => k_dflt k_is); (case k9 => exact rfl); (case kB => exact locs rfl); (case c5 => decide); (case c2 => exact rfl); (case c3 => exact rfl); (case c4 => exact rfl); (case lv => decide); (case kal => exact rfl)
  intro mean mg mb dp un outer base g L s E F N hap B X T hlt hdp hun
  (try simp only [List.nil_append, List.cons_append] at N hlt)
  k_fold
  (repeat' ((fail_if_success (with_reducible refine mark_pi ?_)); k_extra "x one"))
  ((rename Fr g L _ _ => F8); (rename News g L _ _ => N8))
  rename (_ == sysModules) = false => loh
  rename ∀ q ∈ rest, ∀ p ∈ [_], _ => o91
  rename ∀ q ∈ _ :: rest, ∀ p ∈ [_, _, _, _, _], _ => o92
  rename _ ∧ _ ∧ _ ∧ _ ∧ _ ∧ _ ∧ AllLt _ rest => la
  rename _ ∧ _ ∧ _ ∧ _ ∧ _ ∧ _ ∧ _ ∧ AllLt _ rest => lb
  rename Obj.IsDictOf (PySem.strKind prg w) _ (strPairs _) => hdd
  rename Obj.IsDictOf (PySem.strKind prg w) _ [(Str.ofString "Filter", _), (Str.ofString "Length", _)] => hdH
  obtain ⟨S9, rfl⟩ := name_s N8
  obtain ⟨R, mS, mdS, mNm, mdN, mH, mR, hR, N8⟩ := cut_head N8
  obtain ⟨a, ha, N8⟩ := head_ex N8
  obtain ⟨b, hb, N8⟩ := snd_ex N8
  obtain ⟨e, he, N8⟩ := trd_ex N8
  have hRlt : ∀ p ∈ R, p.1 < e.1 := by rw [he, hR]; exact allLt_mem la
  have hbe : @LT.lt Nat _ e.1 b.1 := by rw [he, hb]; exact lb.1
  have hab : @LT.lt Nat _ b.1 a.1 := by rw [ha, hb]; assumption
  generalize hK3 : strPairs _ = K3 at hdd
  generalize hKH : [(Str.ofString "Filter", _), (Str.ofString "Length", _)] = KH at hdH
  have hRe : ∀ p ∈ R, p.1 ≠ e.1 := fun p hp => Nat.ne_of_lt (hRlt p hp)
  have hndH : (KH.map (·.1)).Nodup := by rw [← hKH]; exact (by decide : [Str.ofString "Filter", Str.ofString "Length"].Nodup)
  have hlH : KH.length = 2 := by rw [← hKH]; rfl
  have hl3 : K3.length = 3 := by rw [← hK3]; rfl
  have hst : ∀ (i : Nat) (k : Str) (y : Value), KH[i]? = some (k, y) → stored (K3 ++ KH.take i) k y = K3 ++ KH.take (i + 1) := fun i k y hk => by
    rw [take_snoc hk, ← List.append_assoc]
    refine stored_new fun p hp e => ?_
    have hm := List.mem_map_of_mem (f := Prod.fst) hp
    rw [e] at hm
    have hi : i < KH.length := (List.getElem?_eq_some_iff.mp hk).1
    have hi2 : i = 0 ∨ i = 1 := by omega
    rcases hi2 with rfl | rfl
    · rw [← hKH] at hk; cases hk
      rw [← hK3] at hm
      exact absurd (show Str.ofString "Filter" ∈ [Str.ofString "Type", Str.ofString "N", Str.ofString "First"] from hm) (by decide)
    · rw [← hKH] at hk; cases hk
      rw [← hK3, ← hKH] at hm
      exact absurd (show Str.ofString "Length" ∈ [Str.ofString "Type", Str.ofString "N", Str.ofString "First", Str.ofString "Filter"] from hm) (by decide)
  ((rename Fr g L _ _ => F7); (rename News g L _ _ => N8); (have F8 := Fr_sel [Str.ofString "key", Str.ofString "data", Str.ofString "first", Str.ofString "body", Str.ofString "head", Str.ofString "pairs", Str.ofString "names", Str.ofString "lay"] (al := [(_, _), (_, _), (_, _), (_, _), (_, _), (_, _), (_, _)]) F7 (by rfl)); clear F7)
  refine dict_loop (fun i al nx => Ex4 fun od o1 o2 o3 => An3 (nx = a :: b :: (e.1, od) :: R) (od.IsDictOf (PySem.strKind prg w) (K3 ++ KH.take i)) (al = [(Str.ofString "key", o1), (Str.ofString "data", o2), (Str.ofString "first", o3), (Str.ofString "body", some (.ref S9)), (Str.ofString "head", some (.ref e.1)), (Str.ofString "pairs", some (.ref P)), (Str.ofString "names", some (.ref W1)), (Str.ofString "lay", some (.ref 572))])) F8 N8 (.tail _ (.tail _ (.tail _ mH))) (by assumption) hdH ⟨_, _, _, _, by rw [he], by rw [List.take_zero, List.append_nil]; exact hdd, by rw [he]; rfl⟩ ?_ ?_
  · rintro i k y t al₁ news₁ s₁ own hki ho hm ⟨od, o1, o2, o3, rfl, hd9, rfl⟩ F1 N1
    have hva := valueAt_of_get hndH hki
    have hst9 := hst i k y hki
    have ho1 : ∀ p ∈ own, p.1 ≠ e.1 := fun p hp => ho p hp _ (.tail _ (.tail _ (.head _)))
    replace N1 : News g L s₁.heap (a :: b :: (e.1, od) :: (R ++ own)) := N1
    have mS' := mem_n3 N1 mS
    have mdS' := mem_n3 N1 mdS
    have hlk : (K3 ++ KH.take i).length ≤ 100 := by rw [List.length_append, List.length_take]; omega
    k_extra "x steps"
    ((rename Fr g L _ _ => F7); (rename News g L _ _ => N8); (have F8 := Fr_sel [Str.ofString "key", Str.ofString "data", Str.ofString "first", Str.ofString "body", Str.ofString "head", Str.ofString "pairs", Str.ofString "names", Str.ofString "lay"] (al := [(_, _), (_, _), (_, _), (_, _), (_, _), (_, _), (_, _), (_, _), (_, _)]) F7 (by rfl)); clear F7)
    rename Obj.IsDictOf (PySem.strKind prg w) _ (stored _ _ _) => hd8
    rw [hst9] at hd8
    exact ⟨rfl, _, _, _, a :: b :: (e.1, _) :: R, rfl, F8, N8, ho, .tail _ (.tail _ (.tail _ mH)), _, _, _, _, rfl, hd8, rfl⟩
  · rintro al₁ news₁ h tk ⟨od, o1, o2, o3, rfl, hd9, rfl⟩ F1 N1
    try dsimp only
    have mS' := mem_c3 N1 mS
    have mdS' := mem_c3 N1 mdS
    k_extra "x steps"
    ((rename Fr g L _ _ => F8); (rename News g L _ _ => N8))
    rename _ ∧ _ ∧ _ ∧ AllLt _ R => lc
    rw [List.take_length] at hd9
    have lc2 : ∀ p ∈ rest, p.1 < e.1 := fun p hp => hRlt p (mR p hp)
    rename @LT.lt Nat _ _ _ => ld
    rw [hR] at N8
    refine ⟨_, [], [_, _, a, b, (e.1, od), _, _, _, _, _, _], _, _, rfl, F8, N8, rfl, ord_w lc2 hbe hab (fun q hq => allLt_mem lc.2.2.2 q (mR q hq)) (by assumption) o91 o92, _, _, _, od, _, _, _, _, _, _, _, rfl, .head _, .tail _ (.head _), .tail _ (.tail _ (.tail _ (.tail _ (.head _)))), ?_, hd9, ?_⟩
    · rw [he]; exact loh
    · rw [← hK3, ← hKH, hlen]
      refine' .cons ⟨rfl, .name (mem_as ha (.tail _ (.tail _ (.head _)))) (mem_as hb (.tail _ (.tail _ (.tail _ (.head _)))))⟩ (.cons ⟨rfl, .int _ _⟩ (.cons ⟨rfl, .int _ _⟩ (.cons ⟨rfl, .name (.tail _ (.tail _ (.tail _ (.tail _ (.tail _ (.tail _ (.tail _ (.head _)))))))) (.tail _ (.tail _ (.tail _ (.tail _ (.tail _ (.tail _ (.tail _ (.tail _ (.head _)))))))))⟩ (.cons ⟨rfl, .int _ _⟩ .nil))))

noncomputable def sortHead (ents : List (Int × Dt)) : List (Str × Lf) := [(Str.ofString "Filter", .name (Str.ofString "Own")), (Str.ofString "First", .int (leadOf ents).length), (Str.ofString "Length", .int (dataOf ents).length), (Str.ofString "N", .int ents.length), (Str.ofString "Type", .name (Str.ofString "ObjStm"))]
noncomputable def headDat (ents : List (Int × Dt)) : List Dat := .str (Str.ofString "dict") :: (sortHead ents).flatMap toldEnt
theorem ent_inv {rest : Led} {kvs : List (Str × Value)} {p : Str × Lf} {ps : List (Str × Lf)} (h : All2 (EntIn rest) kvs (p :: ps)) : ∃ v r, kvs = (p.1, v) :: r ∧ LfIn rest v p.2 ∧ All2 (EntIn rest) r ps := by
  cases h with
  | @cons a _ as _ h1 h2 => exact ⟨a.2, as, by rw [← h1.1], h1.2, h2⟩
theorem ent_nil {rest : Led} {kvs : List (Str × Value)} (h : All2 (EntIn rest) kvs []) : kvs = [] := by cases h; rfl
theorem told_head_d {w : World} {H : Addr} {oH : Obj} {kvs : List (Str × Value)} {ents : List (Int × Dt)} {rest : Led} (m : (H, oH) ∈ rest) (lo : (H == sysModules) = false) (hd : oH.IsDictOf (PySem.strKind prg w) kvs) (hv : All2 (EntIn rest) kvs (headOf ents)) :
    Does w 277 [.ref H] 4 [] rest (fun r _ tl => (∃ T, r = .ref T) ∧ DatIn tl r (.tuple (headDat ents))) := by
  have R : DtIn w rest (.ref H) (.dict (headOf ents)) := .dict m lo hd hv
  unfold headOf at hv
  obtain ⟨v1, k1, e1, r1, hv⟩ := ent_inv hv
  obtain ⟨v2, k2, e2, r2, hv⟩ := ent_inv hv
  obtain ⟨v3, k3, e3, r3, hv⟩ := ent_inv hv
  obtain ⟨v4, k4, e4, r4, hv⟩ := ent_inv hv
  obtain ⟨v5, k5, e5, r5, hv⟩ := ent_inv hv
  have e6 := ent_nil hv
  subst e6 e5 e4 e3 e2 e1
  refine told_dict_g (ps := sortHead ents) R m lo hd ?_ (by rfl) (by show 5 ≤ 8; decide) fun i key hkey => ?_
  · exact (by decide : [Str.ofString "Type", Str.ofString "N", Str.ofString "First", Str.ofString "Filter", Str.ofString "Length"].Perm [Str.ofString "Filter", Str.ofString "First", Str.ofString "Length", Str.ofString "N", Str.ofString "Type"])
  · have hi : i < 5 := by
      have := (List.getElem?_eq_some_iff.mp hkey).1
      rwa [List.length_map] at this
    have : i = 0 ∨ i = 1 ∨ i = 2 ∨ i = 3 ∨ i = 4 := by omega
    rcases this with rfl | rfl | rfl | rfl | rfl <;> cases hkey
    · exact ⟨v4, _, rfl, r4, rfl⟩
    · exact ⟨v3, _, rfl, r3, rfl⟩
    · exact ⟨v5, _, rfl, r5, rfl⟩
    · exact ⟨v2, _, rfl, r2, rfl⟩
    · exact ⟨v1, _, rfl, r1, rfl⟩

theorem picked_ba {data : List Int} (lo hi : Option Int) : KBy.picked (byteArr data) lo hi = byteArr ((data.drop (lo.elim 0 (clipAt data.length))).take (hi.elim data.length (clipAt data.length) - lo.elim 0 (clipAt data.length))) := by
  rw [KBc.picked_eq, byteArr_size, byteArr_list]
  unfold byteArr
  rw [List.map_take, List.map_drop]
theorem clip_in {n : Nat} {i : Int} (h0 : 0 ≤ i) (h1 : i ≤ n) : clipAt n i = i.toNat := by
  obtain ⟨k, rfl⟩ : ∃ k : Nat, i = k := ⟨i.toNat, by omega⟩
  rw [clipAt_nat]
  omega
section
variable {prog : Program} {w : World} {A : Around} {E : Value → Shared → Prop} {s : Shared} {value slice : PySem.Expr} {data : List Int} {t : Tok} {h₀ : Heap} {L : Addr} {m : PySem.Str → Option Value} {news : Led} {i j : Int} {ui uj : Tok} {Q : Value → Shared → Prop}
theorem slice_baTo (hF : Fr h₀ L s.heap m) (hN : News h₀ L s.heap news) (hz : data.length ≤ 100000) (h0 : 0 ≤ j) (h1 : j ≤ data.length)
    (h : ∀ h' t' k, Fr h₀ L h' m → News h₀ L h' news → Q (.bytes (byteArr (data.take j.toNat)) t') { s with heap := h', toks := k })
    (hs : subscripted slice false (.bytes (byteArr data) t) (.ref s.heap.objs.size) = operate [.ref s.heap.objs.size, .bytes (byteArr data) t] (getItem (.bytes (byteArr data) t) (.ref s.heap.objs.size)) := by with_unfolding_all rfl)
    (ht : ∀ r, letTemporaryGo value (.bytes (byteArr data) t) r = pure () := by intro _; with_unfolding_all rfl) :
    wpAny (model prog w) A (subscriptTail value slice (.bytes (byteArr data) t) (.ref s.heap.objs.size)) Q E { s with heap := s.heap.push { cls := .type "slice", data := .fields #[.none, .int j uj, .none] } } := by
  refine KBc.slice_K hF hN rfl .none (.int j uj) (by rw [KBw.ints_length, byteArr_size]; omega) (fun h' t' k F' N' _ => ?_) hs ht
  rw [picked_ba]
  have e : (data.drop 0).take (clipAt data.length j - 0) = data.take j.toNat := by rw [clip_in h0 h1, List.drop_zero, Nat.sub_zero]
  show Q (.bytes (byteArr ((data.drop 0).take (clipAt data.length j - 0))) t') _
  rw [e]; exact h h' t' k F' N'
theorem slice_baMid (hF : Fr h₀ L s.heap m) (hN : News h₀ L s.heap news) (hz : data.length ≤ 100000) (hi0 : 0 ≤ i) (h0 : i ≤ j) (h1 : j ≤ data.length)
    (h : ∀ h' t' k, Fr h₀ L h' m → News h₀ L h' news → Q (.bytes (byteArr ((data.drop i.toNat).take (j.toNat - i.toNat))) t') { s with heap := h', toks := k })
    (hs : subscripted slice false (.bytes (byteArr data) t) (.ref s.heap.objs.size) = operate [.ref s.heap.objs.size, .bytes (byteArr data) t] (getItem (.bytes (byteArr data) t) (.ref s.heap.objs.size)) := by with_unfolding_all rfl)
    (ht : ∀ r, letTemporaryGo value (.bytes (byteArr data) t) r = pure () := by intro _; with_unfolding_all rfl) :
    wpAny (model prog w) A (subscriptTail value slice (.bytes (byteArr data) t) (.ref s.heap.objs.size)) Q E { s with heap := s.heap.push { cls := .type "slice", data := .fields #[.int i ui, .int j uj, .none] } } := by
  refine KBc.slice_K hF hN rfl (.int i ui) (.int j uj) (by rw [KBw.ints_length, byteArr_size]; omega) (fun h' t' k F' N' _ => ?_) hs ht
  rw [picked_ba]
  show Q (.bytes (byteArr ((data.drop (clipAt data.length i)).take (clipAt data.length j - clipAt data.length i))) t') _
  rw [clip_in hi0 (by omega), clip_in (by omega) h1]
  exact h h' t' k F' N'
theorem sepd_space : ∀ (ns : List Int), ns ≠ [] → (u8 (sepd ns)).any Builtin.Bytes.isSpace = true
  | [], h => absurd rfl h
  | [x], _ => by
    rw [List.any_eq_true]
    exact ⟨10, by simp [u8, sepd], by decide⟩
  | x :: y :: r, _ => by
    rw [List.any_eq_true]
    exact ⟨32, by simp [u8, sepd], by decide⟩
theorem sepd_len : ∀ (ns : List Int), ns.length ≤ (sepd ns).length
  | [] => Nat.le_refl 0
  | [x] => by show 1 ≤ (dg x ++ [10]).length; simp
  | x :: y :: r => by
    have := sepd_len (y :: r)
    show (y :: r).length + 1 ≤ (dg x ++ [32] ++ sepd (y :: r)).length
    simp only [List.length_append, List.length_cons, List.length_nil] at this ⊢
    omega
theorem split_lead {ns : List Int} (hne : ns ≠ []) (hl : ns.length ≤ 100) (hd : ∀ n ∈ ns, (dg n).length ≤ 20) (F : Fr h₀ L s.heap m) (N : News h₀ L s.heap news)
    (h : ∀ D vs h' k, Fr h₀ L h' m → News h₀ L h' ((D, W.listOf (vs : List Value).toArray 0) :: news) → (∀ p ∈ news, p.1 < D) → All2 (fun v n => ∃ t, v = Value.bytes (byteArr (dg n)) t) vs ns → Q (.ref D) { s with heap := h', toks := k }) : wpAny (model prog w) A (call (.builtin "bytes.split") [.bytes (byteArr (sepd ns)) t]) Q E s := by
  have hw : Builtin.Bytes.words ((byteArr (sepd ns)).size + 1) ((byteArr (sepd ns)).size + 1) (byteArr (sepd ns)).toList = ns.map fun n => u8 (dg n) := by
    have := sepd_len ns
    rw [byteArr_size]
    exact words_sepd ns _ _ (by omega) (by omega)
  have hlen : 0 < (sepd ns).length := by
    have := sepd_len ns
    have : ns.length ≠ 0 := fun e => hne (List.eq_nil_of_length_eq_zero e)
    omega
  refine split_bytes ?_ ?_ ?_ ?_ fun vs k hv => ?_
  · have := sepd_space ns hne
    rw [← Array.any_toList]; exact this
  · have : (byteArr (sepd ns)).size ≠ 0 := by rw [byteArr_size]; omega
    rw [Array.isEmpty]; simpa using this
  · rw [hw]
    intro x hx
    obtain ⟨n, hn, rfl⟩ := List.mem_map.mp hx
    have := hd n hn
    rw [u8, List.length_map]; omega
  · rw [hw, List.length_map]; omega
  · rw [hw] at hv
    have hv2 : All2 (fun v n => ∃ t, v = Value.bytes (byteArr (dg n)) t) vs ns := by
      clear h hw hlen hne hl hd
      induction ns generalizing vs with
      | nil => cases hv; exact .nil
      | cons a r ih =>
        cases hv with
        | cons h1 h2 => exact .cons h1 (ih _ h2)
    exact h _ vs _ k (F.push _) (N.push F _) (fun p hp => Heap.lt_size (N p hp).1) hv2
end

theorem ln_EO : True := by
  k_with_none
  (k_with "ite" => first | with_reducible refine ite_tt ?_ | with_reducible refine ite_ff ?_)
  (k_with "execs nil" => (with_reducible refine wpAny_execs_nil ?_; (try dsimp only)))
  (k_with "execs cons" => (k_here; k_dflt (refine seqK ?_; (try dsimp only))))
  (k_with "x lia" => ((try clear cc); (try clear c2); (try clear lf); lia))
  (k_with "x n7" => ((rename News _ _ _ _ => N7); exact N7))
  (k_with "x room" => (first | exact room1 (by assumption) (by rfl) | exact room2 (by assumption) (by rfl) | omega))
  (k_with "x unit" => (first | exact unit1 (by assumption) (by rfl) | exact unit2 (by assumption) (by rfl) | omega))
  (k_with "x got" => ((first | ((with_reducible intro r9 h9 tk9 F9 N9 P9); (first | (obtain ⟨t9, e9⟩ := P9; subst e9) | (subst P9) | skip)) | (with_reducible intro t9 h9 tk9 F9 N9) | (with_reducible intro h9 tk9 F9 N9)); (try k_sweep)))
  (k_with "x one" => (first | (k_unfold; (try dsimp only)) | walk1 | (dsimp only; walk1)))
  (k_with "x g" => ((fail_if_success plain_pass); k_here))
  (k_with "x k" => (k_asm; k_extra "x n7"; k_extra "x ix"))
  (k_with "x c" => (k_extra "x k"; k_extra "x ev"; k_extra "x ev"))
  (k_with "x if" => (k_dflt (k_here; (with_reducible show wpAny _ _ (execs (Stmt.If (PySem.Expr.Compare (PySem.Expr.Name _ _) [CmpOp.Eq] [PySem.Expr.Constant (Const.str _) _ _] _) _ _ _ :: _) _) _ _ _); first | (apply xif_f; k_extra "x c"; exact rfl) | (apply xif_t; k_extra "x c"; exact rfl))))
  (k_with "x stmt" => ((first | k_extra "x if" | refine seqK ?_ | refine wpAny_execs_cons ?_); (repeat' ((fail_if_success (with_reducible refine mark_execs ?_)); k_extra "x one"))))
  (k_with "x steps" => (repeat' k_extra "x one"))
  (k_with "x ix" => (first | exact isX1 rfl | exact isX2 rfl | exact isX3 rfl))
  (k_with "x ev" => (first | exact Ev.str | exact Ev.int | exact Ev.none | exact Ev.bool | (apply Ev.name; exact rfl; exact rfl; exact rfl) | (apply Ev.cell; exact rfl; exact rfl; exact rfl; (first | k_mem | (repeat (first | exact List.mem_cons_self .. | refine List.mem_cons_of_mem _ ?_))); k_asm)))
  (k_with "x evs" => (focus ((repeat' (first | exact Evs.nil | apply Evs.int | (apply Evs.name; exact rfl; exact rfl; exact rfl) | (apply Evs.cell; exact rfl; exact rfl; exact rfl; (first | k_mem | (repeat (first | exact List.mem_cons_self .. | refine List.mem_cons_of_mem _ ?_))); k_asm) | exact Ev.str | exact Ev.none | exact Ev.bool | apply Evs.cons)); done)))
  (k_with "execs cons If" => ((fail_if_success plain_pass); k_extra "x if"))
  (k_with "isTrue Compare" => (k_extra "x g"; (with_reducible show wpAny _ _ (PySem.isTrue (PySem.Expr.Compare _ [_] [_] _) _ _) _ _ _); k_dflt (first | ((with_reducible show wpAny _ _ (PySem.isTrue (PySem.Expr.Compare _ [CmpOp.Eq] [_] _) _ _) _ _ _); apply ist_strL; k_extra "x c") | (apply ist_int; k_extra "x c"; exact rfl))))
  (k_with "eval Call Name" => (k_extra "x g"; k_dflt (first | (apply call_ev; exact rfl; exact rfl; exact rfl; k_extra "x k"; k_extra "x evs"; k_asm; k_asm; k_is; k_is) | (apply bcall_ev; exact rfl; exact rfl; exact rfl; exact rfl; k_extra "x k"; k_extra "x evs"; k_asm; k_asm; k_is; boot_fast; decide))))
  (k_with "callWith" => (k_extra "x g"; k_dflt (apply meth_ev; exact rfl; k_extra "x k"; k_extra "x evs")))
  (k_with "spliced" => (k_extra "x g"; k_dflt (apply args_ev; exact rfl; k_extra "x k"; k_extra "x evs")))
  (k_with "eval Attribute Name" => (k_extra "x g"; k_dflt (apply attr_ev; k_extra "x k"; k_extra "x ev")))
  (k_with "x ho" => ((try simp only [List.nil_append, List.cons_append]); (repeat' (first | (refine off1_of ?_; assumption) | (refine off1_lt ?_; assumption) | (refine off1_all ?_; assumption) | refine And.intro ?_ ?_ | exact trivial | ((show @Ne Nat _ _); omega) | refine off1_app ?_ ?_))))
  (k_with "x hz" => ((try simp only [Array.size_push, List.size_toArray, List.length_cons, List.length_nil, List.length_append]); omega))
  (k_with "x hm" => (repeat (first | exact List.mem_cons_self .. | exact List.mem_append_left _ (by assumption) | refine List.mem_cons_of_mem _ ?_)))
  (k_with "call builtin:list.append" => (k_here; k_dflt ((rename News _ _ _ _ => N7); (first | (refine' append_at [] _ ?zcF N7 ?zho ?zhz ?_) | (refine' append_at [_] _ ?zcF N7 ?zho ?zhz ?_) | (refine' append_at [_, _] _ ?zcF N7 ?zho ?zhz ?_) | (refine' append_at [_, _, _] _ ?zcF N7 ?zho ?zhz ?_)); (case zcF => k_asm); (case zho => k_extra "x ho"); (case zhz => k_extra "x hz"); ((intro h9 F9 N9); (try simp only [List.nil_append, List.cons_append] at N9); (try k_sweep)))))
  (k_with "call builtin:list.extend" => (k_here; k_dflt ((rename News _ _ _ _ => N7); (first | (refine' extend_at [] _ ?zcF N7 ?zhb ?zho ?zhne ?zhz ?_) | (refine' extend_at [_] _ ?zcF N7 ?zhb ?zho ?zhne ?zhz ?_) | (refine' extend_at [_, _] _ ?zcF N7 ?zhb ?zho ?zhne ?zhz ?_) | (refine' extend_at [_, _, _] _ ?zcF N7 ?zhb ?zho ?zhne ?zhz ?_)); (case zcF => k_asm); (case zhb => k_extra "x hm"); (case zho => k_extra "x ho"); (case zhne => k_extra "x hz"); (case zhz => k_extra "x hz"); ((intro h9 F9 N9); (try simp only [List.nil_append, List.cons_append] at N9); (try k_sweep)))))
  (k_with "assign Tuple" => (k_here; k_dflt (refine' unpackN_ ?zF ?zN ?zT ?zk1 ?zk2 ?zk3 ?_; (case zF => k_asm); (case zN => k_extra "x n7"); (case zT => (refine' News.isTup ?ztn ?ztm; (case ztn => k_extra "x n7"); (case ztm => (repeat (first | assumption | exact List.mem_cons_self .. | exact List.mem_append_left _ (by assumption) | refine List.mem_cons_of_mem _ ?_))))); (case zk1 => exact rfl); (case zk2 => with_unfolding_all exact rfl); (case zk3 => with_unfolding_all exact rfl)); intro h' F' N'; (try k_sweep)))
  (k_with "setItem ref int" => (k_here; k_dflt ((rename News _ _ _ _ => N7); (first | (refine' dset_at (K := Int) (knd := intKind prg _) [] _ ?zcF N7 ?zhd ?zhk ?zho ?zhz ?_; (case zhd => assumption)) | (refine' dset_at (K := Int) (knd := intKind prg _) [_] _ ?zcF N7 ?zhd ?zhk ?zho ?zhz ?_; (case zhd => assumption)) | (refine' dset_at (K := Int) (knd := intKind prg _) [_, _] _ ?zcF N7 ?zhd ?zhk ?zho ?zhz ?_; (case zhd => assumption))); (case zcF => k_asm); (case zhk => exact is_int); (case zho => k_extra "x ho"); (case zhz => omega); ((intro h9 o9 F9 N9 hd9); (try simp only [List.nil_append, List.cons_append] at N9); (try k_sweep)))))
  (k_with "call builtin:list.pop" => (k_here; k_dflt ((rename News _ _ _ _ => N7); (first | (refine' pop_at [] _ ?zcF N7 ?zhi ?zho ?zhne ?zhz ?_; (case zhi => assumption)) | (refine' pop_at [_] _ ?zcF N7 ?zhi ?zho ?zhne ?zhz ?_; (case zhi => assumption))); (case zcF => k_asm); (case zho => k_extra "x ho"); (case zhne => omega); (case zhz => omega); ((intro h9 t9 us9 n9 F9 N9 hI9 hs9); (try simp only [List.nil_append, List.cons_append] at N9); (try k_sweep)))))
  (k_with "truthy ref" => (k_here; k_dflt ((rename News _ _ _ _ => N7); refine' truthy_at N7 ?zhm ?zhz ?_ ?_; (case zhm => k_extra "x hm"); (case zhz => omega)); intro htr))
  trivial
theorem ln_EO_1 : True := by
  (k_with "exec If" => (k_here; k_dflt (refine wpAny_If ?_)))
  trivial
noncomputable def loopBody : List Stmt → List Stmt
  | _ :: _ :: _ :: _ :: _ :: _ :: _ :: .For _ _ b _ _ :: _ => b
  | _ => []
noncomputable def after5 : List Stmt → List Stmt
  | _ :: _ :: _ :: _ :: _ :: r => r
  | _ => []
theorem shelf_at {w : World} {news : Led} {kvs : List (Int × Value)} {ents : List (Int × Dt)} (rows : All2 (RowIn w news) kvs ents) (hnd : (kvs.map (·.1)).Nodup) {k : Int} {d : Dt} (h : (k, d) ∈ ents) : ∃ T a t, valueAt kvs k = some (.ref T) ∧ (T, tupObj [.int 0 t, a]) ∈ news ∧ DtIn w news a d := by
  obtain ⟨i, hi⟩ := List.mem_iff_getElem?.mp h
  obtain ⟨T, a, t, d', q1, q2, q3, q4⟩ := row_at rows (i := i) (k := k) (by rw [List.getElem?_map, hi]; rfl)
  rw [hi] at q2
  cases q2
  exact ⟨T, a, t, valueAt_row hnd q1, q3, q4⟩
noncomputable abbrev lrows (L : Addr) (og o1 o2 o3 o4 o5 o6 o7 o8 ofd obf omo p1 p2 p3 p4 : Option Value) : List (Str × Option Value) := [(Str.ofString "group", og), (Str.ofString "pairs", o1), (Str.ofString "stream", o2), (Str.ofString "octets", o3), (Str.ofString "first", o4), (Str.ofString "row", o5), (Str.ofString "offsets", o6), (Str.ofString "spot", o7), (Str.ofString "part", o8), (Str.ofString "found", ofd), (Str.ofString "before", obf), (Str.ofString "most", omo), (Str.ofString "script", p1), (Str.ofString "pen", p2), (Str.ofString "number", p3), (Str.ofString "turn", p4)]
theorem lead_len {ents : List (Int × Dt)} (hok : EntsOk ents) (h0 : 0 < ents.length) : (leadOf ents).length ≤ 300 := by
  have h := lead_str ents h0 rfl
  have h2 := join_sz (pairsAt ents ents.length) (pairs_rows hok ents.length (Nat.le_refl _))
  rw [← h, codes_app, List.length_append, codes_len]
  rw [pairsAt_len] at h2
  have h8 := hok.1
  have : (codes (Str.ofString "\n")).length = 1 := rfl
  omega
theorem ln_EO_2 : True := by
  (k_with "subscriptTail Name Slice bytes ref" => (k_here; k_dflt ((first | (refine' slice_baTo ?zhF ?zhN ?zhz ?zh0 ?zh1 ?_) | ((rename Fr _ _ _ _ => F6); (rename News _ _ _ _ => N6); refine' slice_baMid (s := ⟨_, _, _, _, _⟩) F6 N6 ?zhz ?zhi ?zh0 ?zh1 ?_; (case zhi => omega))); (try case zhF => k_asm); (try case zhN => k_asm); (case zhz => omega); (case zh0 => omega); (case zh1 => omega); (intro h9 t9 k9 F9 N9); (try k_sweep))))
  trivial
theorem nums_ok {ents : List (Int × Dt)} (hok : EntsOk ents) : (numsAt ents ents.length).length = 2 * ents.length ∧ (∀ n ∈ numsAt ents ents.length, 0 ≤ n ∧ n ≤ 100000) ∧ ∀ n ∈ numsAt ents ents.length, (dg n).length ≤ 20 := by
  have h8 := hok.1
  have hoks : ∀ e ∈ ents, e.2.ok := fun e he => (hok.2.2 e he).2.2
  have key : ∀ i, i ≤ ents.length → (numsAt ents i).length = 2 * i ∧ ∀ n ∈ numsAt ents i, 0 ≤ n ∧ n ≤ 100000 := by
    intro i
    induction i with
    | zero => intro _; exact ⟨rfl, fun _ h => nomatch h⟩
    | succ i ih =>
      intro hi
      obtain ⟨h1, h2⟩ := ih (by omega)
      have e : numsAt ents (i + 1) = numsAt ents i ++ [(ents.map (·.1)).getD i 0, (offAt (octsOf ents) i : Int)] := by
        unfold numsAt
        rw [pairsAt, List.flatMap_append]; rfl
      rw [e]
      refine ⟨by rw [List.length_append, h1]; simp; omega, fun n hn => ?_⟩
      rcases List.mem_append.mp hn with hn | hn
      · exact h2 n hn
      · have hk := hok.2.2 _ (List.getElem_mem (l := ents) (by omega : i < ents.length))
        have e : (ents.map (·.1)).getD i 0 = (ents[i]'(by omega)).1 := by
          rw [List.getD_eq_getElem?_getD, List.getElem?_map, List.getElem?_eq_getElem (by omega)]; rfl
        have ho := offAt_le hoks i (by omega)
        rw [e] at hn
        simp only [List.mem_cons, List.not_mem_nil, or_false] at hn
        rcases hn with rfl | rfl <;> omega
  obtain ⟨h1, h2⟩ := key ents.length (Nat.le_refl _)
  refine ⟨h1, h2, fun n hn => ?_⟩
  have := int_len (i := n) (by have := h2 n hn; omega) (by have := h2 n hn; omega)
  rw [dg, codes_len]; omega
theorem int_dg {prog : Program} {w : World} {A : Around} {E : Value → Shared → Prop} {s : Shared} {Q : Value → Shared → Prop} {t : Tok} {n : Int} (h0 : 0 ≤ n) (h1 : n ≤ 100000) (h : Q (.int n s.toks) { s with toks := s.toks + 1 }) : wpAny (model prog w) A (call (.type "int") [.bytes (byteArr (dg n)) t]) Q E s := by
  refine int_bytes h0 (by omega) ?_ h
  rw [byteArr_list, List.map_map]
  have h2 : ∀ c ∈ (PySem.Str.ofString (toString n)).cps.toList, c < 256 := fun c hc => by have := int_signs n c hc; omega
  show ((PySem.Str.ofString (toString n)).cps.toList.map fun (c : Nat) => (c : Int)).map _ = _
  rw [List.map_map]
  conv => rhs; rw [← List.map_id (PySem.Str.ofString (toString n)).cps.toList]
  refine List.map_congr_left fun c hc => ?_
  have := h2 c hc
  simp only [Function.comp, Int.toNat_natCast, _root_.id]
  show (UInt8.ofNat c).toNat = c
  rw [UInt8.toNat_ofNat']
  omega
theorem ln_EO_3 : True := by
  (k_with "call type:int" => (k_here; k_dflt (refine' int_dg ?za ?zb ?_; (case za => omega); (case zb => omega))))
  trivial
theorem ln_EO_4 : True := by
  (k_with "call builtin:len cons nil" => (k_here; k_dflt (first | (refine' len_byteArr ?zhz ?_; (case zhz => omega)) | (refine' len_ints ?zhi ?zhN ?zhm ?zhl ?_; (case zhN => ((rename News _ _ _ _ => N7); exact N7)); (case zhm => (repeat (first | assumption | exact List.mem_cons_self .. | exact List.mem_append_left _ (by assumption) | exact List.mem_append_right _ (by assumption) | refine List.mem_cons_of_mem _ ?_))); (case zhi => assumption); (case zhl => omega)))))
  trivial
theorem flat_odd : ∀ (ps : List (Int × Int)) (i : Nat), (ps.flatMap fun p => [p.1, p.2])[2 * i + 1]? = (ps[i]?).map (·.2)
  | [], _ => rfl
  | p :: r, 0 => rfl
  | p :: r, i + 1 => by
    have h := flat_odd r i
    rw [List.flatMap_cons]
    show (p.1 :: p.2 :: (r.flatMap fun p => [p.1, p.2]))[2 * i + 1 + 1 + 1]? = _
    rw [List.getElem?_cons_succ, List.getElem?_cons_succ, h]; rfl
theorem flat_even : ∀ (ps : List (Int × Int)) (i : Nat), (ps.flatMap fun p => [p.1, p.2])[2 * i]? = (ps[i]?).map (·.1)
  | [], _ => rfl
  | p :: r, 0 => rfl
  | p :: r, i + 1 => by
    have h := flat_even r i
    rw [List.flatMap_cons]
    show (p.1 :: p.2 :: (r.flatMap fun p => [p.1, p.2]))[2 * i + 1 + 1]? = _
    rw [List.getElem?_cons_succ, List.getElem?_cons_succ, h]; rfl
theorem odd_range : ∀ n : Fin 9, sliceRange (sliceBounds (some 1) none (some 2) (2 * n.val)).1 (sliceBounds (some 1) none (some 2) (2 * n.val)).2.1 (sliceBounds (some 1) none (some 2) (2 * n.val)).2.2 = (List.range n.val).map fun i => 2 * i + 1 := by decide +kernel
theorem flat2_len (ps : List (Int × Int)) : (ps.flatMap fun p => [p.1, p.2]).length = 2 * ps.length := by
  induction ps with
  | nil => rfl
  | cons p r ih => rw [List.flatMap_cons, List.length_append, ih]; simp; omega
theorem range_pick : ∀ (ps : List (Int × Int)), (List.range ps.length).filterMap (fun i => (ps[i]?).map (·.2)) = ps.map (·.2)
  | [] => rfl
  | p :: r => by
    have h := range_pick r
    rw [List.length_cons, List.range_succ_eq_map, List.filterMap_cons, List.filterMap_map]
    simp only [List.getElem?_cons_zero, Option.map_some, List.map_cons]
    congr 1
theorem pick_odd (ps : List (Int × Int)) (h : ps.length ≤ 8) : pickNums (ps.flatMap fun p => [p.1, p.2]) (some 1) none (some 2) = ps.map (·.2) := by
  unfold pickNums
  rw [flat2_len, odd_range ⟨ps.length, by omega⟩, List.filterMap_map]
  rw [← range_pick ps]
  refine congrArg (fun f => List.filterMap f _) (funext fun i => ?_)
  exact flat_odd ps i
theorem pairs_get (ents : List (Int × Dt)) : ∀ (n i : Nat), i < n → (pairsAt ents n)[i]? = some ((ents.map (·.1)).getD i 0, (offAt (octsOf ents) i : Int))
  | n + 1, i, h => by
    by_cases hi : i < n
    · rw [pairsAt, List.getElem?_append_left (by rw [pairsAt_len]; exact hi)]
      exact pairs_get ents n i hi
    · have e : i = n := by omega
      subst e
      rw [pairsAt, List.getElem?_append_right (by rw [pairsAt_len]; exact Nat.le_refl _), pairsAt_len, Nat.sub_self]
      rfl
theorem offs_at (ents : List (Int × Dt)) (i : Nat) (hi : i ≤ ents.length) : ((pairsAt ents ents.length).map (·.2) ++ [(offAt (octsOf ents) ents.length : Int)])[i]? = some (offAt (octsOf ents) i : Int) := by
  by_cases h : i < ents.length
  · rw [List.getElem?_append_left (by rw [List.length_map, pairsAt_len]; exact h), List.getElem?_map, pairs_get ents _ i h]
    rfl
  · have e : i = ents.length := by omega
    subst e
    rw [List.getElem?_append_right (by rw [List.length_map, pairsAt_len]; exact Nat.le_refl _), List.length_map, pairsAt_len, Nat.sub_self]
    rfl
theorem add_il {prog : Program} {w : World} {A : Around} {E : Value → Shared → Prop} {s : Shared} {h₀ : Heap} {L l b : Addr} {m : Str → Option Value} {news : Led} {a c : Array Value} {n1 n2 : Nat} {ns ms : List Int} {Q : Value → Shared → Prop} (F : Fr h₀ L s.heap m) (N : News h₀ L s.heap news) (m1 : (l, W.listOf a n1) ∈ news) (m2 : (b, W.listOf c n2) ∈ news) (hi : PyProof.Rows.IntsAre a.toList ns) (hj : PyProof.Rows.IntsAre c.toList ms) (hz : ns.length + ms.length ≤ 100000)
    (h : ∀ D vs h', Fr h₀ L h' m → News h₀ L h' ((D, W.listOf (vs : List Value).toArray 0) :: news) → (∀ p ∈ news, p.1 < D) → PyProof.Rows.IntsAre vs (ns ++ ms) → Q (.ref D) { s with heap := h' }) : wpAny (model prog w) A (binaryOp .Add (.ref l) (.ref b)) Q E s :=
  add_lists_ints F N (vs := a.toList) (ws := c.toList) ⟨_, (N _ m1).1, rfl, _, by rw [Array.toArray_toList]⟩ ⟨_, (N _ m2).1, rfl, _, by rw [Array.toArray_toList]⟩ hi hj (fun h' F' N' hI => h _ _ h' F' N' (fun p hp => Heap.lt_size (N p hp).1) hI) (by rw [sizeLine_eq]; omega)
theorem item_at {prog : Program} {w : World} {A : Around} {E : Value → Shared → Prop} {s : Shared} {h₀ : Heap} {L c : Addr} {news : Led} {vs : List Value} {ns : List Int} {n : Nat} {k v : Int} {u : Tok} {value slice : PySem.Expr} {Q : Value → Shared → Prop} (N : News h₀ L s.heap news) (hm : (c, W.listOf vs.toArray n) ∈ news) (hi : PyProof.Rows.IntsAre vs ns) (hx : ns[k.toNat]? = some v) (h0 : 0 ≤ k) (h1 : k ≤ 100000)
    (h : ∀ t, Q (.int v t) s)
    (hs : subscripted slice false (.ref c) (.int k u) = operate [.ref c, .int k u] (getItem (.ref c) (.int k u)) := by with_unfolding_all rfl) : wpAny (model prog w) A (subscriptTail value slice (.ref c) (.int k u)) Q E s := by
  obtain ⟨t, ht⟩ := hi.get k.toNat v hx
  have hL : s.heap.IsList c vs.toArray := ⟨_, N.get hm, rfl, n, rfl⟩
  exact PyProof.Rows.tail_any hL.typeIs slot_list_getitem.lookup (wpAny_getItem_list hL h0 (by omega) (by simpa using ht) (h t)) hs
theorem ln_EO_5 : True := by
  (k_with "subscriptTail Name Constant ref int" => (k_here; k_dflt (refine' item_at ?zN ?zm ?zhi ?zhx ?zh0 ?zh1 ?_; (case zN => ((rename News _ _ _ _ => N7); exact N7)); (case zm => (repeat (first | assumption | exact List.mem_cons_self .. | exact List.mem_append_left _ (by assumption) | exact List.mem_append_right _ (by assumption) | refine List.mem_cons_of_mem _ ?_))); (case zhi => assumption); (case zhx => assumption); (case zh0 => omega); (case zh1 => omega); intro t9)))
  trivial
theorem ln_EO_6 : True := by
  (k_with "subscriptTail Name BinOp ref int" => (k_here; k_dflt (refine' item_at ?zN ?zm ?zhi ?zhx ?zh0 ?zh1 ?_; (case zN => ((rename News _ _ _ _ => N7); exact N7)); (case zm => (repeat (first | assumption | exact List.mem_cons_self .. | exact List.mem_append_left _ (by assumption) | exact List.mem_append_right _ (by assumption) | refine List.mem_cons_of_mem _ ?_))); (case zhi => assumption); (case zhx => assumption); (case zh0 => omega); (case zh1 => omega); intro t9)))
  trivial
theorem ln_EO_7 : True := by
  (k_with "subscriptTail Name Name ref int" => (k_here; k_dflt (first | (refine' item_at ?zN ?zm ?zhi ?zhx ?zh0 ?zh1 ?_; (case zN => ((rename News _ _ _ _ => N7); exact N7)); (case zm => (repeat (first | assumption | exact List.mem_cons_self .. | exact List.mem_append_left _ (by assumption) | exact List.mem_append_right _ (by assumption) | refine List.mem_cons_of_mem _ ?_))); (case zhi => assumption); (case zhx => assumption); (case zh0 => omega); (case zh1 => omega); intro t9) | (refine' kda_item (knd := intKind prg _) ?zcN ?zhm ?zhd ?zhk ?zhl ?_; (case zcN => ((rename News _ _ _ _ => N7); exact N7)); (case zhl => assumption); (case zhd => assumption); (case zhm => (repeat (first | assumption | exact List.mem_cons_self .. | exact List.mem_append_left _ (by assumption) | exact List.mem_append_right _ (by assumption) | refine List.mem_cons_of_mem _ ?_))); (case zhk => exact is_int)))))
  trivial
noncomputable def GroupEnd (g : Heap) (L : Addr) (s : Shared) (rest : Led) (Dg Fd : Addr) (ob om p1 p2 p3 p4 : Option Value) (un : Nat) (fns : List Int) (f : Flow) (s' : Shared) : Prop :=
  f = .next ∧ ∃ h tk us' uk' o1 o2 o3 o4 o5 o6 o7 o8, s' = { s with heap := h, toks := tk } ∧ Fr g L h (lkm (lrows L (some (.ref Dg)) o1 o2 o3 o4 o5 o6 o7 o8 (some (.ref Fd)) ob om p1 p2 p3 p4)) ∧ News g L h ((Fd, W.listOf us' uk') :: rest) ∧ PyProof.Rows.IntsAre us'.toList fns ∧ us'.size ≤ un + 8
theorem news_ce {g h : Heap} {L : Addr} {a b c d e f : Addr × Obj} {r : Led} (N : News g L h (a :: b :: c :: d :: e :: f :: r)) : News g L h (a :: d :: f :: r) := (nC (nH N) (nC (nH (nT (nT (nT N)))) (nC (nH (nT (nT (nT (nT (nT N)))))) (nT (nT (nT (nT (nT (nT N)))))))))
theorem mem_n4' {g h : Heap} {L : Addr} {o r : Led} {a b c p : Addr × Obj} (_ : News g L h (a :: b :: c :: (r ++ o))) (h : p ∈ r) : p ∈ a :: b :: c :: (r ++ o) := .tail _ (.tail _ (.tail _ (List.mem_append.mpr (.inl h))))
theorem offAt_mono (parts : List (List Int)) {i j : Nat} (h : i ≤ j) : offAt parts i ≤ offAt parts j := by
  unfold offAt
  obtain ⟨k, rfl⟩ := Nat.exists_eq_add_of_le h
  rw [List.take_add, List.flatMap_append, List.length_append]
  omega
theorem ne_same {prog : Program} {w : World} {A : Around} {E : Value → Shared → Prop} {s : Shared} {a b : List Int} {t u : Tok} {Q : Value → Shared → Prop} (e : a = b) (h : Q (.bool false) s) : wpAny (model prog w) A (compareOp .NotEq (.bytes (byteArr a) t) (.bytes (byteArr b) u)) Q E s := by
  subst e
  refine ne_bytes ?_
  simpa using h
theorem ln_EO_8 : True := by
  (k_with "call ref" => (k_here; k_dflt ((first | refine' Does.use0E (write_object_m ?zp0 ?zp1 ?zp2) ?zcB ?zcF ?zcX ?zcN ?zcT ?zchd ?zchu ?_ | refine' Does.use0V (write_object_m ?zp0 ?zp1 ?zp2) ?zcB ?zcF ?zcX ?zcN ?zcT ?zchd ?zchu ?_ | refine' Does.use0 (write_object_m ?zp0 ?zp1 ?zp2) ?zcB ?zcF ?zcX ?zcN ?zcT ?zchd ?zchu ?_); (case zcB => assumption); (case zcF => k_asm); (case zcX => assumption); (case zcN => k_asm); (case zcT => assumption); (case zchd => k_extra "x room"); (case zchu => k_extra "x unit"); (case zp0 => first | assumption | (intro q7 hq7; simp only [List.mem_cons, List.mem_append, hq7, true_or, or_true])); (case zp1 => first | assumption | (intro q7 hq7; simp only [List.mem_cons, List.mem_append, hq7, true_or, or_true])); (case zp2 => first | assumption | (intro q7 hq7; simp only [List.mem_cons, List.mem_append, hq7, true_or, or_true])); (k_extra "x got"))))
  trivial
theorem ln_EO_9 : True := by
  (k_with "compareOp NotEq bytes bytes" => (k_here; k_dflt (refine' ne_same ?ze ?_; (case ze => assumption))))
  trivial
theorem ln_EO_10 : True := by
  (k_with "subscriptTail Subscript" => (k_here; k_dflt (refine' item_tupleT ?zt ?za ?zb ?zc ?zd ?_; (case zt => (refine' News.isTup ?ztn ?ztm; (case ztn => ((rename News _ _ _ _ => N7); exact N7)); (case ztm => (repeat (first | assumption | exact List.mem_cons_self .. | exact List.mem_append_left _ (by assumption) | exact List.mem_append_right _ (by assumption) | refine List.mem_cons_of_mem _ ?_))))); (case za => decide); (case zb => decide); (case zc => rfl); (case zd => rfl))))
  trivial
theorem ln_EO_11 : True := by
  (k_with "subscriptTail Name Subscript ref int" => (k_here; k_dflt (refine' kda_item (knd := intKind prg _) ?zcN ?zhm ?zhd ?zhk ?zhl ?_; (case zcN => ((rename News _ _ _ _ => N7); exact N7)); (case zhl => assumption); (case zhd => assumption); (case zhm => (repeat (first | assumption | exact List.mem_cons_self .. | exact List.mem_append_left _ (by assumption) | exact List.mem_append_right _ (by assumption) | refine List.mem_cons_of_mem _ ?_))); (case zhk => exact is_int))))
  trivial
theorem law_c2 {w : World} : BodyOf w 577 fun qual body scope cdv =>
    ∀ (fa : Addr) (cv : Value) (mean : ExcName → Option Value) (mg mb : Str → Option Value) (dp un : Nat) (outer : List Env) (base g : Heap) (L : Addr) (s : Shared) (E : Value → Shared → Prop) (rest : Led) (oc : Obj) (x dx D1 D2 : Addr) (od1 od2 : Obj) (k1 k2 : Int) (t1 t2 : Tok) (n : Nat) (kvs : List (Int × Value)) (ents gents : List (Int × Dt)) (Dg Fd : Addr) (gvs : List Value) (gn : Nat) (us : Array Value) (uk : Nat) (fns : List Int) (o1 o2 o5 o6 o7 o8 ob om p1 p2 p3 p4 : Option Value) (to tf : Tok),
      Fr g L s.heap (lkm (lrows L (some (.ref Dg)) o1 o2 (some (.bytes (byteArr (dataOf gents)) to)) (some (.int (leadOf gents).length tf)) o5 o6 o7 o8 (some (.ref Fd)) ob om p1 p2 p3 p4)) →
      News g L s.heap ((Fd, W.listOf us uk) :: rest) → (∀ p ∈ rest, p.1 ≠ Fd) → (L + 1, oc) ∈ rest → oc.data = .cell (some (.ref x)) → ShelfIn w rest x ents dx D1 D2 od1 od2 k1 k2 t1 t2 n kvs → EntsOk ents → EntsOk gents → 0 < gents.length → (∀ e ∈ gents, e ∈ ents) →
      (Dg, W.listOf gvs.toArray gn) ∈ rest → PyProof.Rows.IntsAre gvs (gents.map (·.1)) → PyProof.Rows.IntsAre us.toList fns → us.size ≤ 100 →
      Below (mkA dp un outer) base outer g → (Kf w.params).In g → Top vw loo mean mg mb g → dp + 600 < recursionLimit → un + 8000 < cLine → PassesOwn (model prg w) (mkA (dp + 1) (un + 3) (envOfC qual scope L fa cv :: outer)) (envOfC qual scope L fa cv) E →
      wpAny (model prg w) (mkA (dp + 1) (un + 3) (envOfC qual scope L fa cv :: outer)) (execs (after5 (loopBody body)) (envOfC qual scope L fa cv))
        (GroupEnd g L s rest Dg Fd ob om p1 p2 p3 p4 us.size (fns ++ gents.map (·.1))) E s := by
  refine' BodyOf.of ?k6 ?kb ?ks ?_
  (case k6 => k_dflt k_is); (case kb => conv => lhs; whnf); (case ks => conv => lhs; whnf)
  intro fa cv mean mg mb dp un outer base g L s E rest oc x dx D1 D2 od1 od2 k1 k2 t1 t2 n kvs ents gents Dg Fd gvs gn us uk fns o1 o2 o5 o6 o7 o8 ob om p1 p2 p3 p4 to tf F N hFd mC dC S hok hgok h0 hsub mG hG hF husz B X T hdp hun hE
  dsimp only [after5, loopBody]
  have hdlen : (dataOf gents).length = (leadOf gents).length + (bodyOf (octsOf gents)).length := by rw [dataOf, List.length_append]
  have hgoks : ∀ e ∈ gents, e.2.ok := fun e he => (hgok.2.2 e he).2.2
  have hg8 := hgok.1
  have hoff := offAt_le hgoks gents.length (Nat.le_refl _)
  have hbl := body_len (parts := octsOf gents) (fun e => by have := congrArg List.length e; rw [octsOf, List.length_map, List.length_nil] at this; omega)
  rw [show (octsOf gents).length = gents.length by rw [octsOf, List.length_map]] at hbl
  have hll := lead_len hgok h0
  refine seqK ?_
  refine LCg.Assign_ListComp_U (cl := []) F rfl rfl rfl (by decide) rfl (by decide) rfl rfl rfl ?_
  (repeat' ((fail_if_success (with_reducible refine mark_cs ?_)); k_extra "x one"))
  have hcut : (dataOf gents).take ((leadOf gents).length : Int).toNat = sepd (numsAt gents gents.length) := by rw [Int.toNat_natCast, dataOf, List.take_left]; rfl
  rw [hcut]
  refine bytes_method_split ?_
  (repeat' ((fail_if_success (with_reducible refine mark_cs ?_)); k_extra "x one"))
  ((rename Fr g L _ _ => F8); (rename News g L _ _ => N8))
  obtain ⟨hnl, hnd0, hndg⟩ := nums_ok hgok
  refine split_lead (ns := numsAt gents gents.length) ?_ (by omega) hndg F8 N8 fun D vs h9 tk9 F9 N9 l9 hvs => ?_
  · intro e; rw [e] at hnl; simp at hnl; omega
  clear F8 N8
  have hvl := hvs.length
  refine LCg.CompSrc.ledger (its := vs.toArray) (k := 0) rfl F9 N9 (.head _) (by rw [sizeLine_eq, List.size_toArray]; omega) fun g9 => ?_
  refine comp_rule (fun i ys nw => nw = (D, W.listOf vs.toArray 0) :: (Fd, W.listOf us uk) :: rest ∧ PyProof.Rows.IntsAre ys ((numsAt gents gents.length).take i)) ⟨rfl, .nil⟩ (fun ys nw hj => ?_) (fun i v I oI C oC D' m₂ h tk E' ys nw hi9 hP hj hC9 hv F1 N1 off ne => ?_)
  rotate_left
  · obtain ⟨rfl, hys⟩ := hj
    have hP' : vs[i]? = some v := by simpa using hP
    obtain ⟨nn, hnn, tv, rfl⟩ := hvs.get hP'
    obtain ⟨hn0, hn1⟩ := hnd0 nn (List.mem_of_getElem? hnn)
    k_extra "x steps"
    refine ⟨_, _, (D, W.listOf vs.toArray 0) :: (Fd, W.listOf us uk) :: rest, rfl, F1, N1, off, .inr ⟨W.listOf vs.toArray 0, .head _, rfl, _, rfl⟩, rfl, ?_⟩
    rw [take_snoc hnn]; exact IA_snoc hys
  obtain ⟨rfl, hys⟩ := hj
  rw [List.size_toArray, hvl, List.take_length] at hys
  intro D2 h3 tk F3 N3 o3
  k_extra "x steps"
  ((rename Fr g L _ _ => F8); (rename News g L _ _ => N8))
  have hpk := hys.pick (some 1) none (some 2)
  rw [show pickNums (numsAt gents gents.length) (some 1) none (some 2) = (pairsAt gents gents.length).map (·.2) from pick_odd _ (by rw [pairsAt_len]; exact hg8)] at hpk
  have hpl := pairsAt_len gents gents.length
  refine add_il F8 N8 (.tail _ (.head _)) (.head _) hpk (.cons _ _ .nil) (by rw [List.length_map, hpl]; simp; omega) fun D3 os h4 F4 N4 l4 hos => ?_
  clear F8 N8
  have hofe : ((dataOf gents).length : Int) - ((leadOf gents).length : Int) + 1 = (offAt (octsOf gents) gents.length : Int) := by omega
  rw [hofe] at hos
  generalize hofl : (pairsAt gents gents.length).map (·.2) ++ [(offAt (octsOf gents) gents.length : Int)] = offs at hos
  have hol : offs.length = gents.length + 1 := by rw [← hofl, List.length_append, List.length_map, hpl]; rfl
  have hof : ∀ i : Nat, i ≤ gents.length → offs[i]? = some (offAt (octsOf gents) i : Int) := fun i hi => by rw [← hofl]; exact offs_at gents i hi
  have h00 : offs[(0 : Int).toNat]? = some 0 := hof 0 (by omega)
  have hGl : (gents.map (·.1)).length = gents.length := List.length_map ..
  have hnlr : (numsAt gents gents.length).length = 2 * gents.length := hnl
  (repeat' ((fail_if_success (with_reducible refine mark_execs ?_)); k_extra "x one"))
  k_extra "x stmt"
  all_goals first | (exfalso; omega) | skip
  ((rename Fr g L _ _ => F7); (rename News g L _ _ => N8); (have F8 := Fr_sel [Str.ofString "group", Str.ofString "pairs", Str.ofString "stream", Str.ofString "octets", Str.ofString "first", Str.ofString "row", Str.ofString "offsets", Str.ofString "spot", Str.ofString "part", Str.ofString "found", Str.ofString "before", Str.ofString "most", Str.ofString "script", Str.ofString "pen", Str.ofString "number", Str.ofString "turn"] (al := [(_, _), (_, _), (_, _), (_, _), (_, _), (_, _), (_, _), (_, _), (_, _), (_, _), (_, _), (_, _), (_, _), (_, _), (_, _), (_, _), (_, _), (_, _)]) F7 (by rfl)); clear F7)
  have hFD3 : @Ne Nat D3 Fd := Nat.ne_of_gt (l4 (Fd, W.listOf us uk) (.tail _ (.tail _ (.tail _ (.tail _ (.head _))))))
  have hFD2 : @Ne Nat D2 Fd := fun e => off1_mem o3 (Fd, W.listOf us uk) (.tail _ (.head _)) e.symm
  have N9 : News g L _ ((D3, W.listOf os.toArray 0) :: (D2, W.listOf ys.toArray ys.length) :: (Fd, W.listOf us uk) :: rest) := news_ce N8
  clear N8 l4
  have hdl5 : (dataOf gents).length ≤ 10000 := by omega
  have hg9 : gents.length ≤ 5000 := by omega
  clear hg8
  refine seqK ?_
  refine For_invVF F8 (by rfl) (by rfl) ?_ (hE := hE)
  (repeat' ((fail_if_success (with_reducible refine mark_pi ?_)); k_extra "x one"))
  rename IsRange _ _ _ _ _ _ _ _ => hR
  rename_i FR NR hkeep
  refine range_loop (n := gents.length) (fun i al nx => Ex4 fun us' uk' o7 o8 => An4 (nx = (D3, W.listOf os.toArray 0) :: (D2, W.listOf ys.toArray ys.length) :: (Fd, W.listOf us' uk') :: rest) (PyProof.Rows.IntsAre us'.toList (fns ++ (gents.map (·.1)).take i)) (us'.size ≤ us.size + i) (al = lrows L (some (.ref Dg)) o1 o2 (some (.bytes (byteArr (dataOf gents)) to)) (some (.int (leadOf gents).length tf)) (some (.ref D2)) (some (.ref D3)) o7 o8 (some (.ref Fd)) ob om p1 p2 p3 p4)) hR (small_one (by decide) (by decide) (by have := hgok.1; omega) (by have := hgok.1; omega)) (by rw [rangeSize_nat]; congr 1) FR NR ⟨_, _, _, _, rfl, by rw [List.take_zero, List.append_nil]; exact hF, Nat.le_refl _, rfl⟩ ?_ ?_
  · rintro i v al₁ news₁ h tk own hi9 hP ho ⟨us', uk', o7, o8, rfl, hU, hus', rfl⟩ F1 N1
    obtain ⟨u, rfl⟩ := hP
    rw [Int.zero_add] at F1
    replace N1 : News g L h ((D3, W.listOf os.toArray 0) :: (D2, W.listOf ys.toArray ys.length) :: (Fd, W.listOf us' uk') :: (rest ++ own)) := N1
    have hgi : gents[i]? = some gents[i] := List.getElem?_eq_getElem hi9
    obtain ⟨⟨k, d⟩, hgk⟩ : ∃ e, gents[i]? = some e := ⟨_, hgi⟩
    have hki : (gents.map (·.1))[i]? = some k := by rw [List.getElem?_map, hgk]; rfl
    have hmem := List.mem_of_getElem? hgk
    have hdok : d.ok := (hgok.2.2 _ hmem).2.2
    have hent := hsub _ hmem
    obtain ⟨m1, m2, m3, m4, lo1, lo2, hd1, hd2, rows⟩ := id S
    have hnd := keys_nodup hok
    rw [← rows_keys rows] at hnd
    obtain ⟨T, a, t, hva, hT, hD⟩ := shelf_at rows hnd hent
    have hoc : (octsOf gents)[i]? = some (octOf d) := by rw [octsOf, List.getElem?_map, hgk]; rfl
    have hoe := offAt_succ hoc
    have hmono := offAt_mono (octsOf gents) (i := i + 1) (j := gents.length) (by omega)
    have hs1 : offs[(i : Int).toNat]? = some (offAt (octsOf gents) i : Int) := hof i (by omega)
    have hs2 : offs[((i : Int) + 1).toNat]? = some (offAt (octsOf gents) (i + 1) : Int) := hof (i + 1) (by omega)
    have hs3 : (numsAt gents gents.length)[(2 * (i : Int)).toNat]? = some k := by
      rw [show (2 * (i : Int)).toNat = 2 * i by omega, numsAt, flat_even, pairs_get gents _ i hi9]
      show some ((gents.map (·.1)).getD i 0) = some k
      rw [List.getD_eq_getElem?_getD, hki]; rfl
    have hcut2 : ((dataOf gents).drop (((leadOf gents).length : Int) + (offAt (octsOf gents) i : Int)).toNat).take ((((leadOf gents).length : Int) + (offAt (octsOf gents) (i + 1) : Int) - 1).toNat - (((leadOf gents).length : Int) + (offAt (octsOf gents) i : Int)).toNat) = octOf d := by
      rw [show (((leadOf gents).length : Int) + (offAt (octsOf gents) i : Int)).toNat = (leadOf gents).length + offAt (octsOf gents) i by omega, show (((leadOf gents).length : Int) + (offAt (octsOf gents) (i + 1) : Int) - 1).toNat - ((leadOf gents).length + offAt (octsOf gents) i) = (octOf d).length by omega]
      exact body_cut hoc
    have m1' := mem_n4' N1 m1
    have m2' := mem_n4' N1 m2
    have mC' := mem_n4' N1 mC
    have ho1 : ∀ p ∈ own, p.1 ≠ Fd := fun p hp => ho p hp _ (.tail _ (.tail _ (.head _)))
    k_extra "x steps"
    ((rename Fr g L _ _ => F7); (rename News g L _ _ => N8); (have F8 := Fr_sel [Str.ofString "group", Str.ofString "pairs", Str.ofString "stream", Str.ofString "octets", Str.ofString "first", Str.ofString "row", Str.ofString "offsets", Str.ofString "spot", Str.ofString "part", Str.ofString "found", Str.ofString "before", Str.ofString "most", Str.ofString "script", Str.ofString "pen", Str.ofString "number", Str.ofString "turn"] (al := [(_, _), (_, _), (_, _), (_, _), (_, _), (_, _), (_, _), (_, _), (_, _), (_, _), (_, _), (_, _), (_, _), (_, _), (_, _), (_, _), (_, _), (_, _)]) F7 (by rfl)); clear F7)
    refine ⟨_, _, _, (D3, _) :: (D2, _) :: (Fd, _) :: rest, rfl, F8, N8, ho, _, _, _, _, rfl, ?_, by simp; omega, rfl⟩
    rw [take_snoc hki, ← List.append_assoc]
    exact IA_push hU
  · rintro al₁ news₁ h tk ⟨us', uk', o7, o8, rfl, hU, hus', rfl⟩ F1 N1
    try dsimp only
    k_extra "x steps"
    rw [← hGl, List.take_length] at hU
    exact ⟨rfl, _, _, us', uk', _, _, _, _, _, _, _, _, rfl, F1, fun p hp => N1 p (.tail _ (.tail _ hp)), hU, by have := hgok.1; omega⟩

theorem ln_EP : True := by
  k_with_none
  (k_with "ite" => first | with_reducible refine ite_tt ?_ | with_reducible refine ite_ff ?_)
  (k_with "execs nil" => (with_reducible refine wpAny_execs_nil ?_; (try dsimp only)))
  (k_with "execs cons" => (k_here; k_dflt (refine seqK ?_; (try dsimp only))))
  (k_with "x lia" => ((try clear cc); (try clear c2); (try clear lf); lia))
  (k_with "x n7" => ((rename News _ _ _ _ => N7); exact N7))
  (k_with "x room" => (first | exact room1 (by assumption) (by rfl) | exact room2 (by assumption) (by rfl) | omega))
  (k_with "x unit" => (first | exact unit1 (by assumption) (by rfl) | exact unit2 (by assumption) (by rfl) | omega))
  (k_with "x got" => ((first | ((with_reducible intro r9 h9 tk9 F9 N9 P9); (first | (obtain ⟨t9, e9⟩ := P9; subst e9) | (subst P9) | skip)) | (with_reducible intro t9 h9 tk9 F9 N9) | (with_reducible intro h9 tk9 F9 N9)); (try k_sweep)))
  (k_with "x one" => (first | (k_unfold; (try dsimp only)) | walk1 | (dsimp only; walk1)))
  (k_with "x g" => ((fail_if_success plain_pass); k_here))
  (k_with "x k" => (k_asm; k_extra "x n7"; k_extra "x ix"))
  (k_with "x c" => (k_extra "x k"; k_extra "x ev"; k_extra "x ev"))
  (k_with "x if" => (k_dflt (k_here; (with_reducible show wpAny _ _ (execs (Stmt.If (PySem.Expr.Compare (PySem.Expr.Name _ _) [CmpOp.Eq] [PySem.Expr.Constant (Const.str _) _ _] _) _ _ _ :: _) _) _ _ _); first | (apply xif_f; k_extra "x c"; exact rfl) | (apply xif_t; k_extra "x c"; exact rfl))))
  (k_with "x stmt" => ((first | k_extra "x if" | refine seqK ?_ | refine wpAny_execs_cons ?_); (repeat' ((fail_if_success (with_reducible refine mark_execs ?_)); k_extra "x one"))))
  (k_with "x steps" => (repeat' k_extra "x one"))
  (k_with "x ix" => (first | exact isX1 rfl | exact isX2 rfl | exact isX3 rfl))
  (k_with "x ev" => (first | exact Ev.str | exact Ev.int | exact Ev.none | exact Ev.bool | (apply Ev.name; exact rfl; exact rfl; exact rfl) | (apply Ev.cell; exact rfl; exact rfl; exact rfl; (first | k_mem | (repeat (first | exact List.mem_cons_self .. | refine List.mem_cons_of_mem _ ?_))); k_asm)))
  (k_with "x evs" => (focus ((repeat' (first | exact Evs.nil | apply Evs.int | (apply Evs.name; exact rfl; exact rfl; exact rfl) | (apply Evs.cell; exact rfl; exact rfl; exact rfl; (first | k_mem | (repeat (first | exact List.mem_cons_self .. | refine List.mem_cons_of_mem _ ?_))); k_asm) | exact Ev.str | exact Ev.none | exact Ev.bool | apply Evs.cons)); done)))
  (k_with "execs cons If" => ((fail_if_success plain_pass); k_extra "x if"))
  (k_with "isTrue Compare" => (k_extra "x g"; (with_reducible show wpAny _ _ (PySem.isTrue (PySem.Expr.Compare _ [_] [_] _) _ _) _ _ _); k_dflt (first | ((with_reducible show wpAny _ _ (PySem.isTrue (PySem.Expr.Compare _ [CmpOp.Eq] [_] _) _ _) _ _ _); apply ist_strL; k_extra "x c") | (apply ist_int; k_extra "x c"; exact rfl))))
  (k_with "eval Attribute Name" => (k_extra "x g"; k_dflt (apply attr_ev; k_extra "x k"; k_extra "x ev")))
  (k_with "x ho" => ((try simp only [List.nil_append, List.cons_append]); (repeat' (first | (refine off1_of ?_; assumption) | (refine off1_lt ?_; assumption) | (refine off1_all ?_; assumption) | refine And.intro ?_ ?_ | exact trivial | ((show @Ne Nat _ _); omega) | refine off1_app ?_ ?_))))
  (k_with "x hz" => ((try simp only [Array.size_push, List.size_toArray, List.length_cons, List.length_nil, List.length_append]); omega))
  (k_with "x hm" => (repeat (first | exact List.mem_cons_self .. | exact List.mem_append_left _ (by assumption) | refine List.mem_cons_of_mem _ ?_)))
  (k_with "call builtin:list.append" => (k_here; k_dflt ((rename News _ _ _ _ => N7); (first | (refine' append_at [] _ ?zcF N7 ?zho ?zhz ?_) | (refine' append_at [_] _ ?zcF N7 ?zho ?zhz ?_) | (refine' append_at [_, _] _ ?zcF N7 ?zho ?zhz ?_) | (refine' append_at [_, _, _] _ ?zcF N7 ?zho ?zhz ?_)); (case zcF => k_asm); (case zho => k_extra "x ho"); (case zhz => k_extra "x hz"); ((intro h9 F9 N9); (try simp only [List.nil_append, List.cons_append] at N9); (try k_sweep)))))
  (k_with "call builtin:list.extend" => (k_here; k_dflt ((rename News _ _ _ _ => N7); (first | (refine' extend_at [] _ ?zcF N7 ?zhb ?zho ?zhne ?zhz ?_) | (refine' extend_at [_] _ ?zcF N7 ?zhb ?zho ?zhne ?zhz ?_) | (refine' extend_at [_, _] _ ?zcF N7 ?zhb ?zho ?zhne ?zhz ?_) | (refine' extend_at [_, _, _] _ ?zcF N7 ?zhb ?zho ?zhne ?zhz ?_)); (case zcF => k_asm); (case zhb => k_extra "x hm"); (case zho => k_extra "x ho"); (case zhne => k_extra "x hz"); (case zhz => k_extra "x hz"); ((intro h9 F9 N9); (try simp only [List.nil_append, List.cons_append] at N9); (try k_sweep)))))
  (k_with "assign Tuple" => (k_here; k_dflt (refine' unpackN_ ?zF ?zN ?zT ?zk1 ?zk2 ?zk3 ?_; (case zF => k_asm); (case zN => k_extra "x n7"); (case zT => (refine' News.isTup ?ztn ?ztm; (case ztn => k_extra "x n7"); (case ztm => (repeat (first | assumption | exact List.mem_cons_self .. | exact List.mem_append_left _ (by assumption) | refine List.mem_cons_of_mem _ ?_))))); (case zk1 => exact rfl); (case zk2 => with_unfolding_all exact rfl); (case zk3 => with_unfolding_all exact rfl)); intro h' F' N'; (try k_sweep)))
  (k_with "setItem ref int" => (k_here; k_dflt ((rename News _ _ _ _ => N7); (first | (refine' dset_at (K := Int) (knd := intKind prg _) [] _ ?zcF N7 ?zhd ?zhk ?zho ?zhz ?_; (case zhd => assumption)) | (refine' dset_at (K := Int) (knd := intKind prg _) [_] _ ?zcF N7 ?zhd ?zhk ?zho ?zhz ?_; (case zhd => assumption)) | (refine' dset_at (K := Int) (knd := intKind prg _) [_, _] _ ?zcF N7 ?zhd ?zhk ?zho ?zhz ?_; (case zhd => assumption))); (case zcF => k_asm); (case zhk => exact is_int); (case zho => k_extra "x ho"); (case zhz => omega); ((intro h9 o9 F9 N9 hd9); (try simp only [List.nil_append, List.cons_append] at N9); (try k_sweep)))))
  (k_with "call builtin:list.pop" => (k_here; k_dflt ((rename News _ _ _ _ => N7); (first | (refine' pop_at [] _ ?zcF N7 ?zhi ?zho ?zhne ?zhz ?_; (case zhi => assumption)) | (refine' pop_at [_] _ ?zcF N7 ?zhi ?zho ?zhne ?zhz ?_; (case zhi => assumption))); (case zcF => k_asm); (case zho => k_extra "x ho"); (case zhne => omega); (case zhz => omega); ((intro h9 t9 us9 n9 F9 N9 hI9 hs9); (try simp only [List.nil_append, List.cons_append] at N9); (try k_sweep)))))
  (k_with "truthy ref" => (k_here; k_dflt ((rename News _ _ _ _ => N7); refine' truthy_at N7 ?zhm ?zhz ?_ ?_; (case zhm => k_extra "x hm"); (case zhz => omega)); intro htr))
  trivial
noncomputable def upto5 : List Stmt → List Stmt
  | a :: b :: c :: d :: e :: _ => [a, b, c, d, e]
  | _ => []
theorem ln_EP_1 : True := by
  (k_with "subscriptTail Name Name ref int" => (k_here; k_dflt (refine' kda_item (knd := intKind prg _) ?zcN ?zhm ?zhd ?zhk ?zhl ?_; (case zcN => ((rename News _ _ _ _ => N7); exact N7)); (case zhl => assumption); (case zhd => assumption); (case zhm => (repeat (first | assumption | exact List.mem_cons_self .. | exact List.mem_append_left _ (by assumption) | exact List.mem_append_right _ (by assumption) | refine List.mem_cons_of_mem _ ?_))); (case zhk => exact is_int))))
  trivial
theorem ln_EP_2 : True := by
  (k_with "subscriptTail Subscript" => (k_here; k_dflt (refine' item_tupleT ?zt ?za ?zb ?zc ?zd ?_; (case zt => (refine' News.isTup ?ztn ?ztm; (case ztn => ((rename News _ _ _ _ => N7); exact N7)); (case ztm => (repeat (first | assumption | exact List.mem_cons_self .. | exact List.mem_append_left _ (by assumption) | exact List.mem_append_right _ (by assumption) | refine List.mem_cons_of_mem _ ?_))))); (case za => decide); (case zb => decide); (case zc => rfl); (case zd => rfl))))
  trivial
theorem fold_fd {g h : Heap} {L : Addr} {t r : Led} {a b f : Addr × Obj} (N : News g L h (t ++ a :: b :: f :: r)) : ∃ R : Led, R = t ++ a :: b :: r ∧ News g L h (f :: R) := ⟨_, rfl, fun p hp => N p (by
  simp only [List.mem_cons, List.mem_append] at hp ⊢
  rcases hp with h | h | h | h | h <;> simp only [h, true_or, or_true])⟩
theorem mem_as' {R t q : Led} {p : Addr × Obj} (e : R = t ++ q) (h : p ∈ t) : p ∈ R := by rw [e]; exact List.mem_append.mpr (.inl h)
theorem write_packed_x {w : World} {P : Addr} {vs : List Value} {np : Nat} {ents : List (Int × Dt)} {W1 : Addr} {tw : Tok} {nw : Nat} {sub news : Led} (mP : (P, W.listOf vs.toArray np) ∈ news) (hv : All2 (PairIn w sub) vs ents) (hs : ∀ p ∈ sub, p ∈ news) (hok : EntsOk ents) (h0 : 0 < ents.length) (mW : (W1, W.listOf #[.str (Str.ofString "Own") tw] nw) ∈ news) (hdl : (dataOf ents).length ≤ 50000) :
    Does w 548 [.ref P, .ref W1, .ref 572] 20 [] news (fun r _ tl => StreamIn w tl r (headOf ents) (dataOf ents ++ [33])) := write_packed_d mP (hv.mono fun _ _ h => h.mono hs) hok h0 mW hdl
theorem mem_c2 {g h : Heap} {L : Addr} {r : Led} {a b p : Addr × Obj} (_ : News g L h (a :: b :: r)) (h : p ∈ r) : p ∈ a :: b :: r := .tail _ (.tail _ h)
theorem fold_fd2 {g h : Heap} {L : Addr} {t r : Led} {a f : Addr × Obj} (N : News g L h (t ++ a :: f :: r)) : ∃ R : Led, R = t ++ r ∧ News g L h (f :: R) := ⟨_, rfl, fun p hp => N p (by
  simp only [List.mem_cons, List.mem_append] at hp ⊢
  rcases hp with h | h | h <;> simp only [h, true_or, or_true])⟩
theorem ln_EP_3 : True := by
  (k_with "call builtin:len cons nil" => (k_here; k_dflt (first | (refine' len_byteArr ?zhz ?_; (case zhz => omega)) | (refine' len_ints ?zhi ?zhN ?zhm ?zhl ?_; (case zhN => ((rename News _ _ _ _ => N7); exact N7)); (case zhm => (repeat (first | assumption | exact List.mem_cons_self .. | exact List.mem_append_left _ (by assumption) | exact List.mem_append_right _ (by assumption) | refine List.mem_cons_of_mem _ ?_))); (case zhi => assumption); (case zhl => omega)))))
  trivial
theorem ln_EP_4 : True := by
  (k_with "compareOp NotEq bytes bytes" => (k_here; k_dflt (refine' ne_same ?ze ?_; (case ze => rfl))))
  trivial
theorem ln_EP_5 : True := by
  (k_with "binaryOp Add bytes bytes" => (k_here; k_dflt (refine' add_ba (b := [33]) ?zz ?_; (case zz => ((simp only [List.length_cons, List.length_nil]); omega)); (intro t9 k9))))
  trivial
theorem law_c1 {w : World} : BodyOf w 577 fun qual body scope cdv =>
    ∀ (fa : Addr) (cv : Value) (mean : ExcName → Option Value) (mg mb : Str → Option Value) (dp un : Nat) (outer : List Env) (base g : Heap) (L : Addr) (s : Shared) (E : Value → Shared → Prop) (rest : Led) (oc : Obj) (x dx D1 D2 : Addr) (od1 od2 : Obj) (k1 k2 : Int) (t1 t2 : Tok) (n : Nat) (kvs : List (Int × Value)) (ents gents : List (Int × Dt)) (Dg Fd : Addr) (gvs : List Value) (gn : Nat) (us : Array Value) (uk : Nat) (fns : List Int) (mo : Int) (tm : Tok) (o1 o2 o3 o4 o5 o6 o7 o8 ob p1 p2 p3 p4 : Option Value),
      Fr g L s.heap (lkm (lrows L (some (.ref Dg)) o1 o2 o3 o4 o5 o6 o7 o8 (some (.ref Fd)) ob (some (.int mo tm)) p1 p2 p3 p4)) →
      News g L s.heap ((Fd, W.listOf us uk) :: rest) → (∀ p ∈ rest, p.1 ≠ Fd) → (L + 1, oc) ∈ rest → oc.data = .cell (some (.ref x)) → ShelfIn w rest x ents dx D1 D2 od1 od2 k1 k2 t1 t2 n kvs → EntsOk ents → EntsOk gents → 0 < gents.length → (gents.length : Int) ≤ mo → (∀ e ∈ gents, e ∈ ents) →
      (Dg, W.listOf gvs.toArray gn) ∈ rest → PyProof.Rows.IntsAre gvs (gents.map (·.1)) → PyProof.Rows.IntsAre us.toList fns → us.size ≤ 100 →
      Below (mkA dp un outer) base outer g → (Kf w.params).In g → Top vw loo mean mg mb g → dp + 600 < recursionLimit → un + 8000 < cLine → PassesOwn (model prg w) (mkA (dp + 1) (un + 3) (envOfC qual scope L fa cv :: outer)) (envOfC qual scope L fa cv) E →
      wpAny (model prg w) (mkA (dp + 1) (un + 3) (envOfC qual scope L fa cv :: outer)) (execs (loopBody body) (envOfC qual scope L fa cv))
        (GroupEnd g L s rest Dg Fd ob (some (.int mo tm)) p1 p2 p3 p4 us.size (fns ++ gents.map (·.1))) E s := by
  refine' BodyOf.of2 law_c2 ?k6 ?kb ?ks ?_
  (case k6 => k_dflt k_is); (case kb => conv => lhs; whnf); (case ks => conv => lhs; whnf)
  intro c2 fa cv mean mg mb dp un outer base g L s E rest oc x dx D1 D2 od1 od2 k1 k2 t1 t2 n kvs ents gents Dg Fd gvs gn us uk fns mo tm o1 o2 o3 o4 o5 o6 o7 o8 ob p1 p2 p3 p4 F N hFd mC dC S hok hgok h0 hmo hsub mG hG hF husz B X T hdp hun hE
  dsimp only [loopBody, after5] at c2 ⊢
  obtain ⟨m1, m2, m3, m4, lo1, lo2, hd1, hd2, rows⟩ := id S
  have hnd := keys_nodup hok
  rw [← rows_keys rows] at hnd
  have hGl : (gents.map (·.1)).length = gents.length := List.length_map ..
  have hGv := hG.length
  have hg8 := hgok.1
  refine seqK ?_
  refine LCg.Assign_ListComp_U (cl := _) F rfl rfl rfl (by decide) rfl (by decide) rfl rfl rfl ?_
  (repeat' ((fail_if_success (with_reducible refine mark_cs ?_)); k_extra "x one"))
  refine LCg.CompSrc.ledger (its := gvs.toArray) (k := gn) rfl F N (.tail _ mG) (by rw [sizeLine_eq, List.size_toArray]; omega) fun g9 => ?_
  refine comp_rule (fun i ys nw => ∃ acc, An4 (nw = (Fd, W.listOf us uk) :: (acc ++ rest)) (All2 (PairIn w (acc ++ rest)) ys (gents.take i)) ((∀ q ∈ rest, ∀ p ∈ acc, q.1 ≠ p.1)) ((∀ p ∈ acc, p.1 ≠ Fd))) ⟨[], rfl, .nil, (fun _ _ _ h => nomatch h), fun _ h => nomatch h⟩ (fun ys nw hj => ?_) (fun i v I oI C oC D m₂ h tk E' ys nw hi9 hP hj hC9 hv F1 N1 off ne => ?_)
  rotate_left
  · obtain ⟨acc, rfl, hys, har, haF⟩ := hj
    have hP' : gvs[i]? = some v := by simpa using hP
    have hil : i < gents.length := by rw [List.size_toArray] at hi9; omega
    obtain ⟨⟨k, d⟩, hgk⟩ : ∃ e, gents[i]? = some e := ⟨_, List.getElem?_eq_getElem hil⟩
    have hki : (gents.map (·.1))[i]? = some k := by rw [List.getElem?_map, hgk]; rfl
    obtain ⟨tk9, hvk⟩ := hG.get i k hki
    rw [hP'] at hvk
    cases hvk
    obtain ⟨T0, a, t, hva, hT, hD⟩ := shelf_at rows hnd (hsub _ (List.mem_of_getElem? hgk))
    have m1' := mem_n4 N1 m1
    have m2' := mem_n4 N1 m2
    have mC' := mem_n4 N1 mC
    k_extra "x steps"
    ((rename Fr g L _ _ => F8); (rename News g L _ _ => N8))
    rename _ ∧ _ ∧ _ ∧ _ ∧ AllLt _ (acc ++ rest) => l1
    refine ⟨_, _, [(Fd, W.listOf us uk)] ++ (([(_, _)] ++ acc) ++ rest), rfl, F8, news_c9 (t := [(_, _)]) [(Fd, W.listOf us uk)] N8, off3_ins2 [(Fd, W.listOf us uk)] off (fun p hp => ?_), .inr ⟨W.listOf gvs.toArray gn, List.mem_append.mpr (.inr (List.mem_append.mpr (.inr mG))), rfl, _, rfl⟩, [(_, _)] ++ acc, rfl, ?_, (fun q hq p hp => ?_), fun p hp => ?_⟩
    · rw [List.mem_singleton.mp hp]
      exact ⟨(Nat.ne_of_lt l1.1).symm, (Nat.ne_of_lt l1.2.1).symm, (Nat.ne_of_lt l1.2.2.1).symm⟩
    · rw [take_snoc hgk]
      exact (hys.mono fun _ _ h => h.mono fun _ h => .tail _ h).snoc ⟨_, _, _, rfl, .head _, hD.mono fun _ h => .tail _ (List.mem_append.mpr (.inr h))⟩
    · rcases List.mem_cons.mp hp with rfl | hp
      · exact Nat.ne_of_lt (allLt_mem l1.2.2.2.2 q (List.mem_append.mpr (.inr hq)))
      · exact har q hq p hp
    · rcases List.mem_cons.mp hp with rfl | hp
      · exact (Nat.ne_of_lt l1.2.2.2.1).symm
      · exact haF p hp
  obtain ⟨acc, rfl, hys, har, haF⟩ := hj
  intro P h3 tk F3 N3 o3
  rw [List.size_toArray, hGv, hGl, List.take_length] at hys
  have hdlen : (dataOf gents).length = (leadOf gents).length + (bodyOf (octsOf gents)).length := by rw [dataOf, List.length_append]
  have hgoks : ∀ e ∈ gents, e.2.ok := fun e he => (hgok.2.2 e he).2.2
  have hoff := offAt_le hgoks gents.length (Nat.le_refl _)
  have hbl := body_len (parts := octsOf gents) (fun e => by have := congrArg List.length e; rw [octsOf, List.length_map, List.length_nil] at this; omega)
  rw [show (octsOf gents).length = gents.length by rw [octsOf, List.length_map]] at hbl
  have hll := lead_len hgok h0
  have hdl5 : (dataOf gents).length ≤ 10000 := by omega
  clear hoff hbl hdlen
  (repeat' ((fail_if_success (with_reducible refine mark_call ?_)); k_extra "x one"))
  ((rename Fr g L _ _ => F8); (rename News g L _ _ => N8))
  rename _ ∧ _ ∧ AllLt _ (acc ++ rest) => lW
  refine' Does.useT (write_packed_x (sub := acc ++ rest) (.tail _ (.head _)) hys (fun p hp => .tail _ (.tail _ (.tail _ hp))) hgok h0 (.head _) (by omega)) B F8 X N8 T (by k_extra "x room") (by k_extra "x unit") ?_
  intro r9 tl9 h9 tk9 F9 N9 o9 P9
  obtain ⟨S9, dS9, H9, oH9, kvs9, kk1, kk2, kt1, kt2, kt3, kn, z0, mS, mdS, mH, loH, hdH, hvH⟩ := P9
  subst z0
  clear F8 N8
  obtain ⟨R3, hR3, N3⟩ := fold_fd N9
  clear N9
  have mS' : (S9, instObj 226 dS9) ∈ R3 := by rw [hR3]; exact List.mem_append.mpr (.inl mS)
  have mdS' := mem_as' hR3 mdS
  have mH' := mem_as' hR3 mH
  have hvH' : All2 (EntIn R3) kvs9 (headOf gents) := hvH.mono fun _ _ h => h.mono fun _ h => mem_as' hR3 h
  have mP' : (P, LCg.lst ys) ∈ R3 := by rw [hR3]; exact List.mem_append.mpr (.inr (.tail _ (.head _)))
  have hsubR : ∀ p ∈ acc ++ rest, p ∈ R3 := fun p hp => by rw [hR3]; exact List.mem_append.mpr (.inr (.tail _ (.tail _ hp)))
  have hv' : All2 (PairIn w R3) ys gents := hys.mono fun _ _ h => h.mono hsubR
  have hrR : ∀ p ∈ rest, p ∈ R3 := fun p hp => hsubR p (List.mem_append.mpr (.inr hp))
  have hFR : ∀ p ∈ R3, p.1 ≠ Fd := by
    rw [hR3]
    intro p hp
    rcases List.mem_append.mp hp with hp | hp
    · exact (o9 (Fd, W.listOf us uk) (.tail _ (.tail _ (.head _))) p hp).symm
    · rcases List.mem_cons.mp hp with rfl | hp
      · exact (Nat.ne_of_lt lW.2.1).symm
      · rcases List.mem_cons.mp hp with rfl | hp
        · exact fun e => off1_mem o3 (Fd, W.listOf us uk) (.head _) e.symm
        · exact (List.mem_append.mp hp).elim (haF p) (hFd p)
  clear o9 hR3
  (repeat' ((fail_if_success (with_reducible refine mark_call ?_)); k_extra "x one"))
  ((rename Fr g L _ _ => F8); (rename News g L _ _ => N8))
  refine' Does.useT (laid_octets_m mP' hv' hgok h0 (fun p hp => .tail _ hp)) B F8 X N8 T (by k_extra "x room") (by k_extra "x unit") ?_
  intro r9 tl9 h9 tk9 F9 N9 o9 P9
  obtain ⟨T9, tt1, tt2, z0, z1⟩ := P9
  subst z0 z1
  clear F8 N8
  simp only [List.cons_append, List.nil_append] at N9 o9
  have hTF : @Ne Nat T9 Fd := (o9 _ (.head _) _ (.head _)).symm
  (repeat' ((fail_if_success (with_reducible refine mark_call ?_)); k_extra "x one"))
  ((rename Fr g L _ _ => F8); (rename News g L _ _ => N8))
  have mS2 := mem_c2 N8 mS'
  have mdS2 := mem_c2 N8 mdS'
  (repeat' ((fail_if_success (with_reducible refine mark_call ?_)); k_extra "x one"))
  refine' Does.useT (told_head_d (.tail _ (.tail _ mH')) loH hdH (hvH'.mono fun _ _ h => h.mono fun _ h => .tail _ (.tail _ h))) B F8 X N8 T (by k_extra "x room") (by k_extra "x unit") ?_
  intro r9 tl9 h9 tk9 F9 N9 o9' P9
  obtain ⟨⟨T1, z0⟩, hT1⟩ := P9
  subst z0
  clear F8 N8 mS2 mdS2
  have hFt : ∀ p ∈ tl9, p.1 ≠ Fd := fun p hp => (o9' (Fd, W.listOf us uk) (.tail _ (.head _)) p hp).symm
  obtain ⟨R4, hR4, N4⟩ := fold_fd2 N9
  clear N9 o9'
  have hT1' : DatIn R4 (.ref T1) (.tuple (headDat gents)) := hT1.mono fun _ h => mem_as' hR4 h
  have hF4 : ∀ p ∈ R4, p.1 ≠ Fd := by rw [hR4]; exact fun p hp => (List.mem_append.mp hp).elim (hFt p) (hFR p)
  have h34 : ∀ p ∈ R3, p ∈ R4 := fun p hp => by rw [hR4]; exact List.mem_append.mpr (.inr hp)
  have mG4 := h34 _ (hrR _ mG)
  k_extra "x steps"
  ((rename Fr g L _ _ => F8); (rename News g L _ _ => N8))
  refine' ne_tup (n := 3) N8 ?h1 ?h2 ?hd ?hu ?_
  (case h1 => refine hT1'.mono fun q7 hq7 => ?_; simp only [List.mem_cons, hq7, or_true])
  (case hd => rfl)
  (case hu => show un + 3 + 4 < cLine; omega)
  · show DatIn _ _ (.tuple [.str (Str.ofString "dict"), .tuple [.str (Str.ofString "Filter"), .tuple [.str (Str.ofString "name"), .str (Str.ofString "Own")]], .tuple [.str (Str.ofString "First"), .tuple [.str (Str.ofString "int"), .int (leadOf gents).length]], .tuple [.str (Str.ofString "Length"), .tuple [.str (Str.ofString "int"), .int (dataOf gents).length]], .tuple [.str (Str.ofString "N"), .tuple [.str (Str.ofString "int"), .int gents.length]], .tuple [.str (Str.ofString "Type"), .tuple [.str (Str.ofString "name"), .str (Str.ofString "ObjStm")]]])
    rw [← hGl]
    exact .tuple (.head _) (.cons (.str _ _) (.cons (.tuple (by repeat (first | exact List.mem_cons_self .. | refine List.mem_cons_of_mem _ ?_)) (.cons (.str _ _) (.one (.tuple (by repeat (first | exact List.mem_cons_self .. | refine List.mem_cons_of_mem _ ?_)) (.cons (.str _ _) (.one (.str _ _))))))) (.cons (.tuple (by repeat (first | exact List.mem_cons_self .. | refine List.mem_cons_of_mem _ ?_)) (.cons (.str _ _) (.one (.tuple (by repeat (first | exact List.mem_cons_self .. | refine List.mem_cons_of_mem _ ?_)) (.cons (.str _ _) (.one (.int _ _))))))) (.cons (.tuple (by repeat (first | exact List.mem_cons_self .. | refine List.mem_cons_of_mem _ ?_)) (.cons (.str _ _) (.one (.tuple (by repeat (first | exact List.mem_cons_self .. | refine List.mem_cons_of_mem _ ?_)) (.cons (.str _ _) (.one (.int _ _))))))) (.cons (.tuple (by repeat (first | exact List.mem_cons_self .. | refine List.mem_cons_of_mem _ ?_)) (.cons (.str _ _) (.one (.tuple (by repeat (first | exact List.mem_cons_self .. | refine List.mem_cons_of_mem _ ?_)) (.cons (.str _ _) (.one (.int _ _))))))) (.one (.tuple (by repeat (first | exact List.mem_cons_self .. | refine List.mem_cons_of_mem _ ?_)) (.cons (.str _ _) (.one (.tuple (by repeat (first | exact List.mem_cons_self .. | refine List.mem_cons_of_mem _ ?_)) (.cons (.str _ _) (.one (.str _ _)))))))))))))
  have N5 : News g L _ ((Fd, W.listOf us uk) :: R4) := fun p hp => N8 p (.tail _ (.tail _ (.tail _ (.tail _ (.tail _ (.tail _ (.tail _ (.tail _ (.tail _ (.tail _ (.tail _ hp)))))))))))
  clear N8
  have mS5 : (S9, instObj 226 dS9) ∈ (Fd, W.listOf us uk) :: R4 := .tail _ (h34 _ mS')
  have mdS5 := List.mem_cons_of_mem (Fd, W.listOf us uk) (h34 _ mdS')
  (repeat' ((fail_if_success (with_reducible refine mark_execs ?_)); k_extra "x one"))
  k_extra "x stmt"
  all_goals first | (exfalso; omega) | skip
  rename News g L _ ((Fd, W.listOf us uk) :: R4) => N5
  ((rename Fr g L _ _ => F7); (rename News g L _ _ => N8); (have F8 := Fr_sel [Str.ofString "group", Str.ofString "pairs", Str.ofString "stream", Str.ofString "octets", Str.ofString "first", Str.ofString "row", Str.ofString "offsets", Str.ofString "spot", Str.ofString "part", Str.ofString "found", Str.ofString "before", Str.ofString "most", Str.ofString "script", Str.ofString "pen", Str.ofString "number", Str.ofString "turn"] (al := [(_, _), (_, _), (_, _), (_, _), (_, _), (_, _), (_, _), (_, _), (_, _), (_, _), (_, _), (_, _), (_, _), (_, _), (_, _), (_, _), (_, _), (_, _), (_, _), (_, _)]) F7 (by rfl)); clear F7)
  refine wpAny_mono (c2 fa cv mean mg mb dp un outer base g L _ E R4 oc x dx D1 D2 od1 od2 k1 k2 t1 t2 n kvs ents gents Dg Fd gvs gn us uk fns _ _ _ _ _ _ ob _ p1 p2 p3 p4 _ _ F8 N8 hF4 (h34 _ (hrR _ mC)) dC (S.mono (fun p hp => h34 _ (hrR _ hp))) hok hgok h0 hsub mG4 hG hF husz B X T hdp hun hE) (fun f s' q => ?_) (fun _ _ e => e)
  obtain ⟨rfl, h', tk', us', uk', q1, q2, q3, q4, q5, q6, q7, q8, rfl, F', N', hI', hz'⟩ := q
  refine ⟨rfl, h', tk', us', uk', q1, q2, q3, q4, q5, q6, q7, q8, rfl, F', fun p hp => N' p ?_, hI', hz'⟩
  rcases List.mem_cons.mp hp with rfl | hp
  · exact .head _
  · exact .tail _ (h34 _ (hrR _ hp))

theorem ln_EQ : True := by
  k_with_none
  (k_with "ite" => first | with_reducible refine ite_tt ?_ | with_reducible refine ite_ff ?_)
  (k_with "execs nil" => (with_reducible refine wpAny_execs_nil ?_; (try dsimp only)))
  (k_with "execs cons" => (k_here; k_dflt (refine seqK ?_; (try dsimp only))))
  (k_with "x lia" => ((try clear cc); (try clear c2); (try clear lf); lia))
  (k_with "x n7" => ((rename News _ _ _ _ => N7); exact N7))
  (k_with "x room" => (first | exact room1 (by assumption) (by rfl) | exact room2 (by assumption) (by rfl) | omega))
  (k_with "x unit" => (first | exact unit1 (by assumption) (by rfl) | exact unit2 (by assumption) (by rfl) | omega))
  (k_with "x got" => ((first | ((with_reducible intro r9 h9 tk9 F9 N9 P9); (first | (obtain ⟨t9, e9⟩ := P9; subst e9) | (subst P9) | skip)) | (with_reducible intro t9 h9 tk9 F9 N9) | (with_reducible intro h9 tk9 F9 N9)); (try k_sweep)))
  (k_with "x one" => (first | (k_unfold; (try dsimp only)) | walk1 | (dsimp only; walk1)))
  (k_with "x g" => ((fail_if_success plain_pass); k_here))
  (k_with "x k" => (k_asm; k_extra "x n7"; k_extra "x ix"))
  (k_with "x c" => (k_extra "x k"; k_extra "x ev"; k_extra "x ev"))
  (k_with "x if" => (k_dflt (k_here; (with_reducible show wpAny _ _ (execs (Stmt.If (PySem.Expr.Compare (PySem.Expr.Name _ _) [CmpOp.Eq] [PySem.Expr.Constant (Const.str _) _ _] _) _ _ _ :: _) _) _ _ _); first | (apply xif_f; k_extra "x c"; exact rfl) | (apply xif_t; k_extra "x c"; exact rfl))))
  (k_with "x stmt" => ((first | k_extra "x if" | refine seqK ?_ | refine wpAny_execs_cons ?_); (repeat' ((fail_if_success (with_reducible refine mark_execs ?_)); k_extra "x one"))))
  (k_with "x steps" => (repeat' k_extra "x one"))
  (k_with "x ix" => (first | exact isX1 rfl | exact isX2 rfl | exact isX3 rfl))
  (k_with "x ev" => (first | exact Ev.str | exact Ev.int | exact Ev.none | exact Ev.bool | (apply Ev.name; exact rfl; exact rfl; exact rfl) | (apply Ev.cell; exact rfl; exact rfl; exact rfl; (first | k_mem | (repeat (first | exact List.mem_cons_self .. | refine List.mem_cons_of_mem _ ?_))); k_asm)))
  (k_with "x evs" => (focus ((repeat' (first | exact Evs.nil | apply Evs.int | (apply Evs.name; exact rfl; exact rfl; exact rfl) | (apply Evs.cell; exact rfl; exact rfl; exact rfl; (first | k_mem | (repeat (first | exact List.mem_cons_self .. | refine List.mem_cons_of_mem _ ?_))); k_asm) | exact Ev.str | exact Ev.none | exact Ev.bool | apply Evs.cons)); done)))
  (k_with "execs cons If" => ((fail_if_success plain_pass); k_extra "x if"))
  (k_with "isTrue Compare" => (k_extra "x g"; (with_reducible show wpAny _ _ (PySem.isTrue (PySem.Expr.Compare _ [_] [_] _) _ _) _ _ _); k_dflt (first | ((with_reducible show wpAny _ _ (PySem.isTrue (PySem.Expr.Compare _ [CmpOp.Eq] [_] _) _ _) _ _ _); apply ist_strL; k_extra "x c") | (apply ist_int; k_extra "x c"; exact rfl))))
  (k_with "eval Call Name" => (k_extra "x g"; k_dflt (first | (apply call_ev; exact rfl; exact rfl; exact rfl; k_extra "x k"; k_extra "x evs"; k_asm; k_asm; k_is; k_is) | (apply bcall_ev; exact rfl; exact rfl; exact rfl; exact rfl; k_extra "x k"; k_extra "x evs"; k_asm; k_asm; k_is; boot_fast; decide))))
  (k_with "callWith" => (k_extra "x g"; k_dflt (apply meth_ev; exact rfl; k_extra "x k"; k_extra "x evs")))
  (k_with "spliced" => (k_extra "x g"; k_dflt (apply args_ev; exact rfl; k_extra "x k"; k_extra "x evs")))
  (k_with "eval Attribute Name" => (k_extra "x g"; k_dflt (apply attr_ev; k_extra "x k"; k_extra "x ev")))
  (k_with "x ho" => ((try simp only [List.nil_append, List.cons_append]); (repeat' (first | (refine off1_of ?_; assumption) | (refine off1_lt ?_; assumption) | (refine off1_all ?_; assumption) | refine And.intro ?_ ?_ | exact trivial | ((show @Ne Nat _ _); omega) | refine off1_app ?_ ?_))))
  (k_with "x hz" => ((try simp only [Array.size_push, List.size_toArray, List.length_cons, List.length_nil, List.length_append]); omega))
  (k_with "x hm" => (repeat (first | exact List.mem_cons_self .. | exact List.mem_append_left _ (by assumption) | refine List.mem_cons_of_mem _ ?_)))
  (k_with "call builtin:list.append" => (k_here; k_dflt ((rename News _ _ _ _ => N7); (first | (refine' append_at [] _ ?zcF N7 ?zho ?zhz ?_) | (refine' append_at [_] _ ?zcF N7 ?zho ?zhz ?_) | (refine' append_at [_, _] _ ?zcF N7 ?zho ?zhz ?_) | (refine' append_at [_, _, _] _ ?zcF N7 ?zho ?zhz ?_)); (case zcF => k_asm); (case zho => k_extra "x ho"); (case zhz => k_extra "x hz"); ((intro h9 F9 N9); (try simp only [List.nil_append, List.cons_append] at N9); (try k_sweep)))))
  (k_with "call builtin:list.extend" => (k_here; k_dflt ((rename News _ _ _ _ => N7); (first | (refine' extend_at [] _ ?zcF N7 ?zhb ?zho ?zhne ?zhz ?_) | (refine' extend_at [_] _ ?zcF N7 ?zhb ?zho ?zhne ?zhz ?_) | (refine' extend_at [_, _] _ ?zcF N7 ?zhb ?zho ?zhne ?zhz ?_) | (refine' extend_at [_, _, _] _ ?zcF N7 ?zhb ?zho ?zhne ?zhz ?_)); (case zcF => k_asm); (case zhb => k_extra "x hm"); (case zho => k_extra "x ho"); (case zhne => k_extra "x hz"); (case zhz => k_extra "x hz"); ((intro h9 F9 N9); (try simp only [List.nil_append, List.cons_append] at N9); (try k_sweep)))))
  (k_with "assign Tuple" => (k_here; k_dflt (refine' unpackN_ ?zF ?zN ?zT ?zk1 ?zk2 ?zk3 ?_; (case zF => k_asm); (case zN => k_extra "x n7"); (case zT => (refine' News.isTup ?ztn ?ztm; (case ztn => k_extra "x n7"); (case ztm => (repeat (first | assumption | exact List.mem_cons_self .. | exact List.mem_append_left _ (by assumption) | refine List.mem_cons_of_mem _ ?_))))); (case zk1 => exact rfl); (case zk2 => with_unfolding_all exact rfl); (case zk3 => with_unfolding_all exact rfl)); intro h' F' N'; (try k_sweep)))
  (k_with "setItem ref int" => (k_here; k_dflt ((rename News _ _ _ _ => N7); (first | (refine' dset_at (K := Int) (knd := intKind prg _) [] _ ?zcF N7 ?zhd ?zhk ?zho ?zhz ?_; (case zhd => assumption)) | (refine' dset_at (K := Int) (knd := intKind prg _) [_] _ ?zcF N7 ?zhd ?zhk ?zho ?zhz ?_; (case zhd => assumption)) | (refine' dset_at (K := Int) (knd := intKind prg _) [_, _] _ ?zcF N7 ?zhd ?zhk ?zho ?zhz ?_; (case zhd => assumption))); (case zcF => k_asm); (case zhk => exact is_int); (case zho => k_extra "x ho"); (case zhz => omega); ((intro h9 o9 F9 N9 hd9); (try simp only [List.nil_append, List.cons_append] at N9); (try k_sweep)))))
  (k_with "call builtin:list.pop" => (k_here; k_dflt ((rename News _ _ _ _ => N7); (first | (refine' pop_at [] _ ?zcF N7 ?zhi ?zho ?zhne ?zhz ?_; (case zhi => assumption)) | (refine' pop_at [_] _ ?zcF N7 ?zhi ?zho ?zhne ?zhz ?_; (case zhi => assumption))); (case zcF => k_asm); (case zho => k_extra "x ho"); (case zhne => omega); (case zhz => omega); ((intro h9 t9 us9 n9 F9 N9 hI9 hs9); (try simp only [List.nil_append, List.cons_append] at N9); (try k_sweep)))))
  (k_with "truthy ref" => (k_here; k_dflt ((rename News _ _ _ _ => N7); refine' truthy_at N7 ?zhm ?zhz ?_ ?_; (case zhm => k_extra "x hm"); (case zhz => omega)); intro htr))
  trivial
noncomputable def drop4 : List Stmt → List Stmt
  | _ :: _ :: _ :: _ :: r => r
  | _ => []
noncomputable def LawEnd (g : Heap) (L : Addr) (s : Shared) (f : Flow) (s' : Shared) : Prop := f = .ret (.bool true) ∧ ∃ h tk m news, s' = { s with heap := h, toks := tk } ∧ Fr g L h m ∧ News g L h news
theorem mem_c1 {g h : Heap} {L : Addr} {r : Led} {a p : Addr × Obj} (_ : News g L h (a :: r)) (h : p ∈ r) : p ∈ a :: r := .tail _ h
theorem fold_p {g h : Heap} {L : Addr} {t r : Led} {f : Addr × Obj} (N : News g L h (t ++ f :: r)) : ∃ R : Led, R = t ++ r ∧ News g L h (f :: R) := ⟨_, rfl, fun p hp => N p (by
  simp only [List.mem_cons, List.mem_append] at hp ⊢
  rcases hp with h | h | h <;> simp only [h, true_or, or_true])⟩
theorem eq_il {prog : Program} {w : World} {A : Around} {E : Value → Shared → Prop} {s : Shared} {g : Heap} {L a b : Addr} {news : Led} {x y : Array Value} {n m : Nat} {ns : List Int} {Q : Value → Shared → Prop} (N : News g L s.heap news) (m1 : (a, W.listOf x n) ∈ news) (m2 : (b, W.listOf y m) ∈ news) (i1 : PyProof.Rows.IntsAre x.toList ns) (i2 : PyProof.Rows.IntsAre y.toList ns) (hu : A.units < cLine) (h : Q (.bool true) s) : wpAny (model prog w) A (compareOp .Eq (.ref a) (.ref b)) Q E s := by
  have l1 := i1.length
  have l2 := i2.length
  rw [Array.length_toList] at l1 l2
  refine SeqAt.eq_listAt (items := x) (items2 := y) (e := fun _ => true) ⟨_, (N _ m1).1, rfl, _, rfl⟩ ⟨_, (N _ m2).1, rfl, _, rfl⟩ (by omega) hu (fun j j1 j2 => ?_) (by rw [all_range_true]; exact h)
  obtain ⟨t1, e1⟩ := i1.get j ns[j] (List.getElem?_eq_getElem (by omega))
  obtain ⟨t2, e2⟩ := i2.get j ns[j] (List.getElem?_eq_getElem (by omega))
  have f1 : x[j] = .int ns[j] t1 := by rw [Array.getElem?_toList, Array.getElem?_eq_getElem j1] at e1; exact Option.some.inj e1
  have f2 : y[j] = .int ns[j] t2 := by rw [Array.getElem?_toList, Array.getElem?_eq_getElem j2] at e2; exact Option.some.inj e2
  rw [f1, f2]
  have := SeqAt.EqAt.int_int (A := A.in1) (s := s) ns[j] t1 ns[j] t2
  simpa using this
theorem ents_part {ents : List (Int × Dt)} (hok : EntsOk ents) (a m : Nat) : EntsOk ((ents.drop a).take m) := by
  have hs : ((ents.drop a).take m).Sublist ents := (List.take_sublist _ _).trans (List.drop_sublist _ _)
  refine ⟨Nat.le_trans hs.length_le hok.1, hok.2.1.sublist (hs.map _), fun e he => hok.2.2 e (hs.subset he)⟩
theorem tl_ex {g h : Heap} {L : Addr} {a : Addr × Obj} {r : Led} (N : News g L h (a :: r)) : ∃ R : Led, R = r ∧ News g L h (a :: R) := ⟨_, rfl, N⟩
theorem mark_cmp {M : Model} {A : Around} {op : CmpOp} {a b : Value} {Q : Value → Shared → Prop} {E : Value → Shared → Prop} {s : Shared} (h : wpAny M A (compareOp op a b) Q E s) : wpAny M A (compareOp op a b) Q E s := h
theorem law_b {w : World} : BodyOf w 577 fun qual body scope cdv =>
    ∀ (fa : Addr) (cv : Value) (mean : ExcName → Option Value) (mg mb : Str → Option Value) (dp un : Nat) (outer : List Env) (base g : Heap) (L : Addr) (s : Shared) (E : Value → Shared → Prop) (rest : Led) (oc : Obj) (x dx D1 D2 : Addr) (od1 od2 : Obj) (k1 k2 : Int) (t1 t2 : Tok) (n : Nat) (kvs : List (Int × Value)) (ents : List (Int × Dt)) (pen c : Addr) (gr st pp : Int) (q1 q2 q3 : Tok) (pn nc : Nat) (cvs : List Value) (cns : List Int) (p1 p3 p4 : Option Value),
      Fr g L s.heap (lkm (lrows L none none none none none none none none none none none none p1 (some (.ref pen)) p3 p4)) →
      News g L s.heap ((pen, W.listOf #[.ref c, .int gr q1, .int st q2, .int pp q3] pn) :: rest) → (∀ p ∈ rest, p.1 ≠ pen) → (c, W.listOf cvs.toArray nc) ∈ rest → PyProof.Rows.IntsAre cvs cns → cns.length ≤ 48 → 0 ≤ gr → 0 ≤ st → st < 2147483647 → 0 ≤ pp → pp < 90000 →
      (L + 1, oc) ∈ rest → oc.data = .cell (some (.ref x)) → ShelfIn w rest x ents dx D1 D2 od1 od2 k1 k2 t1 t2 n kvs → EntsOk ents → 0 < ents.length →
      Below (mkA dp un outer) base outer g → (Kf w.params).In g → Top vw loo mean mg mb g → dp + 600 < recursionLimit → un + 8000 < cLine → PassesOwn (model prg w) (mkA (dp + 1) (un + 3) (envOfC qual scope L fa cv :: outer)) (envOfC qual scope L fa cv) E →
      wpAny (model prg w) (mkA (dp + 1) (un + 3) (envOfC qual scope L fa cv :: outer)) (execs (drop4 body) (envOfC qual scope L fa cv)) (LawEnd g L s) E s := by
  refine' BodyOf.of2 law_c1 ?k6 ?kb ?ks ?_
  (case k6 => k_dflt k_is); (case kb => conv => lhs; whnf); (case ks => conv => lhs; whnf)
  intro cc fa cv mean mg mb dp un outer base g L s E rest oc x dx D1 D2 od1 od2 k1 k2 t1 t2 n kvs ents pen c gr st pp q1 q2 q3 pn nc cvs cns p1 p3 p4 F N hpen hc hci hcl hgr hst0 hst1 hpp0 hpp1 mC dC S hok h0 B X T hdp hun hE
  dsimp only [loopBody, drop4] at cc ⊢
  obtain ⟨m1, m2, m3, m4, lo1, lo2, hd1, hd2, rows⟩ := id S
  have mC1 := mem_c1 N mC
  have m11 := mem_c1 N m1
  have m21 := mem_c1 N m2
  (repeat' ((fail_if_success (with_reducible refine mark_call ?_)); k_extra "x one"))
  ((rename Fr g L _ _ => F8); (rename News g L _ _ => N8))
  refine' Does.useT (told_shelf_d (S.mono fun _ h => .tail _ h) hok) B F8 X N8 T (by k_extra "x room") (by k_extra "x unit") ?_
  intro r9 tl9 h9 tk9 F9 N9 o9 P9
  obtain ⟨⟨T1, z0⟩, hT1⟩ := P9
  subst z0
  clear F8 N8
  obtain ⟨R1, hR1, N1⟩ := fold_p N9
  have hp1 : ∀ p ∈ R1, p.1 ≠ pen := by rw [hR1]; exact fun p hp => (List.mem_append.mp hp).elim (fun h => (o9 _ (.head _) p h).symm) (hpen p)
  have hr1 : ∀ p ∈ rest, p ∈ R1 := fun p hp => by rw [hR1]; exact List.mem_append.mpr (.inr hp)
  have hT1' : DatIn R1 (.ref T1) (.tuple (shelfDat ents)) := hT1.mono fun _ h => mem_as' hR1 h
  clear N9 o9 hR1
  (repeat' ((fail_if_success (with_reducible refine mark_call ?_)); k_extra "x one"))
  ((rename Fr g L _ _ => F8); (rename News g L _ _ => N8))
  refine' Does.useAt [] R1 (draw_d (hr1 _ hc) hci hcl hgr hst0 hst1 hpp0 (by omega) (by decide) (by decide)) B F8 X N8 T (by rw [List.nil_append]; exact fun q hq p hp => by rw [List.mem_singleton.mp hq]; exact hp1 p hp) (by k_extra "x room") (by k_extra "x unit") ?_
  intro r9 mu9 tl9' h9' tk9' F9' N9' e9 o9 P9
  obtain ⟨z0, i, g', st', ti, w1, w2, w3, wn, z1, hi0, hi4, _, _, _, z2⟩ := P9
  subst z0 z1 z2
  clear F8 N8 o9 e9
  simp only [List.nil_append, List.cons_append] at N9'
  (repeat' ((fail_if_success (with_reducible refine mark_execs ?_)); k_extra "x one"))
  k_extra "x stmt"
  ((rename Fr g L _ _ => F7); (rename News g L _ _ => N8); (have F8 := Fr_sel [Str.ofString "group", Str.ofString "pairs", Str.ofString "stream", Str.ofString "octets", Str.ofString "first", Str.ofString "row", Str.ofString "offsets", Str.ofString "spot", Str.ofString "part", Str.ofString "found", Str.ofString "before", Str.ofString "most", Str.ofString "script", Str.ofString "pen", Str.ofString "number", Str.ofString "turn"] (al := [(_, _), (_, _), (_, _), (_, _), (_, _), (_, _), (_, _), (_, _), (_, _), (_, _), (_, _), (_, _), (_, _), (_, _), (_, _), (_, _), (_, _), (_, _), (_, _)]) F7 (by rfl)); clear F7)
  rename _ ∧ AllLt _ R1 => l1
  obtain ⟨eF, heF, N8⟩ := head_ex N8
  obtain ⟨R2, hR2, N8⟩ := tl_ex N8
  have hF2 : ∀ p ∈ R2, p.1 ≠ eF.1 := by rw [hR2, heF]; exact fun p hp => (List.mem_cons.mp hp).elim (fun e => by rw [e]; exact Nat.ne_of_lt l1.1) (fun h => Nat.ne_of_lt (allLt_mem l1.2 p h))
  have hr2 : ∀ p ∈ rest, p ∈ R2 := fun p hp => by rw [hR2]; exact .tail _ (hr1 p hp)
  have hT2 : DatIn R2 (.ref T1) (.tuple (shelfDat ents)) := hT1'.mono fun _ h => by rw [hR2]; exact .tail _ h
  have S2 := S.mono hr2
  clear hT1' hr1 hp1 hR2
  refine seqK ?_
  refine For_invVF F8 (by rfl) (by rfl) ?_ (hE := hE)
  have mC2 := mem_c1 N8 (hr2 _ mC)
  (repeat' ((fail_if_success (with_reducible refine mark_call ?_)); k_extra "x one"))
  refine' Does.useT (packable_d (S2.mono fun _ h => .tail _ h) hok) B F8 X N8 T (by k_extra "x room") (by k_extra "x unit") ?_
  intro r9 tl9 h9 tk9 F9 N9 o9 P9
  obtain ⟨K9, ks9, kn9, z0, z1, hIK⟩ := P9
  subst z0 z1
  clear F8
  simp only [List.nil_append, List.cons_append] at N9 o9
  have hKl : (ents.map (·.1)).length = ents.length := List.length_map ..
  have hg8 := hok.1
  (repeat' ((fail_if_success (with_reducible refine mark_call ?_)); k_extra "x one"))
  ((rename Fr g L _ _ => F8); (rename News g L _ _ => N8))
  refine' Does.useT (groups_of_d (.head _) hIK (by omega) (by omega : 1 ≤ 1 + i) (by omega)) B F8 X N8 T (by k_extra "x room") (by k_extra "x unit") ?_
  intro r9 tl9 h9 tk9 F9 N9 o9' P9
  obtain ⟨G9, gs9, gn9, kk, z0, mG9, hk1, hk2, hgs⟩ := P9
  subst z0
  clear F8
  obtain ⟨R5, hR5, N5⟩ := fold_fd2 N9
  (repeat' ((fail_if_success (with_reducible refine mark_pi ?_)); k_extra "x one"))
  have hgsR : All2 (GrpIn R5) gs9 ((List.range kk).map fun j => ((ents.map (·.1)).drop (j * (1 + i).toNat)).take (1 + i).toNat) := hgs.mono fun _ _ h => h.mono fun _ h => mem_as' hR5 h
  have mG5 : (G9, W.listOf gs9.toArray gn9) ∈ R5 := mem_as' hR5 mG9
  have h25 : ∀ p ∈ R2, p ∈ R5 := fun p hp => by rw [hR5]; exact List.mem_append.mpr (.inr hp)
  have hF5 : ∀ p ∈ R5, p.1 ≠ eF.1 := by rw [hR5]; exact fun p hp => (List.mem_append.mp hp).elim (fun h => (o9' eF (.tail _ (.head _)) p h).symm) (hF2 p)
  have hT5 : DatIn R5 (.ref T1) (.tuple (shelfDat ents)) := hT2.mono h25
  have S5 := S2.mono h25
  have mC5 := h25 _ (hr2 _ mC)
  have m15 := h25 _ (hr2 _ m1)
  have m25 := h25 _ (hr2 _ m2)
  clear hgs mG9 o9' hR5 N9 hT2 S2 o9 N8
  obtain ⟨m, hm⟩ : ∃ m : Nat, m = (1 + i).toNat := ⟨_, rfl⟩
  rw [← hm] at hgsR hk2
  have hk1' : ∀ j, j < kk → j * m < (ents.map (·.1)).length := by rw [hm]; exact hk1
  have hm1 : 1 ≤ m := by omega
  have hgsl := hgsR.length
  rw [List.length_map, List.length_range] at hgsl
  refine list_loop (fun j al nx => Ex12 fun us uk tm og o1 o2 o3 o4 o5 o6 o7 o8 => An4 (nx = (eF.1, W.listOf us uk) :: R5) (PyProof.Rows.IntsAre us.toList ((ents.map (·.1)).take (j * m))) (us.size ≤ 8 * j) (al = lrows L og o1 o2 o3 o4 o5 o6 o7 o8 (some (.ref eF.1)) (some (.ref T1)) (some (.int (1 + i) tm)) p1 (some (.ref pen)) p3 p4)) F9 N5 (.tail _ mG5) ⟨#[], 0, _, _, _, _, _, _, _, _, _, _, by rw [heF], by rw [Nat.zero_mul, List.take_zero]; exact .nil, by decide, by rw [heF]; rfl⟩ ?_ ?_
  · rintro j v al₁ news₁ h tk own hv ho hmm ⟨us, uk, tm, og, o1, o2, o3, o4, o5, o6, o7, o8, rfl, hU, hus, rfl⟩ F1 N1
    obtain ⟨l, hl, D, gvs, gn, rfl, hmem, hgi⟩ := hgsR.get hv
    have hjk : j < kk := by
      have := (List.getElem?_eq_some_iff.mp hl).1
      rwa [List.length_map, List.length_range] at this
    have hle : l = ((ents.map (·.1)).drop (j * m)).take m := by
      rw [List.getElem?_map, List.getElem?_range hjk] at hl; exact (Option.some.inj hl).symm
    have hjm := hk1' j hjk
    have hjj : j ≤ j * m := Nat.le_mul_of_pos_right j hm1
    have hgm : l = ((ents.drop (j * m)).take m).map (·.1) := by rw [hle, ← List.map_drop, ← List.map_take]
    have hgl : ((ents.drop (j * m)).take m).length = min m (ents.length - j * m) := by rw [List.length_take, List.length_drop]
    have hsub : ∀ e ∈ (ents.drop (j * m)).take m, e ∈ ents := fun e he => List.mem_of_mem_drop (List.mem_of_mem_take he)
    rw [hgm] at hgi
    ((rename Fr g L _ _ => F7); (rename News g L _ _ => N8); (have F8 := Fr_sel [Str.ofString "group", Str.ofString "pairs", Str.ofString "stream", Str.ofString "octets", Str.ofString "first", Str.ofString "row", Str.ofString "offsets", Str.ofString "spot", Str.ofString "part", Str.ofString "found", Str.ofString "before", Str.ofString "most", Str.ofString "script", Str.ofString "pen", Str.ofString "number", Str.ofString "turn"] (al := [(_, _), (_, _), (_, _), (_, _), (_, _), (_, _), (_, _), (_, _), (_, _), (_, _), (_, _), (_, _), (_, _), (_, _), (_, _), (_, _), (_, _)]) F7 (by rfl)); clear F7)
    refine wpAny_mono (cc fa cv mean mg mb dp un outer base g L _ E (R5 ++ own) oc x dx D1 D2 od1 od2 k1 k2 t1 t2 n kvs ents ((ents.drop (j * m)).take m) D eF.1 gvs gn us uk ((ents.map (·.1)).take (j * m)) (1 + i) tm _ _ _ _ _ _ _ _ _ p1 (some (.ref pen)) p3 p4 F8 N8 (fun p hp => (List.mem_append.mp hp).elim (hF5 p) fun h => ho p h _ (.head _)) (List.mem_append.mpr (.inl mC5)) dC (S5.mono fun _ h => List.mem_append.mpr (.inl h)) hok (ents_part hok _ _) (by omega) (by omega) hsub (List.mem_append.mpr (.inl hmem)) hgi hU (by omega) B X T hdp hun hE) (fun f s' q => ?_) (fun _ _ e => e)
    obtain ⟨rfl, h', tk', us', uk', q1, q2, q3, q4, q5, q6, q7, q8, rfl, F', N', hI', hz'⟩ := q
    refine ⟨h', tk', _, (eF.1, W.listOf us' uk') :: R5, rfl, F', N', ho, .tail _ mG5, us', uk', _, _, _, _, _, _, _, _, _, _, rfl, ?_, by omega, rfl⟩
    rw [Nat.add_mul, Nat.one_mul, List.take_add, List.map_take, List.map_drop] at *
    exact hI'
  · rintro al₁ news₁ h tk ⟨us, uk, tm, og, o1, o2, o3, o4, o5, o6, o7, o8, rfl, hU, hus, rfl⟩ F1 N1
    try dsimp only
    rw [hgsl, List.take_of_length_le hk2] at hU
    have mC6 := mem_c1 N1 mC5
    have m16 := mem_c1 N1 m15
    have m26 := mem_c1 N1 m25
    (repeat' ((fail_if_success (with_reducible refine mark_call ?_)); k_extra "x one"))
    ((rename Fr g L _ _ => F8); (rename News g L _ _ => N8))
    refine' Does.useT (numbers_d (S5.mono fun _ h => .tail _ h) hok) B F8 X N8 T (by k_extra "x room") (by k_extra "x unit") ?_
    intro r9 tl9 h9 tk9 F9 N9 o9 P9
    obtain ⟨Nd, nvs, nn, z0, z1, hIn⟩ := P9
    subst z0 z1
    clear F8 N8
    simp only [List.nil_append, List.cons_append] at N9
    (repeat' ((fail_if_success (with_reducible refine mark_cmp ?_)); k_extra "x one"))
    ((rename Fr g L _ _ => F8); (rename News g L _ _ => N8))
    refine eq_il N8 (.tail _ (.head _)) (.head _) hU hIn (by show un + 3 < cLine; omega) ?_
    have N7 := news_tail N8
    clear N8
    (repeat' ((fail_if_success (with_reducible refine mark_call ?_)); k_extra "x one"))
    ((rename Fr g L _ _ => F8); (rename News g L _ _ => N8))
    refine' Does.useT (told_shelf_d (S5.mono fun _ h => .tail _ h) hok) B F8 X N8 T (by k_extra "x room") (by k_extra "x unit") ?_
    intro r9 tl9 h9 tk9 F9 N9 o9 P9
    obtain ⟨⟨T2, z0⟩, hT2⟩ := P9
    subst z0
    clear F8 N8
    (repeat' ((fail_if_success (with_reducible refine mark_cmp ?_)); k_extra "x one"))
    ((rename Fr g L _ _ => F8); (rename News g L _ _ => N8))
    refine eq_tup (n := 5) N8 (hT2.mono fun _ h => List.mem_append.mpr (.inl h)) (hT5.mono fun _ h => List.mem_append.mpr (.inr (.tail _ h))) (shelfDat_ok ents) (by show un + 3 + 6 < cLine; omega) ?_
    k_extra "x steps"
    exact ⟨rfl, _, _, _, _, rfl, F8, N8⟩

noncomputable def drop3 : List Stmt → List Stmt
  | _ :: _ :: _ :: r => r
  | _ => []
theorem stored_newI {kvs : List (Int × Value)} {k : Int} {v : Value} (h : ∀ p ∈ kvs, p.1 ≠ k) : stored kvs k v = kvs ++ [(k, v)] := by
  refine stored_absent (valueAt_none_of_not_mem ?_) _
  intro hm
  obtain ⟨p, hp, e⟩ := List.mem_map.mp hm
  exact h p hp e
theorem pw_snoc {l : List Int} {k : Int} (h : l.Pairwise (· < ·)) (hk : ∀ x ∈ l, x < k) : (l ++ [k]).Pairwise (· < ·) :=
  List.pairwise_append.mpr ⟨h, List.pairwise_singleton .., fun x hx y hy => by rw [List.mem_singleton.mp hy]; exact hk x hx⟩
theorem law_f {w : World} : BodyOf w 577 fun qual body scope cdv =>
    ∀ (fa : Addr) (cv : Value) (mean : ExcName → Option Value) (mg mb : Str → Option Value) (dp un : Nat) (outer : List Env) (base g : Heap) (L : Addr) (s : Shared) (E : Value → Shared → Prop) (rest : Led) (oc : Obj) (x dx D1 D2 : Addr) (od1 od2 : Obj) (k1 k2 : Int) (t1 t2 : Tok) (n : Nat) (pen c : Addr) (gr st pp : Int) (q1 q2 q3 : Tok) (pn nc : Nat) (cvs : List Value) (cns : List Int) (tn : Tok) (p1 : Option Value),
      Fr g L s.heap (lkm [(Str.ofString "turn", none), (Str.ofString "number", some (.int 0 tn)), (Str.ofString "pen", some (.ref pen)), (Str.ofString "script", p1)]) →
      News g L s.heap ((pen, W.listOf #[.ref c, .int gr q1, .int st q2, .int pp q3] pn) :: (D1, od1) :: rest) → (∀ p ∈ rest, p.1 ≠ pen) → (∀ p ∈ rest, p.1 ≠ D1) → @Ne Nat D1 pen → (c, W.listOf cvs.toArray nc) ∈ rest → PyProof.Rows.IntsAre cvs cns → cns.length ≤ 48 → 0 ≤ gr → 0 ≤ st → st < 2147483647 → 0 ≤ pp → pp < 100 →
      (L + 1, oc) ∈ rest → oc.data = .cell (some (.ref x)) → (x, instObj 375 dx) ∈ rest → (dx, dictOf [⟨k1, .str (Str.ofString "table") t1, .ref D1⟩, ⟨k2, .str (Str.ofString "trailer") t2, .ref D2⟩] n) ∈ rest → (D2, od2) ∈ rest → (D1 == sysModules) = false → (D2 == sysModules) = false → od1.IsDictOf (intKind prg w) [] → od2.IsDictOf (PySem.strKind prg w) [] →
      Below (mkA dp un outer) base outer g → (Kf w.params).In g → Top vw loo mean mg mb g → dp + 600 < recursionLimit → un + 8000 < cLine → PassesOwn (model prg w) (mkA (dp + 1) (un + 3) (envOfC qual scope L fa cv :: outer)) (envOfC qual scope L fa cv) E →
      wpAny (model prg w) (mkA (dp + 1) (un + 3) (envOfC qual scope L fa cv :: outer)) (execs (drop3 body) (envOfC qual scope L fa cv)) (LawEnd g L s) E s := by
  refine' BodyOf.of2 law_b ?k6 ?kb ?ks ?_
  (case k6 => k_dflt k_is); (case kb => conv => lhs; whnf); (case ks => conv => lhs; whnf)
  intro cc fa cv mean mg mb dp un outer base g L s E rest oc x dx D1 D2 od1 od2 k1 k2 t1 t2 n pen c gr st pp q1 q2 q3 pn nc cvs cns tn p1 F N hpen hD1 hDp hc hci hcl hgr hst0 hst1 hpp0 hpp1 mC dC m1 m2 m4 lo1 lo2 hd1 hd2 B X T hdp hun hE
  dsimp only [drop3, drop4] at cc ⊢
  refine seqK ?_
  refine For_invVF F (by rfl) (by rfl) ?_ (hE := hE)
  (repeat' ((fail_if_success (with_reducible refine mark_call ?_)); k_extra "x one"))
  ((rename Fr g L _ _ => F8); (rename News g L _ _ => N8))
  refine' Does.useAt [] ((D1, od1) :: rest) (draw_d (.tail _ hc) hci hcl hgr hst0 hst1 hpp0 (by omega) (by decide) (by decide)) B F8 X N8 T (by rw [List.nil_append]; exact fun q hq p hp => by rw [List.mem_singleton.mp hq]; exact (List.mem_cons.mp hp).elim (fun e => by rw [e]; exact hDp) (hpen p)) (by k_extra "x room") (by k_extra "x unit") ?_
  intro r9 mu9 tl9 h9 tk9 F9 N9 e9 o9 P9
  obtain ⟨z0, i, g', st', ti, w1, w2, w3, wn, z1, hi0, hi8, hgr', hst0', hst1', z2⟩ := P9
  subst z0 z1 z2
  clear F8 N8 o9 e9
  simp only [List.nil_append, List.cons_append] at N9
  (repeat' ((fail_if_success (with_reducible refine mark_pi ?_)); k_extra "x one"))
  rename PyProof.Rows.IntsAre cvs cns => hci
  rename IsRange _ _ _ _ _ _ _ _ => hR
  rename_i FR NR hkeep
  refine range_loop (n := (1 + i).toNat) (fun j al nx => Ex14 fun ents kvs od gr st pp q1 q2 q3 pn num tq o acc => An15 (nx = (pen, W.listOf #[.ref c, .int gr q1, .int st q2, .int pp q3] pn) :: (D1, od) :: (acc ++ rest)) (ents.length = j) ((ents.map (·.1)).Pairwise (· < ·)) ((∀ e ∈ ents, 1 ≤ e.1 ∧ e.1 ≤ num ∧ e.2.ok)) (0 ≤ num) (num ≤ 12 * (j:Int)) (od.IsDictOf (intKind prg w) kvs) (All2 (RowIn w (acc ++ rest)) kvs ents) ((∀ p ∈ acc, p.1 ≠ pen ∧ p.1 ≠ D1)) (0 ≤ gr) (0 ≤ st) (st < 2147483647) (0 ≤ pp) (pp ≤ 200 + 100 * (j:Int)) (al = [(Str.ofString "turn", o), (Str.ofString "number", some (.int num tq)), (Str.ofString "pen", some (.ref pen)), (Str.ofString "script", p1)])) hR (small_one (by decide) (by decide) (by omega) (by omega)) (by rw [rangeSize_nat]; congr 2; omega) FR NR ⟨[], [], od1, _, _, _, _, _, _, _, 0, _, _, [], rfl, rfl, .nil, (fun _ h => nomatch h), Int.le_refl _, Int.le_refl _, hd1, .nil, (fun _ h => nomatch h), hgr', hst0', hst1', by omega, by omega, rfl⟩ ?_ ?_
  · rintro j v al₁ news₁ h tk own hj hP ho ⟨ents, kvs, od, gr, st, pp, q1, q2, q3, pn, num, tq, o, acc, rfl, hel, hpw, hek, hn0, hn1, hod, rows, hacc, hgr, hst0, hst1, hpp0, hpp1, rfl⟩ F1 N1
    obtain ⟨u, rfl⟩ := hP
    obtain ⟨R, hRe, N1⟩ : ∃ R, R = (acc ++ rest) ++ own ∧ News g L h ((pen, W.listOf #[.ref c, .int gr q1, .int st q2, .int pp q3] pn) :: (D1, od) :: R) := ⟨_, rfl, N1⟩
    have hrR : ∀ p ∈ rest, p ∈ R := fun p hp => by rw [hRe]; exact List.mem_append.mpr (.inl (List.mem_append.mpr (.inr hp)))
    have hRp : ∀ p ∈ R, p.1 ≠ pen := by rw [hRe]; exact fun p hp => (List.mem_append.mp hp).elim (fun h => (List.mem_append.mp h).elim (fun h => (hacc p h).1) (hpen p)) fun h => ho p h _ (.head _)
    have hRD : ∀ p ∈ R, p.1 ≠ D1 := by rw [hRe]; exact fun p hp => (List.mem_append.mp hp).elim (fun h => (List.mem_append.mp h).elim (fun h => (hacc p h).2) (hD1 p)) fun h => ho p h _ (.tail _ (.head _))
    have hap : ∀ (P : Obj), ∀ q ∈ [(pen, P)], ∀ p ∈ [] ++ (D1, od) :: R, p.1 ≠ q.1 := fun P q hq p hp => by rw [List.mem_singleton.mp hq]; exact (List.mem_cons.mp hp).elim (fun e => by rw [e]; exact hDp) (hRp p)
    (repeat' ((fail_if_success (with_reducible refine mark_call ?_)); k_extra "x one"))
    ((rename Fr g L _ _ => F8); (rename News g L _ _ => N8))
    refine' Does.useAt [] ((D1, od) :: R) (draw_d (.tail _ (hrR _ hc)) hci hcl hgr hst0 hst1 hpp0 (by omega) (by decide) (by decide)) B F8 X N8 T (hap _) (by k_extra "x room") (by k_extra "x unit") ?_
    intro r9 mu9 tl9 h9 tk9 F9 N9 e9 o9 P9
    obtain ⟨z0, i9, g9, s9, ti9, w1, w2, w3, wn, z1, hi90, hi91, hg9, hs90, hs91, z2⟩ := P9
    subst z0 z1 z2
    clear F8 N8 o9 e9
    simp only [List.nil_append, List.cons_append] at N9
    have mC' := mem_c2 N9 (hrR _ mC)
    have m1' := mem_c2 N9 (hrR _ m1)
    have m2' := mem_c2 N9 (hrR _ m2)
    (repeat' ((fail_if_success (with_reducible refine mark_call ?_)); k_extra "x one"))
    ((rename Fr g L _ _ => F8); (rename News g L _ _ => N8))
    refine' Does.useAt [] ((D1, od) :: R) (obj1_d (.tail _ (hrR _ hc)) hci hcl hg9 hs90 hs91 (by omega) (by omega)) B F8 X N8 T (hap _) (by k_extra "x room") (by k_extra "x unit") ?_
    intro r9 mu9 tl9 h9 tk9 F9 N9 e9 o9 P9
    obtain ⟨⟨g8, s8, p8, v1, v2, v3, vn, z0, hg8, hs80, hs81, hp80, hp81⟩, d, hD, hdok⟩ := P9
    subst z0
    clear F8 N8 e9 mC' m1' m2'
    simp only [List.nil_append, List.cons_append] at N9 o9
    have hDtl : ∀ p ∈ tl9, p.1 ≠ D1 := fun p hp => (o9 (D1, od) (.tail _ (.head _)) p hp).symm
    have hptl : ∀ p ∈ tl9, p.1 ≠ pen := fun p hp => (o9 (pen, _) (.head _) p hp).symm
    have hotl : ∀ q ∈ own, ∀ p ∈ tl9, q.1 ≠ p.1 := fun q hq p hp => o9 q (.tail _ (.tail _ (by rw [hRe]; exact List.mem_append.mpr (.inr hq)))) p hp
    have hrtl : ∀ q ∈ R, ∀ p ∈ tl9, q.1 ≠ p.1 := fun q hq p hp => o9 q (.tail _ (.tail _ hq)) p hp
    (repeat' ((fail_if_success (with_reducible refine mark_call ?_)); k_extra "x one"))
    ((rename Fr g L _ _ => F8); (rename News g L _ _ => N8))
    refine' Does.useAt ((pen, W.listOf #[.ref c, .int g8 v1, .int s8 v2, .int p8 v3] vn) :: tl9) R (put_d (D2 := D2) (kvs := kvs) (List.mem_append.mpr (.inr (hrR _ m1))) (List.mem_append.mpr (.inr (hrR _ m2))) lo1 hod (by rw [rows.length]; omega)) B F8 X N8 T ?_ (by k_extra "x room") (by k_extra "x unit") ?_
    · intro q hq p hp
      rw [List.mem_singleton.mp hq]
      rcases List.mem_append.mp hp with hp | hp
      · rcases List.mem_cons.mp hp with rfl | hp
        · exact hDp.symm
        · exact hDtl p hp
      · exact hRD p hp
    intro r9 mu9 tl8 h9 tk9 F9 N9 e9 o8 P9
    obtain ⟨z0, T9, od', z1, z2, hod'⟩ := P9
    subst z0 z1 z2
    clear F8 N8 e9
    k_extra "x steps"
    ((rename Fr g L _ _ => F7); (rename News g L _ _ => N8); (have F8 := Fr_sel [Str.ofString "turn", Str.ofString "number", Str.ofString "pen", Str.ofString "script"] (al := [(_, _), (_, _), (_, _), (_, _), (_, _), (_, _)]) F7 (by rfl)); clear F7)
    obtain ⟨tt, N7⟩ : ∃ tt : Tok, News g L _ ((D1, od') :: (T9, tupObj [.int 0 tt, r9]) :: (pen, W.listOf #[.ref c, .int g8 v1, .int s8 v2, .int p8 v3] vn) :: (tl9 ++ R)) := ⟨_, N8⟩
    clear N8
    rw [stored_newI (fun p hp => ?hk)] at hod'
    case hk =>
      have hm : p.1 ∈ ents.map (·.1) := by rw [← rows_keys rows]; exact List.mem_map_of_mem hp
      obtain ⟨e, he, hee⟩ := List.mem_map.mp hm
      have := hek e he
      omega
    have hTo : ∀ q ∈ (D1, od) :: (pen, W.listOf #[.ref c, .int g8 v1, .int s8 v2, .int p8 v3] vn) :: (tl9 ++ R), q.1 ≠ T9 := fun q hq => o8 q hq _ (.head _)
    refine ⟨_, _, _, (pen, W.listOf #[.ref c, .int g8 v1, .int s8 v2, .int p8 v3] vn) :: (D1, od') :: ((((T9, tupObj [.int 0 tt, r9]) :: tl9) ++ acc) ++ rest), rfl, F8, fun p hp => N7 p ?_, ?_, ents ++ [(num + 1 + i9, d)], kvs ++ [(num + 1 + i9, .ref T9)], od', _, _, _, _, _, _, _, num + 1 + i9, _, _, ((T9, tupObj [.int 0 tt, r9]) :: tl9) ++ acc, rfl, by rw [List.length_append, hel]; rfl, ?_, ?_, by omega, by omega, hod', (rows.mono fun _ _ h => h.mono fun p hp => ?_).snoc ⟨rfl, T9, _, _, rfl, .head _, hD.mono fun p hp => .tail _ (List.mem_append.mpr (.inl (List.mem_append.mpr (.inl hp))))⟩, ?_, hg8, hs80, hs81, hp80, by omega, rfl⟩
    · simp only [hRe, List.mem_cons, List.mem_append, List.cons_append, List.nil_append] at hp ⊢
      rcases hp with z | z | z | ((z | z) | z) | z <;> simp only [z, true_or, or_true]
    · intro q hq b hb
      simp only [List.map_cons, List.map_append, List.mem_cons, List.mem_append, List.cons_append] at hb
      have hoq := ho q hq
      rcases hb with rfl | rfl | rfl | ((hb | hb) | hb)
      · exact hoq _ (.head _)
      · exact hoq _ (.tail _ (.head _))
      · exact hTo q (.tail _ (.tail _ (List.mem_append.mpr (.inr (by rw [hRe]; exact List.mem_append.mpr (.inr hq))))))
      · obtain ⟨p, hp, rfl⟩ := List.mem_map.mp hb
        exact hotl q hq p hp
      · obtain ⟨p, hp, rfl⟩ := List.mem_map.mp hb
        exact hoq _ (.tail _ (.tail _ (List.mem_map_of_mem (List.mem_append.mpr (.inl hp)))))
      · obtain ⟨p, hp, rfl⟩ := List.mem_map.mp hb
        exact hoq _ (.tail _ (.tail _ (List.mem_map_of_mem (List.mem_append.mpr (.inr hp)))))
    · rw [List.map_append]
      refine pw_snoc hpw fun k hk => ?_
      obtain ⟨e, he, rfl⟩ := List.mem_map.mp hk
      have := hek e he
      show e.1 < num + 1 + i9
      omega
    · intro e he
      rcases List.mem_append.mp he with he | he
      · have := hek e he
        exact ⟨this.1, by omega, this.2.2⟩
      · rw [List.mem_singleton.mp he]
        exact ⟨by show 1 ≤ num + 1 + i9; omega, Int.le_refl _, hdok⟩
    · intro p hp
      rcases List.mem_append.mp hp with hp | hp
      · rcases List.mem_cons.mp hp with rfl | hp
        · exact ⟨(hTo _ (.tail _ (.head _))).symm, (hTo _ (.head _)).symm⟩
        · exact ⟨hptl p hp, hDtl p hp⟩
      · exact hacc p hp
    · rcases List.mem_append.mp hp with hp | hp
      · exact List.mem_append.mpr (.inl (.tail _ (List.mem_append.mpr (.inr hp))))
      · exact List.mem_append.mpr (.inr hp)
  · rintro al₁ news₁ h tk ⟨ents, kvs, od, gr, st, pp, q1, q2, q3, pn, num, tq, o, acc, rfl, hel, hpw, hek, hn0, hn1, hod, rows, hacc, hgr, hst0, hst1, hpp0, hpp1, rfl⟩ F1 N1
    try dsimp only
    have F2 := Fr_rows (lrows L none none none none none none none none none none none none p1 (some (.ref pen)) (some (.int num tq)) o) F1 (by repeat' (first | exact rfl | exact trivial | refine And.intro ?_ ?_)) (by repeat' (first | exact rfl | exact trivial | refine And.intro ?_ ?_))
    have hn8 : (1 + i).toNat ≤ 8 := by omega
    refine cc fa cv mean mg mb dp un outer base g L _ E ((D1, od) :: (acc ++ rest)) oc x dx D1 D2 od od2 k1 k2 t1 t2 n kvs ents pen c gr st pp q1 q2 q3 pn nc cvs cns p1 _ _ F2 N1 ?_ ?_ hci hcl hgr hst0 hst1 hpp0 (by omega) ?_ dC ⟨?_, ?_, .head _, ?_, lo1, lo2, hod, hd2, rows.mono fun _ _ h => h.mono fun _ h => .tail _ h⟩ ⟨by omega, hpw, fun e he => ?_⟩ (by omega) B X T hdp hun hE
    · intro p hp
      rcases List.mem_cons.mp hp with rfl | hp
      · exact hDp
      · exact (List.mem_append.mp hp).elim (fun h => (hacc p h).1) (hpen p)
    · exact .tail _ (List.mem_append.mpr (.inr hc))
    · exact .tail _ (List.mem_append.mpr (.inr mC))
    · exact .tail _ (List.mem_append.mpr (.inr m1))
    · exact .tail _ (List.mem_append.mpr (.inr m2))
    · exact .tail _ (List.mem_append.mpr (.inr m4))
    · have := hek e he
      exact ⟨this.1, by omega, this.2.2⟩

theorem reordS {g h : Heap} {L : Addr} {d2 d1 x dx p c k : Addr × Obj} (N : News g L h ([d2, d1, x, dx, p, c] ++ [k])) : News g L h (p :: d1 :: [d2, x, dx, c, k]) := (nC (nH (nT (nT (nT (nT (nL N)))))) (nC (nH (nT (nL N))) (nC (nH (nL N)) (nC (nH (nT (nT (nL N)))) (nC (nH (nT (nT (nT (nL N))))) (nC (nH (nT (nT (nT (nT (nT (nL N))))))) (nC (nH (nR N)) nN)))))))
theorem law_a {w : World} {script : Addr} {items : Array Value} {ks : List Int} (hi : PyProof.Rows.IntsAre items.toList ks) (hk : ks.length ≤ 63) : BodyOf w 577 fun qual body scope cdv =>
    ∀ (fa : Addr) (cv : Value) (mean : ExcName → Option Value) (mg mb : Str → Option Value) (dp un : Nat) (outer : List Env) (base g : Heap) (L : Addr) (s : Shared) (o1 : Obj) (E : Value → Shared → Prop),
      g.IsList script items → Fr g L s.heap (lkm [(Str.ofString "script", some (.ref script))]) → News g L s.heap [(L + 1, o1)] → o1.data = .cell none → Below (mkA dp un outer) base outer g → (Kf w.params).In g → Top vw loo mean mg mb g → dp + 600 < recursionLimit → un + 8000 < cLine → PassesOwn (model prg w) (mkA (dp + 1) (un + 3) (envOfC qual scope L fa cv :: outer)) (envOfC qual scope L fa cv) E →
      wpAny (model prg w) (mkA (dp + 1) (un + 3) (envOfC qual scope L fa cv :: outer)) (execs body (envOfC qual scope L fa cv)) (LawEnd g L s) E s := by
  refine' BodyOf.of2 law_f ?k6 ?kb ?ks ?_
  (case k6 => k_dflt k_is); (case kb => conv => lhs; whnf); (case ks => conv => lhs; whnf)
  intro cc fa cv mean mg mb dp un outer base g L s o1 E H F N d1 B X T hdp hun hE
  dsimp only [drop3] at cc
  (repeat' ((fail_if_success (with_reducible refine mark_call ?_)); k_extra "x one"))
  refine' DoesH.useT (pen_d hi hk) B H F X N T (by k_extra "x room") (by k_extra "x unit") ?_
  intro r9 tl9 h9 tk9 F9 N9 o9 P9
  obtain ⟨pen, c, gr, st, tt1, tt2, tt3, n9, nc9, vs9, ns9, z0, z1, hne9, hi9, hl9, hg9, hs90, hs91⟩ := P9
  subst z0 z1
  simp only [List.cons_append, List.nil_append] at N9 o9
  (repeat' ((fail_if_success (with_reducible refine mark_call ?_)); k_extra "x one"))
  walk1
  (repeat' ((fail_if_success (with_reducible refine mark_call ?_)); k_extra "x one"))
  ((rename Fr g L _ _ => F8); (rename News g L _ _ => N8))
  rename _ ∧ _ ∧ _ ∧ _ ∧ _ ∧ _ => la
  rename _ ∧ _ ∧ _ ∧ _ ∧ _ => lb
  have ox1 : @Ne Nat (L + 1) pen := o9 _ (.head _) _ (.head _)
  have ox2 : @Ne Nat (L + 1) c := o9 _ (.head _) _ (.tail _ (.head _))
  refine' storeX_C F8 N8 ?c (updF_at [_, _, _, _, _, _] [] ?ho) ?d ?_ ?a ?b
  (case a => rfl)
  (case b => rfl)
  (case c => rfl)
  (case d => exact d1)
  (case ho => (simp only [List.cons_append, List.nil_append]; repeat' (first | refine And.intro ?_ ?_ | exact trivial | ((show @Ne Nat _ _); omega))))
  clear F8 N8
  intro h8 oc F8 N8 dc
  dsimp only at N8
  k_sweep
  (repeat' ((fail_if_success (with_reducible refine mark_execs ?_)); k_extra "x one"))
  k_extra "x stmt"
  ((rename Fr g L _ _ => F7); (rename News g L _ _ => N8); (have F8 := Fr_sel [Str.ofString "turn", Str.ofString "number", Str.ofString "pen", Str.ofString "script"] (al := [(_, _), (_, _), (_, _)]) F7 (by rfl)); clear F7)
  obtain ⟨vs9⟩ := vs9
  have N7 := reordS N8
  clear N8
  refine cc fa cv mean mg mb dp un outer base g L _ E [_, _, _, _, _] oc _ _ _ _ _ _ _ _ _ _ _ pen c gr st 0 _ _ _ _ _ vs9 ns9 _ _ F8 N7 ?_ ?_ ?_ (.tail _ (.tail _ (.tail _ (.head _)))) hi9 hl9 hg9 hs90 hs91 (by decide) (by decide) (.tail _ (.tail _ (.tail _ (.tail _ (.head _))))) dc (.tail _ (.head _)) (.tail _ (.tail _ (.head _))) (.head _) (by assumption) (by assumption) (by assumption) (by assumption) B X T hdp hun hE
  · intro p hp
    simp only [List.mem_cons, List.not_mem_nil, or_false] at hp
    rcases hp with rfl | rfl | rfl | rfl | rfl <;> ((show @Ne Nat _ _); omega)
  · intro p hp
    simp only [List.mem_cons, List.not_mem_nil, or_false] at hp
    rcases hp with rfl | rfl | rfl | rfl | rfl <;> ((show @Ne Nat _ _); omega)
  · omega

end Mine
open Mine in
theorem PySem.Challenge.cw_nn0145_01_holds : PySem.Challenge.rw_nn0145_01.Holds := by
  w_on
  refine holds_law said fun _ => ?_
  refine holds_open (q := vw) (loose := lws) (Xt := xt) (XP := XL vw []) (Yf := Hk.obs) (Ya := Hk.val) (YP := Hk.says) (N := 8100) left Hk.of Hk.keeps (fun s e => xl_of s (Bool.and_eq_true_iff.mp e).1) XL.keeps (by rfl) (by rfl) (by rfl) (fun s e => recFacts_of (Bool.and_eq_true_iff.mp e).2) (by rfl) (by decide +kernel) (by decide +kernel) ⟨rfl, rfl, rfl, rfl, rfl, by decide +kernel⟩ ?hw ?hc
  (case hw => exact ⟨[.list []], by decide +kernel, by decide +kernel⟩)
  (case hc =>
  w_strict (
  k_fill
  intro w s₀ s₁ mg mb G Y fa o pm cd doc dV kV ho hd hcd hD hmg hg args vals as hpre hlay hrd hwl hlo
  have KX := kIn_of Y
  refine Ground.open G ?_
  intro T B D TE TW
  try (refine guard_noD D (by decide +kernel) ?_; clear D)
  obtain ⟨_, _, M⟩ := bmod_of_top T
  have TA := at_of_top T
  try (obtain ⟨_, _, he, B0⟩ := based_of_top T rfl hmg ho hd; have he' : cd = _ := he; subst he'; clear he)
  clear hmg
  wrow_args hpre hlay hrd hwl hlo
  refine enter_call ?_
  w_top on
  try refine codeAny_mono ?_ (fun _ _ g => GoodW.toG g)
  have K0 := below_caller (Top.heap T)
  w_call any ho hd hcd hD T F
  clear hd TA
  k_drop)
  rename Fr _ _ _ _ => F
  rename News _ _ _ _ => N
  rename Top _ _ _ _ _ _ => T
  rename Below _ _ _ _ => B
  rename Heap.IsList _ _ _ => H
  rename PyProof.Rows.IntsAre _ _ => hI
  rename ¬ _ < _ => hc
  rename _ = Data.cell _ => d1
  refine' BodyOf.fin (law_a ?hI ?hk) ?k6 ?kb ?ks ?hh
  (case k6 => k_dflt k_is); (case kb => conv => lhs; whnf); (case ks => conv => lhs; whnf)
  (case hk => exact Int.ofNat_le.mp (Int.not_lt.mp hc))
  (case hh =>
    intro c
    refine wpAny_mono (c _ _ _ _ _ (1 + claimMargin) 4 [] _ _ _ _ _ (fun _ _ => False) H F N d1 B (by assumption) T (by decide) (by decide) (fun _ _ h => h.elim)) (fun f s' q => ?_) (fun _ _ h => h.elim)
    obtain ⟨rfl, h, tk, m, news, rfl, F9, N9⟩ := q
    try dsimp only
    refine goodW_bool F9 (by assumption) (fun _ => ?_) ?_
    · rfl
    · wrow_post)
  (case hI => simpa using hI))

