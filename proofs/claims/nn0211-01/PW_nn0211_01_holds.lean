import PyProof.Rows.All
import Wide.All
import OpenK.AllK
import Wide.FinOn
import PySem.Challenge.RW_nn0211_01
open PySem PySem.W PyProof.Rows
set_option Elab.async false
set_option compiler.extract_closed false
set_option maxRecDepth 100000
set_option maxHeartbeats 8000000
namespace PySem.Mine
/-! the head: the run of the top as ONE check of the kernel, from the library's booted state -/
noncomputable abbrev prg : Program := PySem.Challenge.rw_nn0211_01.row.toRowW.1
noncomputable def hd.view_39 : Program := PySem.W.view prg [0, 2, 3, 5, 6, 7, 8, 9, 10, 12, 13, 14, 15, 16, 17, 18, 19, 21, 22, 23, 24, 25, 26, 27, 28, 29, 31, 32, 33, 34, 35, 36, 37, 38, 39, 40, 41, 42]
noncomputable abbrev S (s : String) (t : Nat) : Value := .str (Str.ofString s) t
noncomputable abbrev R (a : Nat) : Value := .ref a
noncomputable abbrev tu (vs : List Value) : Obj := { cls := .type "tuple", data := .seq vs.toArray }
noncomputable abbrev fi (c : String) (vs : List Value) : Obj := { cls := .type c, data := .fields vs.toArray }
noncomputable abbrev di (P : Params) (c : Value) (n : Nat) (es : List (String × Nat × Value)) : Obj :=
  { cls := c, data := .dict (es.map fun e => ⟨PyData.keyHash P (Str.ofString e.1), .str (Str.ofString e.1) e.2.1, e.2.2⟩).toArray n }
noncomputable abbrev cl (n : String) (bs mro : List Value) (ns : Nat) (qn : String) (sub : List Value) (sl : List (Option Value)) : Obj :=
  { cls := .type "type", data := .cls { name := Str.ofString n, bases := bs, mro := mro, ns := ns, qualname := Str.ofString qn, subclasses := sub }, slots := sl.toArray }
noncomputable def FA (i : Nat) : Option Stmt := PySem.Challenge.pw_nn0211_01.main.body[i]?
noncomputable def FB (i j : Nat) : Option Stmt := match FA i with
  | some (.ClassDef _ _ _ b _ _ _ _ _ _ _) => b[j]?
  | _ => none
noncomputable def fo (st : Option Stmt) (qn : String) (df md cd : Value) : Obj := match st with
  | some (.FunctionDef n a b _ _ _ sc _ _ _) => { cls := .type "function", data := .func { name := n, qualname := Str.ofString qn, params := a, body := .stmts b, scope := sc, globals := 3, closure := [], defaults := df, kwdefaults := .none, pyModule := md, code := cd } }
  | _ => default
noncomputable def hd.heap_39 (P : Params) : Frag :=
  (nat_lit 2, di P .none 2 [("type.__subclasses__.Exception.0", 232, .int 46 0), ("type.__subclasses__.Exception.n", 233, .int 1 0)]) ::
  (nat_lit 3, di P (.type "dict") 47 [("__name__", 165, S "law_nn0211_01" 683), ("__doc__", 166, .none), ("__package__", 167, .none), ("__loader__", 168, .builtin "__main__.__loader__#opaque"), ("__spec__", 169, .none), ("__annotations__", 170, R 6), ("__builtins__", 171, R 4), ("__file__", 173, S "/claim/cut.py" 172), ("__cached__", 174, .none), ("_wall", 193, R 21), ("PaperError", 235, R 46), ("FontFault", 251, R 59), ("Decimal", 370, R 155), ("sign_text", 377, R 166), ("sign_of", 384, R 173), ("decimal_of", 391, R 180), ("at_one_scale", 402, R 187), ("same_number", 410, R 194), ("MOST_HOPS", 414, .int 30 413), ("Name", 443, R 211), ("String", 474, R 233), ("Stream", 505, R 254), ("Reference", 543, R 282), ("kind_of", 550, R 293), ("is_number", 557, R 300), ("Lookup", 609, R 332), ("LONG_RUN", 613, .int 4 612), ("number_of", 620, R 343), ("whole_of", 627, R 350), ("wide_rows", 633, R 355), ("width_in", 645, R 362), ("alike_count", 654, R 369), ("listed_parts", 660, R 374), ("run_parts", 671, R 381), ("wide_written", 682, R 388), ("_law_pot", 690, R 393), ("_law_draw", 701, R 400), ("_law_width", 709, R 407), ("_law_plain_widths", 721, R 414), ("_law_opened", 727, R 419), ("_law_is_written", 733, R 424), ("_law_drawn", 739, R 429), ("_law_is_whole", 746, R 436), ("_law_is_size", 753, R 443), ("_law_read", 759, R 448), ("_law_laid", 769, R 455), ("law", 775, R 460)]) ::
  (nat_lit 15, tu []) ::
  (nat_lit 17, tu [S "k" 190]) ::
  (nat_lit 18, tu []) ::
  (nat_lit 20, fi "code" [S "_wall" 187, S "_wall" 188, S "/claim/cut.py" 189, .int 1 0, .int 1 0, .int 0 0, .int 0 0, .int 3 0, R 15, .bool true, .int 181 0, R 16, .none, R 17, R 18, R 19, .int 191 0, .int 1 0, S "/claim/cut.py" 192]) ::
  (nat_lit 21, fo (FA 0) "_wall" .none (S "__main__" 164) (R 20)) ::
  (nat_lit 22, tu [.type "Exception"]) ::
  (nat_lit 29, tu [.int (-1) 209]) ::
  (nat_lit 30, tu []) ::
  (nat_lit 32, tu [S "self" 213, S "what" 214, S "at" 215]) ::
  (nat_lit 33, tu []) ::
  (nat_lit 35, fi "code" [S "__init__" 210, S "PaperError.__init__" 211, S "/claim/cut.py" 212, .int 7 0, .int 3 0, .int 0 0, .int 0 0, .int 3 0, R 30, .bool true, .int 181 0, R 31, .none, R 32, R 33, R 34, .int 216 0, .int 7 0, S "/claim/cut.py" 217]) ::
  (nat_lit 36, fo (FB 2 0) "PaperError.__init__" (R 29) (S "paperhold.errors" 194) (R 35)) ::
  (nat_lit 37, tu []) ::
  (nat_lit 39, tu [S "self" 222]) ::
  (nat_lit 40, tu []) ::
  (nat_lit 42, fi "code" [S "told" 219, S "PaperError.told" 220, S "/claim/cut.py" 221, .int 12 0, .int 1 0, .int 0 0, .int 0 0, .int 3 0, R 37, .bool true, .int 181 0, R 38, .none, R 39, R 40, R 41, .int 223 0, .int 12 0, S "/claim/cut.py" 224]) ::
  (nat_lit 43, fo (FB 2 1) "PaperError.told" .none (S "paperhold.errors" 194) (R 42)) ::
  (nat_lit 44, tu [S "at" 226, S "what" 227]) ::
  (nat_lit 45, di P (.type "dict") 3 [("__module__", 203, S "paperhold.errors" 194), ("__firstlineno__", 207, .int 5 206), ("__init__", 218, R 36), ("told", 225, R 43), ("__static_attributes__", 228, R 44), ("__weakref__", 230, R 47), ("__doc__", 231, .none)]) ::
  (nat_lit 46, cl "PaperError" [.type "Exception"] [R 46, .type "Exception", .type "BaseException", .type "object"] 45 "PaperError" [R 59] [some (R 22), none, some (S "PaperError" 196), some (S "PaperError" 204), some (.builtin "Exception.__new__"), some (.bool true)]) ::
  (nat_lit 47, fi "getset_descriptor" [S "__weakref__" 229, R 46, .builtin "ExceptionGroup.__weakref__", .none]) ::
  (nat_lit 50, tu [R 46]) ::
  (nat_lit 57, tu []) ::
  (nat_lit 58, di P (.type "dict") 2 [("__module__", 243, S "paperhold.errors" 194), ("__firstlineno__", 247, .int 14 246), ("__static_attributes__", 248, R 57), ("__doc__", 249, .none)]) ::
  (nat_lit 59, cl "FontFault" [R 46] [R 59, R 46, .type "Exception", .type "BaseException", .type "object"] 58 "FontFault" [] [some (R 50), none, some (S "FontFault" 236), some (S "FontFault" 244), some (.builtin "Exception.__new__"), some (.bool true)]) ::
  (nat_lit 69, tu []) ::
  (nat_lit 71, tu [S "self" 269, S "top" 270, S "places" 271]) ::
  (nat_lit 72, tu []) ::
  (nat_lit 74, fi "code" [S "__init__" 266, S "Decimal.__init__" 267, S "/claim/cut.py" 268, .int 19 0, .int 3 0, .int 0 0, .int 0 0, .int 3 0, R 69, .bool true, .int 181 0, R 70, .none, R 71, R 72, R 73, .int 272 0, .int 19 0, S "/claim/cut.py" 273]) ::
  (nat_lit 75, fo (FB 5 0) "Decimal.__init__" .none (S "paperhold.decimals" 252) (R 74)) ::
  (nat_lit 76, tu []) ::
  (nat_lit 78, tu [S "self" 278, S "other" 279]) ::
  (nat_lit 79, tu []) ::
  (nat_lit 81, fi "code" [S "plus" 275, S "Decimal.plus" 276, S "/claim/cut.py" 277, .int 26 0, .int 2 0, .int 0 0, .int 0 0, .int 3 0, R 76, .bool true, .int 181 0, R 77, .none, R 78, R 79, R 80, .int 280 0, .int 26 0, S "/claim/cut.py" 281]) ::
  (nat_lit 82, fo (FB 5 1) "Decimal.plus" .none (S "paperhold.decimals" 252) (R 81)) ::
  (nat_lit 83, tu []) ::
  (nat_lit 85, tu [S "self" 286, S "other" 287]) ::
  (nat_lit 86, tu []) ::
  (nat_lit 88, fi "code" [S "minus" 283, S "Decimal.minus" 284, S "/claim/cut.py" 285, .int 29 0, .int 2 0, .int 0 0, .int 0 0, .int 3 0, R 83, .bool true, .int 181 0, R 84, .none, R 85, R 86, R 87, .int 288 0, .int 29 0, S "/claim/cut.py" 289]) ::
  (nat_lit 89, fo (FB 5 2) "Decimal.minus" .none (S "paperhold.decimals" 252) (R 88)) ::
  (nat_lit 90, tu []) ::
  (nat_lit 92, tu [S "self" 294, S "other" 295]) ::
  (nat_lit 93, tu []) ::
  (nat_lit 95, fi "code" [S "times" 291, S "Decimal.times" 292, S "/claim/cut.py" 293, .int 32 0, .int 2 0, .int 0 0, .int 0 0, .int 3 0, R 90, .bool true, .int 181 0, R 91, .none, R 92, R 93, R 94, .int 296 0, .int 32 0, S "/claim/cut.py" 297]) ::
  (nat_lit 96, fo (FB 5 3) "Decimal.times" .none (S "paperhold.decimals" 252) (R 95)) ::
  (nat_lit 97, tu []) ::
  (nat_lit 99, tu [S "self" 302]) ::
  (nat_lit 100, tu []) ::
  (nat_lit 102, fi "code" [S "negated" 299, S "Decimal.negated" 300, S "/claim/cut.py" 301, .int 35 0, .int 1 0, .int 0 0, .int 0 0, .int 3 0, R 97, .bool true, .int 181 0, R 98, .none, R 99, R 100, R 101, .int 303 0, .int 35 0, S "/claim/cut.py" 304]) ::
  (nat_lit 103, fo (FB 5 4) "Decimal.negated" .none (S "paperhold.decimals" 252) (R 102)) ::
  (nat_lit 104, tu []) ::
  (nat_lit 106, tu [S "self" 309, S "other" 310, S "one" 311, S "two" 312, S "places" 313]) ::
  (nat_lit 107, tu []) ::
  (nat_lit 109, fi "code" [S "compared" 306, S "Decimal.compared" 307, S "/claim/cut.py" 308, .int 38 0, .int 2 0, .int 0 0, .int 0 0, .int 3 0, R 104, .bool true, .int 181 0, R 105, .none, R 106, R 107, R 108, .int 314 0, .int 38 0, S "/claim/cut.py" 315]) ::
  (nat_lit 110, fo (FB 5 5) "Decimal.compared" .none (S "paperhold.decimals" 252) (R 109)) ::
  (nat_lit 111, tu []) ::
  (nat_lit 113, tu [S "self" 320]) ::
  (nat_lit 114, tu []) ::
  (nat_lit 116, fi "code" [S "is_whole" 317, S "Decimal.is_whole" 318, S "/claim/cut.py" 319, .int 42 0, .int 1 0, .int 0 0, .int 0 0, .int 3 0, R 111, .bool true, .int 181 0, R 112, .none, R 113, R 114, R 115, .int 321 0, .int 42 0, S "/claim/cut.py" 322]) ::
  (nat_lit 117, fo (FB 5 6) "Decimal.is_whole" .none (S "paperhold.decimals" 252) (R 116)) ::
  (nat_lit 118, tu []) ::
  (nat_lit 120, tu [S "self" 327]) ::
  (nat_lit 121, tu []) ::
  (nat_lit 123, fi "code" [S "floor" 324, S "Decimal.floor" 325, S "/claim/cut.py" 326, .int 45 0, .int 1 0, .int 0 0, .int 0 0, .int 3 0, R 118, .bool true, .int 181 0, R 119, .none, R 120, R 121, R 122, .int 328 0, .int 45 0, S "/claim/cut.py" 329]) ::
  (nat_lit 124, fo (FB 5 7) "Decimal.floor" .none (S "paperhold.decimals" 252) (R 123)) ::
  (nat_lit 125, tu []) ::
  (nat_lit 127, tu [S "self" 334, S "places" 335]) ::
  (nat_lit 128, tu []) ::
  (nat_lit 130, fi "code" [S "rounded" 331, S "Decimal.rounded" 332, S "/claim/cut.py" 333, .int 48 0, .int 2 0, .int 0 0, .int 0 0, .int 3 0, R 125, .bool true, .int 181 0, R 126, .none, R 127, R 128, R 129, .int 336 0, .int 48 0, S "/claim/cut.py" 337]) ::
  (nat_lit 131, fo (FB 5 8) "Decimal.rounded" .none (S "paperhold.decimals" 252) (R 130)) ::
  (nat_lit 132, tu []) ::
  (nat_lit 134, tu [S "self" 342]) ::
  (nat_lit 135, tu []) ::
  (nat_lit 137, fi "code" [S "told" 339, S "Decimal.told" 340, S "/claim/cut.py" 341, .int 51 0, .int 1 0, .int 0 0, .int 0 0, .int 3 0, R 132, .bool true, .int 181 0, R 133, .none, R 134, R 135, R 136, .int 343 0, .int 51 0, S "/claim/cut.py" 344]) ::
  (nat_lit 138, fo (FB 5 9) "Decimal.told" .none (S "paperhold.decimals" 252) (R 137)) ::
  (nat_lit 139, tu []) ::
  (nat_lit 141, tu [S "self" 349, S "numerals" 350]) ::
  (nat_lit 142, tu []) ::
  (nat_lit 144, fi "code" [S "text" 346, S "Decimal.text" 347, S "/claim/cut.py" 348, .int 54 0, .int 1 0, .int 0 0, .int 0 0, .int 3 0, R 139, .bool true, .int 181 0, R 140, .none, R 141, R 142, R 143, .int 351 0, .int 54 0, S "/claim/cut.py" 352]) ::
  (nat_lit 145, fo (FB 5 10) "Decimal.text" .none (S "paperhold.decimals" 252) (R 144)) ::
  (nat_lit 146, tu []) ::
  (nat_lit 148, tu [S "self" 357]) ::
  (nat_lit 149, tu []) ::
  (nat_lit 151, fi "code" [S "least_text" 354, S "Decimal.least_text" 355, S "/claim/cut.py" 356, .int 61 0, .int 1 0, .int 0 0, .int 0 0, .int 3 0, R 146, .bool true, .int 181 0, R 147, .none, R 148, R 149, R 150, .int 358 0, .int 61 0, S "/claim/cut.py" 359]) ::
  (nat_lit 152, fo (FB 5 11) "Decimal.least_text" .none (S "paperhold.decimals" 252) (R 151)) ::
  (nat_lit 153, tu [S "places" 361, S "top" 362]) ::
  (nat_lit 154, di P (.type "dict") 4 [("__module__", 261, S "paperhold.decimals" 252), ("__firstlineno__", 265, .int 17 264), ("__init__", 274, R 75), ("plus", 282, R 82), ("minus", 290, R 89), ("times", 298, R 96), ("negated", 305, R 103), ("compared", 316, R 110), ("is_whole", 323, R 117), ("floor", 330, R 124), ("rounded", 338, R 131), ("told", 345, R 138), ("text", 353, R 145), ("least_text", 360, R 152), ("__static_attributes__", 363, R 153), ("__dict__", 365, R 156), ("__weakref__", 367, R 157), ("__doc__", 368, .none)]) ::
  (nat_lit 155, cl "Decimal" [.type "object"] [R 155, .type "object"] 154 "Decimal" [] [none, none, some (S "Decimal" 254), some (S "Decimal" 262), some (.builtin "object.__new__"), some (.bool true)]) ::
  (nat_lit 156, fi "getset_descriptor" [S "__dict__" 364, R 155, .builtin "function.__dict__", .builtin "function.__dict__#set"]) ::
  (nat_lit 157, fi "getset_descriptor" [S "__weakref__" 366, R 155, .builtin "ExceptionGroup.__weakref__", .none]) ::
  (nat_lit 160, tu []) ::
  (nat_lit 162, tu [S "number" 374]) ::
  (nat_lit 163, tu []) ::
  (nat_lit 165, fi "code" [S "sign_text" 371, S "sign_text" 372, S "/claim/cut.py" 373, .int 63 0, .int 1 0, .int 0 0, .int 0 0, .int 3 0, R 160, .bool true, .int 181 0, R 161, .none, R 162, R 163, R 164, .int 375 0, .int 63 0, S "/claim/cut.py" 376]) ::
  (nat_lit 166, fo (FA 6) "sign_text" .none (S "paperhold.decimals" 252) (R 165)) ::
  (nat_lit 167, tu []) ::
  (nat_lit 169, tu [S "number" 381]) ::
  (nat_lit 170, tu []) ::
  (nat_lit 172, fi "code" [S "sign_of" 378, S "sign_of" 379, S "/claim/cut.py" 380, .int 65 0, .int 1 0, .int 0 0, .int 0 0, .int 3 0, R 167, .bool true, .int 181 0, R 168, .none, R 169, R 170, R 171, .int 382 0, .int 65 0, S "/claim/cut.py" 383]) ::
  (nat_lit 173, fo (FA 7) "sign_of" .none (S "paperhold.decimals" 252) (R 172)) ::
  (nat_lit 174, tu []) ::
  (nat_lit 176, tu [S "value" 388]) ::
  (nat_lit 177, tu []) ::
  (nat_lit 179, fi "code" [S "decimal_of" 385, S "decimal_of" 386, S "/claim/cut.py" 387, .int 69 0, .int 1 0, .int 0 0, .int 0 0, .int 3 0, R 174, .bool true, .int 181 0, R 175, .none, R 176, R 177, R 178, .int 389 0, .int 69 0, S "/claim/cut.py" 390]) ::
  (nat_lit 180, fo (FA 8) "decimal_of" .none (S "paperhold.decimals" 252) (R 179)) ::
  (nat_lit 181, tu []) ::
  (nat_lit 183, tu [S "one" 395, S "other" 396, S "first" 397, S "second" 398, S "places" 399]) ::
  (nat_lit 184, tu []) ::
  (nat_lit 186, fi "code" [S "at_one_scale" 392, S "at_one_scale" 393, S "/claim/cut.py" 394, .int 75 0, .int 2 0, .int 0 0, .int 0 0, .int 3 0, R 181, .bool true, .int 181 0, R 182, .none, R 183, R 184, R 185, .int 400 0, .int 75 0, S "/claim/cut.py" 401]) ::
  (nat_lit 187, fo (FA 9) "at_one_scale" .none (S "paperhold.decimals" 252) (R 186)) ::
  (nat_lit 188, tu []) ::
  (nat_lit 190, tu [S "one" 406, S "other" 407]) ::
  (nat_lit 191, tu []) ::
  (nat_lit 193, fi "code" [S "same_number" 403, S "same_number" 404, S "/claim/cut.py" 405, .int 80 0, .int 2 0, .int 0 0, .int 0 0, .int 3 0, R 188, .bool true, .int 181 0, R 189, .none, R 190, R 191, R 192, .int 408 0, .int 80 0, S "/claim/cut.py" 409]) ::
  (nat_lit 194, fo (FA 10) "same_number" .none (S "paperhold.decimals" 252) (R 193)) ::
  (nat_lit 202, tu []) ::
  (nat_lit 204, tu [S "self" 430, S "text" 431]) ::
  (nat_lit 205, tu []) ::
  (nat_lit 207, fi "code" [S "__init__" 427, S "Name.__init__" 428, S "/claim/cut.py" 429, .int 86 0, .int 2 0, .int 0 0, .int 0 0, .int 3 0, R 202, .bool true, .int 181 0, R 203, .none, R 204, R 205, R 206, .int 432 0, .int 86 0, S "/claim/cut.py" 433]) ::
  (nat_lit 208, fo (FB 13 0) "Name.__init__" .none (S "paperhold.objects" 411) (R 207)) ::
  (nat_lit 209, tu [S "text" 435]) ::
  (nat_lit 210, di P (.type "dict") 4 [("__module__", 422, S "paperhold.objects" 411), ("__firstlineno__", 426, .int 84 425), ("__init__", 434, R 208), ("__static_attributes__", 436, R 209), ("__dict__", 438, R 212), ("__weakref__", 440, R 213), ("__doc__", 441, .none)]) ::
  (nat_lit 211, cl "Name" [.type "object"] [R 211, .type "object"] 210 "Name" [] [none, none, some (S "Name" 415), some (S "Name" 423), some (.builtin "object.__new__"), some (.bool true)]) ::
  (nat_lit 212, fi "getset_descriptor" [S "__dict__" 437, R 211, .builtin "function.__dict__", .builtin "function.__dict__#set"]) ::
  (nat_lit 213, fi "getset_descriptor" [S "__weakref__" 439, R 211, .builtin "ExceptionGroup.__weakref__", .none]) ::
  (nat_lit 223, tu [.bool false]) ::
  (nat_lit 224, tu []) ::
  (nat_lit 226, tu [S "self" 459, S "octets" 460, S "is_hex" 461]) ::
  (nat_lit 227, tu []) ::
  (nat_lit 229, fi "code" [S "__init__" 456, S "String.__init__" 457, S "/claim/cut.py" 458, .int 90 0, .int 3 0, .int 0 0, .int 0 0, .int 3 0, R 224, .bool true, .int 181 0, R 225, .none, R 226, R 227, R 228, .int 462 0, .int 90 0, S "/claim/cut.py" 463]) ::
  (nat_lit 230, fo (FB 14 0) "String.__init__" (R 223) (S "paperhold.objects" 411) (R 229)) ::
  (nat_lit 231, tu [S "is_hex" 465, S "octets" 466]) ::
  (nat_lit 232, di P (.type "dict") 4 [("__module__", 451, S "paperhold.objects" 411), ("__firstlineno__", 455, .int 88 454), ("__init__", 464, R 230), ("__static_attributes__", 467, R 231), ("__dict__", 469, R 234), ("__weakref__", 471, R 235), ("__doc__", 472, .none)]) ::
  (nat_lit 233, cl "String" [.type "object"] [R 233, .type "object"] 232 "String" [] [none, none, some (S "String" 444), some (S "String" 452), some (.builtin "object.__new__"), some (.bool true)]) ::
  (nat_lit 234, fi "getset_descriptor" [S "__dict__" 468, R 233, .builtin "function.__dict__", .builtin "function.__dict__#set"]) ::
  (nat_lit 235, fi "getset_descriptor" [S "__weakref__" 470, R 233, .builtin "ExceptionGroup.__weakref__", .none]) ::
  (nat_lit 245, tu []) ::
  (nat_lit 247, tu [S "self" 490, S "head" 491, S "octets" 492]) ::
  (nat_lit 248, tu []) ::
  (nat_lit 250, fi "code" [S "__init__" 487, S "Stream.__init__" 488, S "/claim/cut.py" 489, .int 95 0, .int 3 0, .int 0 0, .int 0 0, .int 3 0, R 245, .bool true, .int 181 0, R 246, .none, R 247, R 248, R 249, .int 493 0, .int 95 0, S "/claim/cut.py" 494]) ::
  (nat_lit 251, fo (FB 15 0) "Stream.__init__" .none (S "paperhold.objects" 411) (R 250)) ::
  (nat_lit 252, tu [S "head" 496, S "octets" 497]) ::
  (nat_lit 253, di P (.type "dict") 4 [("__module__", 482, S "paperhold.objects" 411), ("__firstlineno__", 486, .int 93 485), ("__init__", 495, R 251), ("__static_attributes__", 498, R 252), ("__dict__", 500, R 255), ("__weakref__", 502, R 256), ("__doc__", 503, .none)]) ::
  (nat_lit 254, cl "Stream" [.type "object"] [R 254, .type "object"] 253 "Stream" [] [none, none, some (S "Stream" 475), some (S "Stream" 483), some (.builtin "object.__new__"), some (.bool true)]) ::
  (nat_lit 255, fi "getset_descriptor" [S "__dict__" 499, R 254, .builtin "function.__dict__", .builtin "function.__dict__#set"]) ::
  (nat_lit 256, fi "getset_descriptor" [S "__weakref__" 501, R 254, .builtin "ExceptionGroup.__weakref__", .none]) ::
  (nat_lit 266, tu []) ::
  (nat_lit 268, tu [S "self" 521, S "number" 522, S "generation" 523]) ::
  (nat_lit 269, tu []) ::
  (nat_lit 271, fi "code" [S "__init__" 518, S "Reference.__init__" 519, S "/claim/cut.py" 520, .int 100 0, .int 3 0, .int 0 0, .int 0 0, .int 3 0, R 266, .bool true, .int 181 0, R 267, .none, R 268, R 269, R 270, .int 524 0, .int 100 0, S "/claim/cut.py" 525]) ::
  (nat_lit 272, fo (FB 16 0) "Reference.__init__" .none (S "paperhold.objects" 411) (R 271)) ::
  (nat_lit 273, tu []) ::
  (nat_lit 275, tu [S "self" 530]) ::
  (nat_lit 276, tu []) ::
  (nat_lit 278, fi "code" [S "pair" 527, S "Reference.pair" 528, S "/claim/cut.py" 529, .int 104 0, .int 1 0, .int 0 0, .int 0 0, .int 3 0, R 273, .bool true, .int 181 0, R 274, .none, R 275, R 276, R 277, .int 531 0, .int 104 0, S "/claim/cut.py" 532]) ::
  (nat_lit 279, fo (FB 16 1) "Reference.pair" .none (S "paperhold.objects" 411) (R 278)) ::
  (nat_lit 280, tu [S "generation" 534, S "number" 535]) ::
  (nat_lit 281, di P (.type "dict") 4 [("__module__", 513, S "paperhold.objects" 411), ("__firstlineno__", 517, .int 98 516), ("__init__", 526, R 272), ("pair", 533, R 279), ("__static_attributes__", 536, R 280), ("__dict__", 538, R 283), ("__weakref__", 540, R 284), ("__doc__", 541, .none)]) ::
  (nat_lit 282, cl "Reference" [.type "object"] [R 282, .type "object"] 281 "Reference" [] [none, none, some (S "Reference" 506), some (S "Reference" 514), some (.builtin "object.__new__"), some (.bool true)]) ::
  (nat_lit 283, fi "getset_descriptor" [S "__dict__" 537, R 282, .builtin "function.__dict__", .builtin "function.__dict__#set"]) ::
  (nat_lit 284, fi "getset_descriptor" [S "__weakref__" 539, R 282, .builtin "ExceptionGroup.__weakref__", .none]) ::
  (nat_lit 287, tu []) ::
  (nat_lit 289, tu [S "value" 547]) ::
  (nat_lit 290, tu []) ::
  (nat_lit 292, fi "code" [S "kind_of" 544, S "kind_of" 545, S "/claim/cut.py" 546, .int 106 0, .int 1 0, .int 0 0, .int 0 0, .int 3 0, R 287, .bool true, .int 181 0, R 288, .none, R 289, R 290, R 291, .int 548 0, .int 106 0, S "/claim/cut.py" 549]) ::
  (nat_lit 293, fo (FA 17) "kind_of" .none (S "paperhold.objects" 411) (R 292)) ::
  (nat_lit 294, tu []) ::
  (nat_lit 296, tu [S "value" 554]) ::
  (nat_lit 297, tu []) ::
  (nat_lit 299, fi "code" [S "is_number" 551, S "is_number" 552, S "/claim/cut.py" 553, .int 128 0, .int 1 0, .int 0 0, .int 0 0, .int 3 0, R 294, .bool true, .int 181 0, R 295, .none, R 296, R 297, R 298, .int 555 0, .int 128 0, S "/claim/cut.py" 556]) ::
  (nat_lit 300, fo (FA 18) "is_number" .none (S "paperhold.objects" 411) (R 299)) ::
  (nat_lit 308, tu [.none, .none]) ::
  (nat_lit 309, tu []) ::
  (nat_lit 311, tu [S "self" 573, S "table" 574, S "trailer" 575]) ::
  (nat_lit 312, tu []) ::
  (nat_lit 314, fi "code" [S "__init__" 570, S "Lookup.__init__" 571, S "/claim/cut.py" 572, .int 132 0, .int 3 0, .int 0 0, .int 0 0, .int 3 0, R 309, .bool true, .int 181 0, R 310, .none, R 311, R 312, R 313, .int 576 0, .int 132 0, S "/claim/cut.py" 577]) ::
  (nat_lit 315, fo (FB 19 0) "Lookup.__init__" (R 308) (S "paperhold.objects" 411) (R 314)) ::
  (nat_lit 316, tu []) ::
  (nat_lit 318, tu [S "self" 582, S "value" 583, S "here" 584, S "hop" 585, S "generation" 586, S "found" 587]) ::
  (nat_lit 319, tu []) ::
  (nat_lit 321, fi "code" [S "fetch" 579, S "Lookup.fetch" 580, S "/claim/cut.py" 581, .int 136 0, .int 2 0, .int 0 0, .int 0 0, .int 3 0, R 316, .bool true, .int 181 0, R 317, .none, R 318, R 319, R 320, .int 588 0, .int 136 0, S "/claim/cut.py" 589]) ::
  (nat_lit 322, fo (FB 19 1) "Lookup.fetch" .none (S "paperhold.objects" 411) (R 321)) ::
  (nat_lit 323, tu []) ::
  (nat_lit 325, tu [S "self" 594, S "head" 595, S "key" 596]) ::
  (nat_lit 326, tu []) ::
  (nat_lit 328, fi "code" [S "get" 591, S "Lookup.get" 592, S "/claim/cut.py" 593, .int 147 0, .int 3 0, .int 0 0, .int 0 0, .int 3 0, R 323, .bool true, .int 181 0, R 324, .none, R 325, R 326, R 327, .int 597 0, .int 147 0, S "/claim/cut.py" 598]) ::
  (nat_lit 329, fo (FB 19 2) "Lookup.get" .none (S "paperhold.objects" 411) (R 328)) ::
  (nat_lit 330, tu [S "table" 600, S "trailer" 601]) ::
  (nat_lit 331, di P (.type "dict") 4 [("__module__", 565, S "paperhold.objects" 411), ("__firstlineno__", 569, .int 130 568), ("__init__", 578, R 315), ("fetch", 590, R 322), ("get", 599, R 329), ("__static_attributes__", 602, R 330), ("__dict__", 604, R 333), ("__weakref__", 606, R 334), ("__doc__", 607, .none)]) ::
  (nat_lit 332, cl "Lookup" [.type "object"] [R 332, .type "object"] 331 "Lookup" [] [none, none, some (S "Lookup" 558), some (S "Lookup" 566), some (.builtin "object.__new__"), some (.bool true)]) ::
  (nat_lit 333, fi "getset_descriptor" [S "__dict__" 603, R 332, .builtin "function.__dict__", .builtin "function.__dict__#set"]) ::
  (nat_lit 334, fi "getset_descriptor" [S "__weakref__" 605, R 332, .builtin "ExceptionGroup.__weakref__", .none]) ::
  (nat_lit 337, tu []) ::
  (nat_lit 339, tu [S "value" 617]) ::
  (nat_lit 340, tu []) ::
  (nat_lit 342, fi "code" [S "number_of" 614, S "number_of" 615, S "/claim/cut.py" 616, .int 151 0, .int 1 0, .int 0 0, .int 0 0, .int 3 0, R 337, .bool true, .int 181 0, R 338, .none, R 339, R 340, R 341, .int 618 0, .int 151 0, S "/claim/cut.py" 619]) ::
  (nat_lit 343, fo (FA 22) "number_of" .none (S "paperhold.fonts" 610) (R 342)) ::
  (nat_lit 344, tu []) ::
  (nat_lit 346, tu [S "value" 624]) ::
  (nat_lit 347, tu []) ::
  (nat_lit 349, fi "code" [S "whole_of" 621, S "whole_of" 622, S "/claim/cut.py" 623, .int 155 0, .int 1 0, .int 0 0, .int 0 0, .int 3 0, R 344, .bool true, .int 181 0, R 345, .none, R 346, R 347, R 348, .int 625 0, .int 155 0, S "/claim/cut.py" 626]) ::
  (nat_lit 350, fo (FA 23) "whole_of" .none (S "paperhold.fonts" 610) (R 349)) ::
  (nat_lit 351, tu []) ::
  (nat_lit 354, fi "code" [S "wide_rows" 628, S "wide_rows" 629, S "/claim/cut.py" 630, .int 159 0, .int 2 0, .int 0 0, .int 0 0, .int 3 0, R 351, .bool true, .int 181 0, R 352, .none, .none, .none, R 353, .int 631 0, .int 159 0, S "/claim/cut.py" 632]) ::
  (nat_lit 355, fo (FA 24) "wide_rows" .none (S "paperhold.fonts" 610) (R 354)) ::
  (nat_lit 356, tu []) ::
  (nat_lit 358, tu [S "rows" 637, S "code" 638, S "default" 639, S "first" 640, S "last" 641, S "widths" 642]) ::
  (nat_lit 359, tu []) ::
  (nat_lit 361, fi "code" [S "width_in" 634, S "width_in" 635, S "/claim/cut.py" 636, .int 174 0, .int 3 0, .int 0 0, .int 0 0, .int 3 0, R 356, .bool true, .int 181 0, R 357, .none, R 358, R 359, R 360, .int 643 0, .int 174 0, S "/claim/cut.py" 644]) ::
  (nat_lit 362, fo (FA 25) "width_in" .none (S "paperhold.fonts" 610) (R 361)) ::
  (nat_lit 363, tu []) ::
  (nat_lit 365, tu [S "run" 649, S "place" 650, S "count" 651]) ::
  (nat_lit 366, tu []) ::
  (nat_lit 368, fi "code" [S "alike_count" 646, S "alike_count" 647, S "/claim/cut.py" 648, .int 179 0, .int 2 0, .int 0 0, .int 0 0, .int 3 0, R 363, .bool true, .int 181 0, R 364, .none, R 365, R 366, R 367, .int 652 0, .int 179 0, S "/claim/cut.py" 653]) ::
  (nat_lit 369, fo (FA 26) "alike_count" .none (S "paperhold.fonts" 610) (R 368)) ::
  (nat_lit 370, tu []) ::
  (nat_lit 373, fi "code" [S "listed_parts" 655, S "listed_parts" 656, S "/claim/cut.py" 657, .int 184 0, .int 1 0, .int 0 0, .int 0 0, .int 3 0, R 370, .bool true, .int 181 0, R 371, .none, .none, .none, R 372, .int 658 0, .int 184 0, S "/claim/cut.py" 659]) ::
  (nat_lit 374, fo (FA 27) "listed_parts" .none (S "paperhold.fonts" 610) (R 373)) ::
  (nat_lit 375, tu []) ::
  (nat_lit 377, tu [S "run" 664, S "parts" 665, S "listed" 666, S "place" 667, S "count" 668]) ::
  (nat_lit 378, tu []) ::
  (nat_lit 380, fi "code" [S "run_parts" 661, S "run_parts" 662, S "/claim/cut.py" 663, .int 186 0, .int 1 0, .int 0 0, .int 0 0, .int 3 0, R 375, .bool true, .int 181 0, R 376, .none, R 377, R 378, R 379, .int 669 0, .int 186 0, S "/claim/cut.py" 670]) ::
  (nat_lit 381, fo (FA 28) "run_parts" .none (S "paperhold.fonts" 610) (R 380)) ::
  (nat_lit 382, tu []) ::
  (nat_lit 384, tu [S "widths" 675, S "default" 676, S "parts" 677, S "run" 678, S "code" 679]) ::
  (nat_lit 385, tu []) ::
  (nat_lit 387, fi "code" [S "wide_written" 672, S "wide_written" 673, S "/claim/cut.py" 674, .int 200 0, .int 2 0, .int 0 0, .int 0 0, .int 3 0, R 382, .bool true, .int 181 0, R 383, .none, R 384, R 385, R 386, .int 680 0, .int 200 0, S "/claim/cut.py" 681]) ::
  (nat_lit 388, fo (FA 29) "wide_written" .none (S "paperhold.fonts" 610) (R 387)) ::
  (nat_lit 389, tu []) ::
  (nat_lit 392, fi "code" [S "_law_pot" 685, S "_law_pot" 686, S "/claim/cut.py" 687, .int 212 0, .int 1 0, .int 0 0, .int 0 0, .int 3 0, R 389, .bool true, .int 181 0, R 390, .none, .none, .none, R 391, .int 688 0, .int 212 0, S "/claim/cut.py" 689]) ::
  (nat_lit 393, fo (FA 31) "_law_pot" .none (S "law_nn0211_01" 683) (R 392)) ::
  (nat_lit 394, tu []) ::
  (nat_lit 396, tu [S "pot" 694, S "limit" 695, S "place" 696, S "spot" 697, S "here" 698]) ::
  (nat_lit 397, tu []) ::
  (nat_lit 399, fi "code" [S "_law_draw" 691, S "_law_draw" 692, S "/claim/cut.py" 693, .int 218 0, .int 2 0, .int 0 0, .int 0 0, .int 3 0, R 394, .bool true, .int 181 0, R 395, .none, R 396, R 397, R 398, .int 699 0, .int 218 0, S "/claim/cut.py" 700]) ::
  (nat_lit 400, fo (FA 32) "_law_draw" .none (S "law_nn0211_01" 683) (R 399)) ::
  (nat_lit 401, tu []) ::
  (nat_lit 403, tu [S "pot" 705, S "here" 706]) ::
  (nat_lit 404, tu []) ::
  (nat_lit 406, fi "code" [S "_law_width" 702, S "_law_width" 703, S "/claim/cut.py" 704, .int 229 0, .int 1 0, .int 0 0, .int 0 0, .int 3 0, R 401, .bool true, .int 181 0, R 402, .none, R 403, R 404, R 405, .int 707 0, .int 229 0, S "/claim/cut.py" 708]) ::
  (nat_lit 407, fo (FA 33) "_law_width" .none (S "law_nn0211_01" 683) (R 406)) ::
  (nat_lit 408, tu []) ::
  (nat_lit 410, tu [S "pot" 713, S "widths" 714, S "code" 715, S "turn" 716, S "width" 717, S "step" 718]) ::
  (nat_lit 411, tu []) ::
  (nat_lit 413, fi "code" [S "_law_plain_widths" 710, S "_law_plain_widths" 711, S "/claim/cut.py" 712, .int 234 0, .int 1 0, .int 0 0, .int 0 0, .int 3 0, R 408, .bool true, .int 181 0, R 409, .none, R 410, R 411, R 412, .int 719 0, .int 234 0, S "/claim/cut.py" 720]) ::
  (nat_lit 414, fo (FA 34) "_law_plain_widths" .none (S "law_nn0211_01" 683) (R 413)) ::
  (nat_lit 415, tu []) ::
  (nat_lit 418, fi "code" [S "_law_opened" 722, S "_law_opened" 723, S "/claim/cut.py" 724, .int 244 0, .int 1 0, .int 0 0, .int 0 0, .int 3 0, R 415, .bool true, .int 181 0, R 416, .none, .none, .none, R 417, .int 725 0, .int 244 0, S "/claim/cut.py" 726]) ::
  (nat_lit 419, fo (FA 35) "_law_opened" .none (S "law_nn0211_01" 683) (R 418)) ::
  (nat_lit 420, tu []) ::
  (nat_lit 423, fi "code" [S "_law_is_written" 728, S "_law_is_written" 729, S "/claim/cut.py" 730, .int 261 0, .int 2 0, .int 0 0, .int 0 0, .int 3 0, R 420, .bool true, .int 181 0, R 421, .none, .none, .none, R 422, .int 731 0, .int 261 0, S "/claim/cut.py" 732]) ::
  (nat_lit 424, fo (FA 36) "_law_is_written" .none (S "law_nn0211_01" 683) (R 423)) ::
  (nat_lit 425, tu []) ::
  (nat_lit 428, fi "code" [S "_law_drawn" 734, S "_law_drawn" 735, S "/claim/cut.py" 736, .int 267 0, .int 1 0, .int 0 0, .int 0 0, .int 3 0, R 425, .bool true, .int 181 0, R 426, .none, .none, .none, R 427, .int 737 0, .int 267 0, S "/claim/cut.py" 738]) ::
  (nat_lit 429, fo (FA 37) "_law_drawn" .none (S "law_nn0211_01" 683) (R 428)) ::
  (nat_lit 430, tu []) ::
  (nat_lit 432, tu [S "value" 743]) ::
  (nat_lit 433, tu []) ::
  (nat_lit 435, fi "code" [S "_law_is_whole" 740, S "_law_is_whole" 741, S "/claim/cut.py" 742, .int 287 0, .int 1 0, .int 0 0, .int 0 0, .int 3 0, R 430, .bool true, .int 181 0, R 431, .none, R 432, R 433, R 434, .int 744 0, .int 287 0, S "/claim/cut.py" 745]) ::
  (nat_lit 436, fo (FA 38) "_law_is_whole" .none (S "law_nn0211_01" 683) (R 435)) ::
  (nat_lit 437, tu []) ::
  (nat_lit 439, tu [S "value" 750]) ::
  (nat_lit 440, tu []) ::
  (nat_lit 442, fi "code" [S "_law_is_size" 747, S "_law_is_size" 748, S "/claim/cut.py" 749, .int 289 0, .int 1 0, .int 0 0, .int 0 0, .int 3 0, R 437, .bool true, .int 181 0, R 438, .none, R 439, R 440, R 441, .int 751 0, .int 289 0, S "/claim/cut.py" 752]) ::
  (nat_lit 443, fo (FA 39) "_law_is_size" .none (S "law_nn0211_01" 683) (R 442)) ::
  (nat_lit 444, tu []) ::
  (nat_lit 447, fi "code" [S "_law_read" 754, S "_law_read" 755, S "/claim/cut.py" 756, .int 291 0, .int 1 0, .int 0 0, .int 0 0, .int 3 0, R 444, .bool true, .int 181 0, R 445, .none, .none, .none, R 446, .int 757 0, .int 291 0, S "/claim/cut.py" 758]) ::
  (nat_lit 448, fo (FA 40) "_law_read" .none (S "law_nn0211_01" 683) (R 447)) ::
  (nat_lit 449, tu []) ::
  (nat_lit 451, tu [S "pot" 763, S "shelf" 764, S "value" 765, S "number" 766]) ::
  (nat_lit 452, tu []) ::
  (nat_lit 454, fi "code" [S "_law_laid" 760, S "_law_laid" 761, S "/claim/cut.py" 762, .int 308 0, .int 3 0, .int 0 0, .int 0 0, .int 3 0, R 449, .bool true, .int 181 0, R 450, .none, R 451, R 452, R 453, .int 767 0, .int 308 0, S "/claim/cut.py" 768]) ::
  (nat_lit 455, fo (FA 41) "_law_laid" .none (S "law_nn0211_01" 683) (R 454)) ::
  (nat_lit 456, tu []) ::
  (nat_lit 459, fi "code" [S "law" 770, S "law" 771, S "/claim/cut.py" 772, .int 314 0, .int 1 0, .int 0 0, .int 0 0, .int 3 0, R 456, .bool true, .int 181 0, R 457, .none, .none, .none, R 458, .int 773 0, .int 314 0, S "/claim/cut.py" 774]) ::
  (nat_lit 460, fo (FA 42) "law" .none (S "law_nn0211_01" 683) (R 459)) ::
  []
noncomputable abbrev asK : List Addr := [2, 3, 15, 17, 18, 20, 21, 22, 29, 30, 32, 33, 35, 36, 37, 39, 40, 42, 43, 44, 45, 46, 47, 50, 57, 58, 59, 69, 71, 72, 74, 75, 76, 78, 79, 81, 82, 83, 85, 86, 88, 89, 90, 92, 93, 95, 96, 97, 99, 100, 102, 103, 104, 106, 107, 109, 110, 111, 113, 114, 116, 117, 118, 120, 121, 123, 124, 125, 127, 128, 130, 131, 132, 134, 135, 137, 138, 139, 141, 142, 144, 145, 146, 148, 149, 151, 152, 153, 154, 155, 156, 157, 160, 162, 163, 165, 166, 167, 169, 170, 172, 173, 174, 176, 177, 179, 180, 181, 183, 184, 186, 187, 188, 190, 191, 193, 194, 202, 204, 205, 207, 208, 209, 210, 211, 212, 213, 223, 224, 226, 227, 229, 230, 231, 232, 233, 234, 235, 245, 247, 248, 250, 251, 252, 253, 254, 255, 256, 266, 268, 269, 271, 272, 273, 275, 276, 278, 279, 280, 281, 282, 283, 284, 287, 289, 290, 292, 293, 294, 296, 297, 299, 300, 308, 309, 311, 312, 314, 315, 316, 318, 319, 321, 322, 323, 325, 326, 328, 329, 330, 331, 332, 333, 334, 337, 339, 340, 342, 343, 344, 346, 347, 349, 350, 351, 354, 355, 356, 358, 359, 361, 362, 363, 365, 366, 368, 369, 370, 373, 374, 375, 377, 378, 380, 381, 382, 384, 385, 387, 388, 389, 392, 393, 394, 396, 397, 399, 400, 401, 403, 404, 406, 407, 408, 410, 411, 413, 414, 415, 418, 419, 420, 423, 424, 425, 428, 429, 430, 432, 433, 435, 436, 437, 439, 440, 442, 443, 444, 447, 448, 449, 451, 452, 454, 455, 456, 459, 460]
theorem hd.as_eq (P : Params) : asK = (hd.heap_39 P).map (·.1) := by kernel_rfl
noncomputable abbrev hd.hook : Hook := kHook hd.heap_39 asK hd.as_eq
noncomputable abbrev loo : List Str := [Str.ofString "PaperError"]
noncomputable abbrev hd.Xt (s : Shared) : Bool := xlAt hd.view_39 [] s && recOk PySem.Challenge.rw_nn0211_01.row.records s
theorem om1 {α β:Nat}:β<α→α≠β := by exact Nat.ne_of_gt
theorem om2 {α β:Nat}:α<β→α≠β := by exact Nat.ne_of_lt
theorem om3 {α β γ:Nat}:β<γ→γ<α→α≠β := by lia
theorem om4 {α:Nat}:α≤20→α≤1000 := by intro h; exact Nat.le_trans h (by decide)
theorem om5 {α β:Nat}:(((α+1)+1)+1)<β→(α+1)≠β := by intro h; exact Nat.ne_of_lt (Nat.lt_of_le_of_lt (Nat.le_succ_of_le (Nat.le_succ _)) h)
theorem om6 {α β:Nat}:(α+3)<β→α<β := by intro h; exact Nat.lt_of_le_of_lt (Nat.le_add_right _ _) h
theorem om7 {α:Nat}:(0:Int)≤(α:Int) := by exact Int.natCast_nonneg _
theorem om8 {α β:Nat}:β≠α→α≠β := by exact Ne.symm
theorem om9 {α β:Nat}:(((α+1)+1)+1)<β→((α+1)+1)≠β := by intro h; exact Nat.ne_of_lt (Nat.lt_of_le_of_lt (Nat.le_succ _) h)
theorem om10 {α β:Nat}:(α+2)<β→α<β := by intro h; exact Nat.lt_of_le_of_lt (Nat.le_add_right _ _) h
theorem om11 {α β:Nat}:(((α+1)+1)+1)<β→(((α+1)+1)+1)≠β := by exact Nat.ne_of_lt
theorem om12 {α β:Nat}:(((β+1)+1)+1)<α→α≠((β+1)+1) := by intro h; exact Nat.ne_of_gt (Nat.lt_of_le_of_lt (Nat.le_succ _) h)
theorem om13 {α β:Nat}:(α+3)<β→((α+1)+1)<β := by exact Nat.le_of_lt
theorem om14 {α β:Nat}:(α+(8*3))<β→((α+3)+(8*1))<β := by lia
theorem om15 {α:Nat}:α≤15→α≤1000 := by intro h; exact Nat.le_trans h (by decide)
theorem om16 {α β:Nat}:α=β→β≤100→α≤1000 := by intro h g; exact Nat.le_trans (Nat.le_of_eq h) (Nat.le_trans g (by decide))
theorem om17 {α:Nat}:α≤100→α≤1000 := by intro h; exact Nat.le_trans h (by decide)
theorem om18 {χ:Int}:0≤χ→(-(2^62))≤χ := by intro h; exact Int.le_trans (by decide) h
theorem om19 {α:Nat}:(0:Int)≤((α:Int)+(1:Int)) := by exact Int.natCast_nonneg _
theorem om20 {α β:Nat}:(α+(8*4))<β→((α+3)+(8*1))<β := by lia
theorem om21 {α β:Nat}:(α+4)<β→((α+1)+1)<β := by intro h; exact Nat.lt_of_le_of_lt (Nat.add_le_add_left (m := _) (by decide : 2 ≤ _) _) h
theorem om22 {α β:Nat}:(α+4)<β→α<β := by intro h; exact Nat.lt_of_le_of_lt (Nat.le_add_right _ _) h
theorem om23 {α β:Nat}:(α+5)<β→α<β := by intro h; exact Nat.lt_of_le_of_lt (Nat.le_add_right _ _) h
theorem om24 {α β:Nat}:(α+5)<β→((α+1)+1)<β := by lia
theorem om25 {α:Nat}:α≤1000→α≤16777216 := by intro h; exact Nat.le_trans h (by decide)
theorem om26 {α:Nat}:1≤(α+1) := by exact Nat.succ_pos _
theorem om27 {α β:Nat}:(((β+1)+1)+1)<α→α≠(β+1) := by intro h; exact Nat.ne_of_gt (Nat.lt_of_le_of_lt (Nat.le_succ_of_le (Nat.le_succ _)) h)
theorem om28 {α β:Nat}:β<α→((α+1)-(β+1))<((α+1)-β) := by exact fun h => Nat.sub_lt_sub_left (Nat.lt_succ_of_lt h) (Nat.lt_succ_self _)
theorem om29 {α β:Nat}:β<α→(α+1)≠β := by lia
theorem om30 {α β:Nat}:(α+(8*3))<β→((α+3)+(8*2))<β := by lia
theorem om31 {α β:Nat}:(α+(8*4))<β→((α+3)+(8*3))<β := by lia
theorem om32 {α:Nat}{χ:Int}:(max (0:Int) (min χ (α:Int)))=(((min χ.toNat α):Nat):Int) := by cases χ with | ofNat n => (show max 0 (min (n:Int) (α:Int)) = ((min n α : Nat) : Int)); (rcases Nat.le_total n α with h | h); (rw [Int.min_eq_left (Int.ofNat_le.mpr h), Nat.min_eq_left h]; exact Int.max_eq_right (Int.natCast_nonneg n)); (rw [Int.min_eq_right (Int.ofNat_le.mpr h), Nat.min_eq_right h]; exact Int.max_eq_right (Int.natCast_nonneg α)) | negSucc n => exact (Int.max_eq_left (Int.le_trans (Int.min_le_left _ _) (Int.le_of_lt (Int.negSucc_lt_zero n)))).trans (by show (0:Int) = ((min 0 α : Nat) : Int); rw [Nat.zero_min]; rfl)
theorem om33 {χ:Int}:0≤χ→¬(χ<0) := by exact Int.not_lt.mpr
theorem om34 {α:Nat}{χ:Int}:χ<(α:Int)→α≤(1000:Nat)→χ<((2:Int)^63) := by lia
theorem om35 {α:Nat}{χ:Int}:(0:Int)≤χ→χ<(α:Int)→χ.toNat<α := by lia
theorem om36 {α:Nat}{χ:Int}:(χ+(((α+(1:Nat)):Nat):Int))=((χ+(1:Int))+(α:Int)) := by omega
theorem om37 {α:Nat}:(0:Int)≤((0:Int)+(α:Int)) := by exact Int.natCast_nonneg _
theorem om38 {α:Nat}:(α+1)≠((α+1)+1) := by lia
theorem om39 {α:Nat}:(-((2:Int)^62))≤(α:Int) := by exact Int.natCast_nonneg _
theorem om40 {α:Nat}:((α+1)+1)≠(α+1) := by lia
theorem om41 {α:Nat}:(((α+1)+1)+1)≠(α+1) := by lia
theorem om42 {α:Nat}:(((α+1)+1)+1)≠((α+1)+1) := by lia
theorem om43 {α β:Nat}:α=(β+2)→0<α := by intro h; subst h; exact Nat.succ_pos _
theorem om44 {α:Nat}:α≤6→α≤1000 := by intro h; exact Nat.le_trans h (by decide)
theorem om45 {α β:Nat}:α=(β+(2:Nat))→¬((α:Int)<(2:Int)) := by lia
theorem om46 {χ ψ:Int}:ψ<χ→¬(χ≤ψ) := by exact Int.not_le.mpr
theorem om47 {α β:Nat}:(α+2)<β→(α+1)<β := by exact Nat.le_of_lt
theorem om48 {χ:Int}:0<χ→χ≠0 := by lia
theorem om49 {χ:Int}:0≤χ→(-(2^64))<χ := by intro h; exact Int.le_trans (by decide) h
theorem om50 {α:Nat}:α≤40→α<(2^62) := by omega
theorem om51 {α:Nat}:(0:Nat)<α→(0:Int)<(α:Int) := by omega
theorem om52 {χ:Int}:χ<20001→(χ-5000)≤1000000 := by lia
theorem om53 {χ:Int}:(χ+3)<1000000→((χ+1)+1)<1000000 := by lia
theorem om54 {χ:Int}:0≤χ→0≤(1+χ) := by lia
theorem om55 {χ:Int}:χ<2→(1+χ)≤2 := by lia
theorem om56 {χ:Int}:(((χ+1)+1)+1)≤(χ+3) := by lia
theorem om57 {χ:Int}:(χ+1)≤(χ+3) := by lia
theorem om58 {χ:Int}:(χ+3)<1000000→(χ+1)<1000000 := by lia
theorem om59 {χ:Int}:0≤χ→(-1000000)≤(χ-5000) := by lia
theorem om60 {χ:Int}:(χ+3)<1000000→χ<1000000 := by lia
theorem om61 {χ:Int}:(-1000000)≤χ→(-(2^64))<χ := by lia
theorem om62 {χ:Int}:χ≤1000000→χ<(2^64) := by intro h; exact Int.lt_of_le_of_lt h (by decide)
theorem om63 {α:Nat}{χ:Int}:(0:Int)≤χ→(χ+(α:Int)).toNat=(χ.toNat+α) := by exact fun h => Int.toNat_add h (Int.natCast_nonneg α)
theorem om64 {α β:Nat}:(α+8)<β→α<β := by intro h; exact Nat.lt_of_le_of_lt (Nat.le_add_right _ _) h
theorem om65 {α β:Nat}:α<(β+1)→¬(α=β)→α<β := by omega
theorem om66 {α β γ:Nat}:(α+(β+1))=γ→((α+1)+β)=γ := by lia
theorem om67 {α β γ:Nat}:(α+(γ+1))=β→α<β := by lia
theorem om68 {α β:Nat}:(α+3)<β→(α+1)<β := by intro h; exact Nat.lt_of_le_of_lt (Nat.add_le_add_left (by decide) _) h
theorem om69 {α β:Nat}{χ:Int}:(χ+(((α+β):Nat):Int))=((χ+(α:Int))+(β:Int)) := by lia
theorem om70 {α β γ:Nat}:(γ+α)≤β→(min α (β-γ))=α := by lia
theorem om71 {α β:Nat}:(α+3)<β→(α+2)<β := by exact Nat.le_of_lt
theorem om72 {α β:Nat}:((α:Int)+(β:Int))=(((α+β):Nat):Int) := by lia
theorem om73 {α β:Nat}:(α+(8*10))<β→((α+3)+(8*2))<β := by lia
theorem om74 {α β:Nat}:(α+10)<β→((α+1)+2)<β := by lia
theorem om75 {α β γ:Nat}:γ=β→(α:Int)<(γ:Int)→(α:Int)<(β:Int) := by omega
theorem om76 {α β:Nat}:(α+10)<β→α<β := by intro h; exact Nat.lt_of_le_of_lt (Nat.le_add_right _ _) h
theorem om77 {α β:Nat}:α≤β→(α+1)≤(β+1) := by lia
theorem om78 {α:Nat}:(α+14)<1000→((α+1)+10)<1000 := by lia
theorem om79 {α β γ δ ε:Nat}:α=β→β≤γ→γ<δ→ε=δ→ε≤30→α≤1000 := by lia
theorem om80 {α β γ:Nat}:(α+(7*β))≤(7*γ)→(α+(7*(β+1)))≤(7*(γ+1)) := by lia
theorem om81 {α:Nat}:α≤30→α<64 := by omega
theorem om82 {α:Nat}:(α+(8*14))<9900→((α+3)+(8*10))<9900 := by lia
theorem om83 {α:Nat}{χ:Int}:((χ+(1:Int))+(α:Int))=(χ+(((α+(1:Nat)):Nat):Int)) := by lia
theorem om84 {α:Nat}:((α+1)+1)≤1000→α≤1000 := by lia
theorem om85 {α β:Nat}:(((β+1)+1)+1)<α→α≠(((β+1)+1)+1) := by exact Nat.ne_of_gt
theorem om86 {α:Nat}{χ:Int}:(χ+((0:Int)+(α:Int)))=(χ+(α:Int)) := by lia
theorem om87 {α β γ δ:Nat}{P0:Prop}:(γ≠α∧(β≠α∧((((δ+1)+1)+1)≠α∧(((δ+1)+1)≠α∧((δ+1)≠α∧P0)))))→α≠β := by exact fun h => h.2.1.symm
theorem om88 {α β:Nat}:α=β→β≤(100:Nat)→(α:Int)<((2:Int)^62) := by lia
theorem om89 {α:Nat}:α≤(α:Int).toNat := by lia
theorem om90 {α:Nat}:(((α+1)+1)+1)≤1000→α≤1000 := by lia
theorem om91 {α β γ:Nat}:γ≤β→α≤(γ+1)→α≤(β+1) := by lia
theorem om92 {α β γ:Nat}:α≤β→β<γ→γ≤1000→α≤1000 := by lia
theorem om93 {α:Nat}:(α+16)<1000→((α+1)+6)<1000 := by lia
theorem om94 {α β:Nat}:α=β→β≤30→α≤16777216 := by intro h g; exact Nat.le_trans (Nat.le_of_eq h) (Nat.le_trans g (by decide))
theorem om95 {α:Nat}:(α+(8*16))<9900→((α+3)+(8*6))<9900 := by lia
theorem om96 {χ ψ:Int}:(χ+1)≤ψ→χ<ψ := by intros; assumption
theorem om97 {χ:Int}:χ<5→χ<(2^62) := by intro h; exact Int.lt_of_lt_of_le h (by decide)
theorem om98 {χ:Int}:(χ+100)<1000000→χ<1000000 := by lia
theorem om99 {α:Nat}{χ ψ:Int}:(χ+(100:Int))<(1000000:Int)→α<ψ.toNat→ψ<(5:Int)→((((χ+(1:Int))+((20:Int)*(α:Int)))+(1:Int))+(1:Int))<(1000000:Int) := by omega
theorem om100 {α:Nat}:α≤500→α≤16777216 := by intro h; exact Nat.le_trans h (by decide)
theorem om101 {α β:Nat}:(β+α)≤20→α≤1000 := by lia
theorem om102 {α β γ δ:Nat}:α<γ→(γ+1)<δ→δ<β→α<β := by lia
theorem om103 {α β:Nat}:(α+β)≤20→α≤1000 := by lia
theorem om104 {α:Nat}:α≤6→α≤16777216 := by intro h; exact Nat.le_trans h (by decide)
theorem om105 {α β:Nat}:α≤β→¬(α<β)→α=β := by lia
theorem om106 {χ ψ:Int}:ψ≤χ→0≤(χ-ψ) := by lia
theorem om107 {α β:Nat}:((β+1)+1)≠α→α≠((β+1)+1) := by exact Ne.symm
theorem om108 {α β:Nat}:(β+1)≠α→α≠(β+1) := by exact Ne.symm
theorem om109 {α β:Nat}:α=β→β<20→α≤1000 := by lia
theorem om110 {χ ψ:Int}:χ≤ψ→ψ=0→χ.toNat=(0:Nat) := by lia
theorem om111 {χ:Int}:(-1000000)≤χ→(-1000000)≤(χ/10) := by lia
theorem om112 {α β:Nat}:(α+1)<β→α<β := by exact Nat.le_of_lt
theorem om113 {χ ψ:Int}:(min ψ (0:Int))≤χ→(0:Int)≤ψ→χ=((χ.toNat:Nat):Int) := by lia
theorem om114 {χ:Int}:χ≤1000000→(χ/10)≤1000000 := by lia
theorem om115 {χ ψ:Int}:χ≤ψ→ψ≤2→χ.toNat≤(2:Nat) := by lia
theorem om116 {α:Nat}:(0:Nat)<α→(α:Int)≠(0:Int) := by omega
theorem om117 {χ ψ:Int}:χ≤ψ→(χ+1)≤(ψ+1) := by lia
theorem om118 {χ:Int}:χ<2147483647→χ<(2^64) := by intro h; exact Int.lt_of_lt_of_le h (by decide)
theorem om119 {α:Nat}:α≤(40:Nat)→(α:Int)≤((2:Int)^63) := by lia
theorem om120 {χ:Int}:0≤χ→0≤(χ+1) := by lia
theorem om121 {χ:Int}:0<χ→χ<100000→χ.natAbs<(1073741824:Nat) := by exact fun h g => Int.ofNat_lt.mp (by rw [Int.natAbs_of_nonneg (Int.le_of_lt h)]; exact Int.lt_trans g (by decide))
theorem om122 {α:Nat}:(α+1)<1000→α<1000 := by exact Nat.le_of_lt
theorem om123 {χ ψ:Int}:χ≤ψ→ψ<1000000→χ<(2^64) := by omega
theorem om124 {χ:Int}:0≤χ→(-1000000)≤(500+(50*(χ/2))) := by lia
theorem om125 {χ:Int}:χ<12→(500+(50*(χ/2)))≤1000000 := by lia
theorem om126 {χ:Int}:¬((0:Int)<χ)→(0:Int)=((χ.toNat:Nat):Int) := by lia
theorem om127 {χ ψ:Int}:¬(ψ<χ)→(0:Int)=(((χ-ψ).toNat:Nat):Int) := by lia
theorem om128 {χ ψ:Int}:(-(2^62))≤χ→χ<(2^62)→(-(2^62))≤ψ→ψ<(2^62)→(((-9223372036854775808)≤χ∧χ<9223372036854775808)∧((-9223372036854775808)≤ψ∧ψ<9223372036854775808)) := by exact fun a b c d => ⟨⟨Int.le_trans (by decide) a, Int.lt_trans b (by decide)⟩, Int.le_trans (by decide) c, Int.lt_trans d (by decide)⟩
theorem om129 {χ:Int}:(0:Int)<χ→(χ-(0:Int))=((χ.toNat:Nat):Int) := by lia
theorem om130 {χ ψ:Int}:ψ<χ→(χ-ψ)=(((χ-ψ).toNat:Nat):Int) := by lia
theorem om131 {χ ψ:Int}:(-(2^62))≤χ→ψ<(2^62)→χ<ψ→(((((-9223372036854775808)≤χ∧χ<9223372036854775808)∧((-9223372036854775808)≤ψ∧ψ<9223372036854775808))∧((-9223372036854775808)≤(ψ-χ)∧(ψ-χ)<9223372036854775808))∧((ψ-χ)=0∨((-9223372036854775808)≤ψ∧ψ<9223372036854775808))) := by exact fun h g k => ⟨⟨⟨⟨Int.le_trans (by decide) h, Int.lt_trans (Int.lt_trans k g) (by decide)⟩, Int.le_trans (by decide) (Int.le_trans h (Int.le_of_lt k)), Int.lt_trans g (by decide)⟩, Int.le_trans (by decide) (Int.sub_nonneg_of_le (Int.le_of_lt k)), by lia⟩, .inr ⟨Int.le_trans (by decide) (Int.le_trans h (Int.le_of_lt k)), Int.lt_trans g (by decide)⟩⟩
theorem om132 {α:Nat}:α≤1000→α≤(16777216+1) := by intro h; exact Nat.le_trans h (by decide)
theorem om133 {α β:Nat}:((if (α:Int)<(β:Int) then (β:Int) else (α:Int))-(α:Int)).toNat=((max α β)-α) := by split; (rename_i h; rw [Nat.max_eq_right (Nat.le_of_lt (Int.ofNat_lt.mp h))]; exact Int.toNat_sub β α); (rename_i h; rw [Nat.max_eq_left (Nat.le_of_not_lt fun g => h (Int.ofNat_lt.mpr g))]; exact Int.toNat_sub α α)
theorem om134 {α β:Nat}:(((max α β):Nat):Int)=(if (α:Int)<(β:Int) then (β:Int) else (α:Int)) := by split; (rename_i h; rw [Nat.max_eq_right (Nat.le_of_lt (Int.ofNat_lt.mp h))]); (rename_i h; rw [Nat.max_eq_left (Nat.le_of_not_lt fun g => h (Int.ofNat_lt.mpr g))])
theorem om135 {α β:Nat}:(0:Int)≤((if (α:Int)>(β:Int) then (α:Int) else (β:Int))-(β:Int)) := by lia
theorem om136 {α β:Nat}:α≤(2:Nat)→((if (α:Int)>(β:Int) then (α:Int) else (β:Int))-(β:Int))≤(1000000:Int) := by lia
theorem om137 {α β:Nat}:(0:Int)≤((if (α:Int)>(β:Int) then (α:Int) else (β:Int))-(α:Int)) := by lia
theorem om138 {α β:Nat}:β≤(2:Nat)→((if (α:Int)>(β:Int) then (α:Int) else (β:Int))-(α:Int))≤(1000000:Int) := by lia
theorem om139 {α β:Nat}:((if (α:Int)<(β:Int) then (β:Int) else (α:Int))-(β:Int)).toNat=((max β α)-β) := by rw [Nat.max_comm]; split; (rename_i h; rw [Nat.max_eq_right (Nat.le_of_lt (Int.ofNat_lt.mp h))]; exact Int.toNat_sub β β); (rename_i h; rw [Nat.max_eq_left (Nat.le_of_not_lt fun g => h (Int.ofNat_lt.mpr g))]; exact Int.toNat_sub α β)
theorem om140 {α β:Nat}:(α+(8*5))<β→((α+3)+(8*1))<β := by lia
theorem om141 {α β:Nat}:(α+6)<β→α<β := by intro h; exact Nat.lt_of_le_of_lt (Nat.le_add_right _ _) h
theorem om142 {α β:Nat}:(α+(8*6))<β→((α+3)+(8*5))<β := by lia
theorem om143 {α β:Nat}:(α+6)<β→((α+1)+3)<β := by lia
theorem om144 {α β:Nat}:(α+(8*6))<β→((α+3)+(8*3))<β := by lia
theorem om145 {α β:Nat}:(α+(8*5))<β→((α+3)+(8*4))<β := by lia
theorem om146 {χ:Int}:0≤χ→χ<300→(0≤χ∧χ<300) := by lia
theorem om147 {χ:Int}:0≤χ→χ<3→(χ=0∨(χ=1∨χ=2)) := by lia
theorem om148 {α:Nat}{χ:Int}:(α-χ.toNat)≤(α-χ.toNat) := by lia
theorem om149 {α β:Nat}:(α+β)≤10000→(α+β)≤16777216 := by intro h; exact Nat.le_trans h (by decide)
theorem om150 {α:Nat}{χ ψ:Int}:α≤ψ.toNat→(α-χ.toNat)≤(ψ.toNat-χ.toNat) := by exact fun h => Nat.sub_le_sub_right h _
theorem om151 {α:Nat}:α≤(1000:Nat)→(α:Int)<((2:Int)^63) := by omega
theorem om152 {α:Nat}:α≤1000→(α+1)≤16777216 := by lia
theorem om153 {α:Nat}:0<α→(α-1)<α := by lia
theorem om154 {α:Nat}:(0:Nat)<α→(-(α:Int))≤(-(1:Int)) := by lia
theorem om155 {α:Nat}:((-(1:Int))+(α:Int)).toNat=(α-(1:Nat)) := by rw [Int.add_comm]; exact Int.toNat_sub α 1
theorem om156 {α β:Nat}:(α+8)<β→((α+1)+6)<β := by exact Nat.le_of_lt
theorem om157 {α:Nat}:α<1→α=0 := by lia
theorem om158 {α β γ:Nat}{χ:Int}:γ=α→¬((χ+(β:Int))<(γ:Int))→α≤(χ+(β:Int)).toNat := by lia
theorem om159 {α β:Nat}:α=β→β≤1000→α≤1000 := by intro h g; exact Nat.le_trans (Nat.le_of_eq h) (Nat.le_trans g (by decide))
theorem om160 {α:Nat}{χ:Int}:(0:Int)≤χ→χ<(α:Int)→(χ.toNat+(1:Nat))≤α := by lia
theorem om161 {α β γ:Nat}{χ:Int}:γ=β→(χ+(α:Int))<(γ:Int)→(χ+(α:Int))<(β:Int) := by lia
theorem om162 {α β γ:Nat}{χ:Int}:(0:Int)≤χ→γ=β→(χ+(α:Int))<(γ:Int)→(χ.toNat+(α+(1:Nat)))≤β := by lia
theorem om163 {α β:Nat}:(α+(8*8))<β→((α+3)+(8*6))<β := by lia
theorem om164 {α:Nat}{χ:Int}:(0:Int)≤χ→(0:Int)≤(χ+(α:Int)) := by lia
theorem om165 {α β γ:Nat}{χ:Int}:γ=α→(χ+(β:Int))<(γ:Int)→(0:Int)≤χ→(α-(β+(1:Nat)))<(α-β) := by exact fun e h g => Nat.sub_lt_sub_left (e ▸ Int.ofNat_lt.mp (Int.lt_of_le_of_lt (Int.le_add_of_nonneg_left g) h)) (Nat.lt_succ_self _)
theorem om166 {α β:Nat}:¬(0<α)→α≠(β+1) := by lia
theorem om167 {α β:Nat}:β=α→(0:Nat)<β→(0:Int)<(α:Int) := by omega
theorem om168 {α β:Nat}:α=β→β≤100→α≤16777216 := by intro h g; exact Nat.le_trans (Nat.le_of_eq h) (Nat.le_trans g (by decide))
theorem om169 {α β:Nat}:β≤α→((α-β)+β)=α := by exact Nat.sub_add_cancel
theorem om170 {α β:Nat}:(β+1)=α→α≤(β+1) := by lia
theorem om171 {α β:Nat}:(α+1)=β→((α+1)-β)=0 := by exact fun h => h ▸ Nat.sub_self _
theorem om172 {α:Nat}:1≤α→(α-1)<α := by omega
theorem om173 {α β γ:Nat}:(α+γ)≤β→1≤γ→α<β := by lia
theorem om174 {α β:Nat}{χ:Int}:(1:Nat)≤β→(((χ+((((α+β)-(1:Nat)):Nat):Int))-(χ+(α:Int)))+(1:Int)).toNat=β := by exact fun h => by cases β with | zero => exact absurd h (by decide) | succ k => (show ((χ + ((α + k : Nat) : Int)) - (χ + (α : Int)) + 1).toNat = k + 1; rw [Int.add_sub_add_left, Int.natCast_add, Int.add_comm (α : Int), Int.add_sub_cancel]; rfl)
theorem om175 {α:Nat}:α<4→α≤3 := by lia
theorem om176 {α β γ:Nat}:α≤γ→(α+β)≤(γ+β) := by lia
theorem om177 {α β γ:Nat}:((α+β)-(γ+β))=(α-γ) := by lia
theorem om178 {α β:Nat}:(((α:Int)+(β:Int))-(1:Int)).toNat=((α+β)-(1:Nat)) := by exact Int.toNat_sub (α + β) 1
theorem om179 {α β:Nat}{χ ψ ω:Int}:χ=(ω+(α:Int))→ψ=(ω+((((α+β)-(1:Nat)):Nat):Int))→(1:Nat)≤β→χ≤ψ := by exact fun a b h => by rw [a, b]; exact Int.add_le_add_left (Int.ofNat_le.mpr (Nat.le_sub_of_add_le (Nat.add_le_add_left h _))) _
theorem om180 {α:Nat}:0=α→¬(1≤α) := by lia
theorem om181 {α β:Nat}:(α+1)=β→α<β := by lia
theorem om182 {α β:Nat}:(β+1)=α→(α-1)=β := by exact fun h => h ▸ rfl
theorem om183 {α β γ:Nat}:(β+γ)≤α→(4:Int)≤(γ:Int)→(α-(β+γ))<(α-β) := by exact fun h g => Nat.sub_lt_sub_left (Nat.lt_of_lt_of_le (Nat.lt_add_of_pos_right (Nat.lt_of_lt_of_le (by decide) (Int.ofNat_le.mp g))) h) (Nat.lt_add_of_pos_right (Nat.lt_of_lt_of_le (by decide) (Int.ofNat_le.mp g)))
theorem om184 {α β γ:Nat}:α≤β→γ=β→¬((α:Int)<(γ:Int))→α=β := by lia
theorem om185 {α β γ:Nat}:α≤β→β≤γ→γ≤100→α≤100 := by lia
theorem om186 {α β γ:Nat}:α≤(5*β)→α≤(5*(β+γ)) := by lia
theorem om187 {α:Nat}:¬((4:Int)≤(α:Int))→α<(4:Nat) := by omega
theorem om188 {α β:Nat}:(((α:Int)+(β:Int)).toNat-(α:Int).toNat)=β := by exact Nat.add_sub_cancel_left α β
theorem om189 {α β γ δ ε:Nat}:β≤(2:Nat)→α≤((5:Nat)*γ)→(γ:Int)<(δ:Int)→δ=ε→ε≤(100:Nat)→((α+β)+((((0:Nat)+(1:Nat))+(1:Nat))+(1:Nat)))≤(10000:Nat) := by lia
theorem om190 {α β γ:Nat}:(β+γ)≤α→1≤γ→(α-(β+γ))<(α-β) := by omega
theorem om191 {α β:Nat}:(0:Int)≤((α:Int)+(β:Int)) := by exact Int.natCast_nonneg _
theorem om192 {α β:Nat}:(α+10)<β→((α+1)+8)<β := by exact Nat.le_of_lt
theorem om193 {α β γ δ:Nat}:α≤β→(β:Int)<(γ:Int)→γ=δ→δ≤(100:Nat)→α≤(100:Nat) := by lia
theorem om194 {α β:Nat}:(4:Int)≤(β:Int)→(0:Int)≤(((α:Int)+(β:Int))-(1:Int)) := by lia
theorem om195 {α β γ δ:Nat}:α≤((5:Nat)*γ)→(4:Int)≤(δ:Int)→β≤(2:Nat)→((α+β)+((((0:Nat)+(1:Nat))+(1:Nat))+(1:Nat)))≤((5:Nat)*(γ+δ)) := by lia
theorem om196 {α β γ δ ε ζ:Nat}:α=ε→ε≤β→(β+γ)≤ζ→ζ≤(100:Nat)→(α+(min (((β:Int)+(γ:Int)).toNat-(β:Int).toNat) (δ-(β:Int).toNat)))≤(10000:Nat) := by exact fun h1 h2 h3 h4 => Nat.le_trans (Nat.add_le_add (h1 ▸ h2) (Nat.le_trans (Nat.min_le_left _ _) (Nat.le_of_eq (om188 (α := β) (β := γ))))) (Nat.le_trans h3 (Nat.le_trans h4 (by decide)))
theorem om197 {α β γ:Nat}:(α+β)≤γ→(((α:Int)+(β:Int))-(1:Int))<(γ:Int) := by lia
theorem om198 {α β γ δ:Nat}:β≤2→α≤(5*γ)→γ≤δ→δ≤100→(α+β)≤10000 := by lia
theorem om199 {α β γ δ ε:Nat}:β≤(2:Nat)→α≤((5:Nat)*γ)→(γ:Int)<(δ:Int)→δ=ε→ε≤(100:Nat)→(α+β)≤(10000:Nat) := by lia
theorem om200 {α β γ:Nat}:β≤2→α≤(5*γ)→(α+β)≤((5*γ)+2) := by lia
theorem om201 {α β:Nat}:(α+(8*10))<β→((α+3)+(8*8))<β := by lia
theorem om202 {α:Nat}:α<64→α≤16777216 := by lia
theorem om203 {α β:Nat}{χ ψ ω:Int}:ω=(χ-(1:Int))→α≥β→(α-β)=(0:Nat)→β≠(0:Nat)→ω=(ψ+(((β-(1:Nat)):Nat):Int))→χ=(ψ+(α:Int)) := by exact fun a b c d e => by rw [Nat.le_antisymm (Nat.le_of_sub_eq_zero c) b]; lia
theorem om204 {α β:Nat}:(α-β)>0→1≤(α-β) := by intros; assumption
theorem om205 {α β:Nat}:β=α→¬(0<β)→α=0 := by lia
theorem om206 {α β γ δ ε ζ:Nat}:β≤((5*γ)+2)→(α+(7*γ))≤(7*δ)→δ<ε→ζ=ε→ζ≤30→(α+β)≤10000 := by lia
theorem om207 {α:Nat}:¬(0<α)→α≤1000 := by omega
theorem om208 {α β:Nat}:(α+14)<β→α<β := by intro h; exact Nat.lt_of_le_of_lt (Nat.le_add_right _ _) h
theorem om209 {α β:Nat}:β=α→0<β→0<α := by lia
theorem om210 {α β γ δ ε:Nat}:β≤((5*γ)+2)→(α+(7*γ))≤(7*δ)→ε=δ→ε≤30→(α+β)≤1000 := by lia
theorem om211 {α β γ:Nat}:(α+(7*β))≤(7*γ)→(α+(7*β))≤(7*(γ+1)) := by lia
theorem om212 {α β γ δ ε:Nat}:(α+(7*δ))≤(7*γ)→β≤((5*δ)+2)→ε=δ→0<ε→((α+β)+(7*1))≤(7*(γ+1)) := by lia
theorem om213 {α β:Nat}:α≤β→α≤(β+1) := by lia
theorem om214 {α β γ δ ε:Nat}:β≤((5*γ)+2)→(α+(7*γ))≤(7*δ)→δ=ε→ε≤30→(α+β)≤10000 := by lia
theorem om215 {α β γ δ:Nat}:α≤β→β<γ→δ=γ→δ≤30→α≤100 := by lia
theorem om216 {α β γ δ:Nat}:α≤β→β<γ→δ=γ→δ≤30→α≤1000 := by lia
theorem om217 {α β γ:Nat}:γ=α→¬(0<γ)→(α+1)≤(β+1) := by lia
theorem om218 {α β γ:Nat}:α≤β→β=γ→γ≤30→α≤100 := by lia
theorem om219 {α:Nat}:(α+14)<1000→((α+1)+6)<1000 := by lia
theorem om220 {α:Nat}:(α+(8*14))<9900→((α+3)+(8*6))<9900 := by lia
theorem om221 {χ ψ:Int}:ψ≤χ→(0:Nat)<((χ-ψ)+1).toNat := by lia
theorem om223 {α:Nat}:3≤α→α=((α-3)+3) := by exact fun h => (Nat.sub_add_cancel h).symm
theorem om224 {α β:Nat}:α≤(3*β)→(((α+1)+1)+1)≤(3*(β+1)) := by omega
theorem om225 {α β:Nat}:(α+1)<(β+1)→α<β := by lia
theorem om226 {χ ψ:Int}:((χ-ψ)+1)=((χ+1)-ψ) := by lia
theorem om227 {α:Nat}:α=((0:Int)+(α:Int)).toNat := by lia
theorem om228 {α:Nat}:(α-(1:Nat))=(((0:Int)+(α:Int))-(1:Int)).toNat := by rw [Int.zero_add]; exact (Int.toNat_sub α 1).symm
theorem om229 {α:Nat}:(α+1)<((α+3)+1) := by omega
theorem om230 {α:Nat}:((α+3)+1)≤((α+3)+3) := by lia
theorem om231 {α:Nat}:((α+3)+1)≤((α+2)+3) := by lia
theorem om232 {α:Nat}:((α+3)+1)≤((α+1)+3) := by lia
theorem om233 {α:Nat}:(α+2)<((α+3)+1) := by lia
theorem om235 {χ ψ:Int}:ψ≤χ→(χ-ψ).toNat<((χ-ψ)+1).toNat := by exact fun h => Int.lt_toNat.mpr (by rw [Int.toNat_of_nonneg (Int.sub_nonneg_of_le h)]; exact Int.lt_add_one_of_le (Int.le_refl _))
theorem om236 {α:Nat}:α<3→(α+1)≤3 := by intro h; exact Nat.le_trans h (by decide)
theorem om237 {α β γ:Nat}:((α+1)+1)≤(β+(γ+1))→(α+1)≤(β+γ) := by lia
theorem om238 {α:Nat}:(0:Int)<((0:Int)+(α:Int))→(0:Nat)<α := by lia
theorem om239 {α β:Nat}:((β+1)+1)≤(α+1)→¬(α<(β+1)) := by exact Nat.not_le.mpr
theorem om240 {α:Nat}:(α+3)<((α+3)+1) := by lia
theorem om241 {α β:Nat}:α≤(3*β)→((α+1)+1)≤(3*(β+1)) := by lia
theorem om242 {α β:Nat}:α<β→α≠((β+1)+1) := by lia
theorem om243 {α β γ:Nat}:γ=β→α<(γ:Int).toNat→(((0:Int)+(α:Int))-(1:Int))<(β:Int) := by exact fun h g => h ▸ (Int.lt_of_lt_of_le (by rw [Int.zero_add]; exact Int.sub_one_lt_of_le (Int.le_refl _)) (Int.le_of_lt (Int.ofNat_lt.mpr g)))
theorem om244 {α:Nat}:((α:Int)+(1:Int))=(((α+(1:Nat)):Nat):Int) := by lia
theorem om245 {χ ψ:Int}:χ≤ψ→ψ<10000→χ<(2^62) := by lia
theorem om246 {α β γ:Nat}:(α+β)=γ→γ≤100→α≤100 := by lia
theorem om247 {α:Nat}:(((α+1)+1)+1)≤1000→(α+1)≤1000 := by intro h; exact Nat.lt_of_le_of_lt (Nat.le_add_right _ _) h
theorem om248 {α:Nat}:α≤((α+1)+1) := by lia
theorem om249 {α:Nat}:α≤(((α+1)+1)+1) := by lia
theorem om250 {α β γ:Nat}{χ ψ:Int}:α=γ→γ≤(100:Nat)→β=((χ+(1:Int))-ψ).toNat→((χ+(1:Int))-ψ).toNat≤(100:Nat)→(α+β)≤(10000:Nat) := by lia
theorem om251 {α β γ δ:Nat}{χ ψ:Int}:α=((χ-ψ)+(1:Int)).toNat→(β+(α+γ))=δ→δ≤(100:Nat)→((χ+(1:Int))-ψ).toNat≤(100:Nat) := by lia
theorem om252 {α β γ δ ε:Nat}:β=α→(γ+(β+δ))=ε→ε≤100→α≤100 := by lia
theorem om253 {α:Nat}:(0:Int)<((0:Int)+(α:Int))→(0:Int)≤(((0:Int)+(α:Int))-(1:Int)) := by lia
theorem om254 {α β:Nat}:α<β→α≠(β+1) := by lia
theorem om255 {α:Nat}:α≤(α+1) := by lia
theorem om256 {χ ψ:Int}:((χ+1)-ψ).toNat≤(100:Nat)→((χ+1)-ψ).toNat≤(16777216:Nat) := by intro h; exact Nat.le_trans h (by decide)
theorem om257 {χ:Int}:χ<10000→(χ+1)<(2^62) := by intro h; exact Int.lt_of_le_of_lt h (by decide)
theorem om258 {α β:Nat}:α=β→β≤(100:Nat)→(α:Int).toNat≤(16777216:Nat) := by intro h g; exact Nat.le_trans (Nat.le_of_eq h) (Nat.le_trans g (by decide))
theorem om259 {α:Nat}:(α+(1:Nat))≤(3:Nat)→((α:Int)+(1:Int))≤(3:Int) := by lia
theorem om260 {α β γ δ:Nat}:α=γ→γ≤100→β=δ→δ≤100→(α+β)≤10000 := by lia
theorem om261 {α:Nat}:(((α+1)+1)+1)≤1000→((α+1)+1)≤1000 := by exact Nat.le_of_lt
theorem om262 {α:Nat}:(α+1)≠(((α+1)+1)+1) := by lia
theorem om263 {χ ψ:Int}:ψ≤χ→0≤ψ→(-(2^62))≤(χ+1) := by lia
theorem om264 {α β:Nat}:α<(β:Int).toNat→((0:Int)+(α:Int))<(β:Int) := by lia
theorem om265 {α:Nat}:((α+1)+1)≠(((α+1)+1)+1) := by lia
theorem om266 {α:Nat}:((α+1)+1)≤1000→(α+1)≤1000 := by exact Nat.le_of_lt
theorem om267 {α β:Nat}:(α+10)<β→((α+1)+6)<β := by lia
theorem om268 {α β:Nat}:(α+(8*10))<β→((α+3)+(8*6))<β := by lia
theorem om269 {α β γ:Nat}:γ=β→α<(γ:Int).toNat→((0:Int)+(α:Int))<(β:Int) := by lia
theorem om270 {α β:Nat}:α<β→α≠(((β+1)+1)+1) := by lia
theorem om271 {α β γ:Nat}:γ≤β→α≤γ→α≤(β+1) := by omega
theorem om272 {α β γ:Nat}:(α+(8*γ))<β→10≤γ→((α+3)+64)<β := by lia
theorem om273 {α β γ:Nat}:α≤β→γ=β→γ≤30→α≤30 := by lia
theorem om274 {α β γ:Nat}:γ=β→α<γ→α<β := by lia
theorem om275 {α β:Nat}:(α+(8*16))<β→((α+3)+(8*10))<β := by lia
theorem om276 {χ:Int}:χ≤3→¬(3<χ) := by exact Int.not_lt.mpr
theorem om277 {α:Nat}:α≤30→α≤100 := by intro h; exact Nat.le_trans h (by decide)
theorem om278 {α β:Nat}:(α+16)<β→α<β := by intro h; exact Nat.lt_of_le_of_lt (Nat.le_add_right _ _) h
theorem om279 {α β:Nat}:(α+(8*16))<β→((α+3)+(8*14))<β := by lia
theorem om280 {α β:Nat}:(α+16)<β→((α+1)+14)<β := by exact Nat.le_of_lt
theorem om281 {α β:Nat}:α=β→β≤30→α≤1000 := by intro h g; exact Nat.le_trans (Nat.le_of_eq h) (Nat.le_trans g (by decide))
theorem om282 {α β γ δ:Nat}:γ=β→δ=γ→α<δ→α<β := by lia
theorem om283 {α β:Nat}:(α+16)<β→((α+1)+10)<β := by lia
theorem om284 {α:Nat}:α≤63→α≤16777216 := by lia
theorem om285 {α β:Nat}:α=(min (40:Int).toNat β)→α≤(16777216:Nat) := by lia
theorem om286 {α β:Nat}:α=(min (40:Int).toNat β)→α≤(40:Nat) := by lia
theorem om287 {α β:Nat}:α=β→β≤40→α≤40 := by intro h g; exact Nat.le_trans (Nat.le_of_eq h) (Nat.le_trans g (by decide))
theorem om288 {α:Nat}:(α+2)<1000→α<1000 := by intro h; exact Nat.lt_of_le_of_lt (Nat.le_add_right _ _) h
theorem om289 {α β:Nat}:α=β→β≤40→α≤16777216 := by intro h g; exact Nat.le_trans (Nat.le_of_eq h) (Nat.le_trans g (by decide))
theorem om290 {α β γ δ:Nat}:(α+(8*δ))<γ→(β+1)≤δ→((α+3)+(8*β))<γ := by lia
theorem om291 {χ:Int}:χ<8→(500+(50*(χ/2)))≤650 := by lia
theorem om292 {χ:Int}:(500≤(500+(50*χ))∧(500+(50*χ))≤650)→(-2)≤(500+(50*χ)) := by lia
theorem om293 {α:Nat}{χ:Int}:(α-χ.toNat)≤(α-(min χ.toNat α)) := by exact Nat.sub_le_sub_left (Nat.min_le_left _ _) _
theorem om294 {χ:Int}:0≤χ→500≤(500+(50*(χ/2))) := by exact fun h => Int.le_add_of_nonneg_right (Int.mul_nonneg (by decide) (Int.ediv_nonneg h (by decide)))
theorem om295 {χ:Int}:(500≤(500+(50*χ))∧(500+(50*χ))≤650)→(500+(50*χ))≤1000 := by lia
theorem om296 {α β γ δ:Nat}:(α+δ)<γ→(β+1)≤δ→((α+1)+β)<γ := by lia
theorem om297 {χ:Int}:¬(χ<0)→0≤χ := by lia
theorem om298 {χ:Int}:χ<0→¬(0≤χ) := by exact Int.not_le.mpr
theorem om299 {α β γ:Nat}:α≤(0+(min β γ))→γ≤2000→α≤16777216 := by lia
theorem om300 {α β:Nat}:(β+0)=α→α≤β := by lia
theorem om301 {χ:Int}:χ≤1000→χ≤1000000 := by intro h; exact Int.le_trans h (by decide)
theorem om302 {χ ψ:Int}:0≤ψ→χ≤1000→((χ+1)-ψ).toNat≤(1001:Nat) := by exact fun h g => Int.toNat_le.mpr (Int.le_trans (Int.sub_le_self _ h) (Int.add_le_add_right g 1))
theorem om303 {α β γ:Nat}:(γ+β)≤20→(α+2)≤γ→(α+(β+1))≤20 := by lia
theorem om304 {χ:Int}:(-2)≤χ→(-1000000)≤χ := by intro h; exact Int.le_trans (by decide) h
theorem om305 {χ ψ:Int}:(χ+1)≤ψ→χ≤ψ := by lia
theorem om306 {α β:Nat}{χ:Int}:(((((χ+(1:Int))+((20:Int)*(α:Int)))+(3:Int))+((3:Int)*(β:Int)))+(3:Int))≤((((χ+(1:Int))+((20:Int)*(α:Int)))+(3:Int))+((3:Int)*(((β+(1:Nat)):Nat):Int))) := by lia
theorem om307 {α β:Nat}{χ:Int}:α≤((3:Nat)*β)→β<χ.toNat→χ<(5:Int)→(α+((((0:Nat)+(1:Nat))+(1:Nat))+(1:Nat)))≤(10000:Nat) := by exact fun h a b => Nat.le_trans (Nat.add_le_add_right (Nat.le_trans h (Nat.mul_le_mul_left 3 (Nat.le_of_lt (Nat.lt_of_lt_of_le a (Int.toNat_le.mpr (Int.le_of_lt b)))))) _) (by decide)
theorem om308 {χ ψ:Int}:χ<12→ψ<9→((χ+ψ)-2)≤1000 := by lia
theorem om309 {α:Nat}{χ ψ:Int}:(χ+(100:Int))<(1000000:Int)→α<ψ.toNat→ψ<(5:Int)→((χ+(1:Int))+((20:Int)*(α:Int)))<(1000000:Int) := by omega
theorem om310 {α:Nat}{χ ψ:Int}:ψ<(5:Int)→((((χ+(1:Int))+((20:Int)*(α:Int)))+(3:Int))+((3:Int)*((ψ.toNat:Nat):Int)))≤((χ+(1:Int))+((20:Int)*(((α+(1:Nat)):Nat):Int))) := by lia
theorem om311 {α:Nat}:α≤(15:Nat)→(α:Int)<(100000:Int) := by omega
theorem om312 {χ ψ:Int}:ψ<(5:Int)→((χ+(1:Int))+((20:Int)*((ψ.toNat:Nat):Int)))≤(χ+(90:Int)) := by lia
theorem om313 {α:Nat}:α≤4→(α+(0+1))≤10000 := by lia
theorem om314 {χ:Int}:χ<12→χ≤1000 := by lia
theorem om315 {α:Nat}{χ:Int}:χ<(α:Int)→α≤(15:Nat)→χ<((2:Int)^63) := by lia
theorem om316 {χ:Int}:((((χ+90)+1)+1)+1)≤(χ+100) := by lia
theorem om317 {α β:Nat}{χ:Int}:α≤((3:Nat)*β)→β<χ.toNat→χ<(5:Int)→(α+(((0:Nat)+(1:Nat))+(1:Nat)))≤(10000:Nat) := by exact fun h a b => Nat.le_trans (Nat.add_le_add_right (Nat.le_trans h (Nat.mul_le_mul_left 3 (Nat.le_of_lt (Nat.lt_of_lt_of_le a (Int.toNat_le.mpr (Int.le_of_lt b)))))) _) (by decide)
theorem om318 {α:Nat}{χ ψ:Int}:(χ+(100:Int))<(1000000:Int)→α<ψ.toNat→ψ<(5:Int)→(((χ+(1:Int))+((20:Int)*(α:Int)))+(1:Int))<(1000000:Int) := by omega
theorem om319 {χ:Int}:0≤χ→χ≠0→0≤(χ-1) := by lia
theorem om320 {α:Nat}{χ:Int}:((((((χ+(1:Int))+((20:Int)*(α:Int)))+(1:Int))+(1:Int))+(1:Int))+(3:Int))≤((χ+(1:Int))+((20:Int)*(((α+(1:Nat)):Nat):Int))) := by lia
theorem om321 {χ:Int}:χ<5→χ.toNat≤(16777216:Nat) := by lia
theorem om322 {χ:Int}:(χ+100)<1000000→(((χ+90)+1)+1)<1000000 := by lia
theorem om323 {χ:Int}:(((((χ+90)+1)+1)+1)+1)≤(χ+100) := by lia
theorem om324 {α:Nat}{χ ψ:Int}:(χ+(100:Int))<(1000000:Int)→α<ψ.toNat→ψ<(5:Int)→((((((χ+(1:Int))+((20:Int)*(α:Int)))+(1:Int))+(1:Int))+(1:Int))+(3:Int))<(1000000:Int) := by omega
theorem om325 {χ:Int}:(χ+100)<1000000→(χ+90)<1000000 := by lia
theorem om326 {χ ψ:Int}:0≤χ→0≤ψ→(-2)≤((χ+ψ)-2) := by lia
theorem om327 {χ:Int}:(χ+100)<1000000→((((χ+90)+1)+1)+1)<1000000 := by lia
theorem om328 {χ:Int}:χ<(4:Int)→(χ-(1:Int))<((((((0:Nat)+(1:Nat))+(1:Nat))+(1:Nat)):Nat):Int) := by omega
theorem om329 {α β:Nat}{χ ψ ω:Int}:(χ+(100:Int))<(1000000:Int)→α<ψ.toNat→ψ<(5:Int)→β<ω.toNat→ω<(5:Int)→(((((χ+(1:Int))+((20:Int)*(α:Int)))+(3:Int))+((3:Int)*(β:Int)))+(3:Int))<(1000000:Int) := by exact fun h a b c d => Int.lt_of_le_of_lt (Int.add_le_add_right (Int.add_le_add (Int.add_le_add_right (Int.add_le_add_left (Int.mul_le_mul_of_nonneg_left (Int.ofNat_le.mpr (Nat.le_of_lt_succ (Nat.lt_of_lt_of_le a (Int.toNat_le.mpr (Int.le_of_lt b : _ ≤ ((5 : Nat) : Int)))))) (by decide)) _) _) (Int.mul_le_mul_of_nonneg_left (Int.ofNat_le.mpr (Nat.le_of_lt_succ (Nat.lt_of_lt_of_le c (Int.toNat_le.mpr (Int.le_of_lt d : _ ≤ ((5 : Nat) : Int)))))) (by decide))) _) (Int.lt_of_le_of_lt (by lia) h)
theorem om330 {α β γ:Nat}:α≤(3*γ)→β≤3→(α+β)≤(3*(γ+1)) := by lia
theorem om331 {α:Nat}{χ:Int}:α=χ.toNat→χ<(5:Int)→α≤(4:Nat) := by lia
theorem om332 {α β γ δ ε:Nat}{P0:Prop}:(γ≠α∧(δ≠α∧(ε≠α∧(β≠α∧P0))))→α≠β := by lia
theorem om333 {χ:Int}:(χ+(1:Int))≤((χ+(1:Int))+((20:Int)*(((0:Nat):Nat):Int))) := by lia
theorem om334 {χ:Int}:0≤χ→(-2)≤χ := by intro h; exact Int.le_trans (by decide) h
theorem om335 {α:Nat}:α≤4→(α+1)≤6 := by lia
theorem om336 {α:Nat}{χ:Int}:(((((χ+(1:Int))+((20:Int)*(α:Int)))+(1:Int))+(1:Int))+(1:Int))≤((((χ+(1:Int))+((20:Int)*(α:Int)))+(3:Int))+((3:Int)*(((0:Nat):Nat):Int))) := by lia
theorem om337 {α:Nat}{χ:Int}:α≤((3:Nat)*χ.toNat)→χ<(5:Int)→α≤(15:Nat) := by lia
theorem om338 {χ:Int}:((χ+90)+1)≤(χ+100) := by lia
theorem om339 {χ:Int}:(χ+100)<1000000→((χ+90)+1)<1000000 := by omega
theorem om340 {α:Nat}:α≤(500:Nat)→((α:Int)+(1:Int))≤(1000:Int) := by lia
theorem om341 {χ ψ:Int}:χ<ψ→χ≠ψ := by omega
theorem om342 {α:Nat}{χ:Int}:χ<((α:Int)+(1:Int))→χ<((((α+(1:Nat)):Nat):Int)+(1:Int)) := by lia
theorem om343 {α:Nat}:((α:Int)+(1:Int))<((((α+(1:Nat)):Nat):Int)+(1:Int)) := by omega
theorem om344 {χ:Int}:χ≤(χ+1) := by lia
theorem om345 {α β γ:Nat}:α=(β+(2:Nat))→β=(γ+(1:Nat))→¬((α:Int)<(3:Int)) := by lia
theorem om346 {α β γ δ:Nat}:β=(α+1)→γ=(β+2)→(γ+δ)≤20→(((α+1)+1)+1)≤1000 := by lia
theorem om347 {α:Nat}:(0+α)≤20→α≤20 := by lia
theorem om348 {α β:Nat}:α<β→((0:Int)+(α:Int))<(β:Int) := by lia
theorem om349 {α β γ δ:Nat}{P0:Prop}:(γ≠α∧(δ≠α∧((β+1)≠α∧P0)))→α≠(β+1) := by lia
theorem om350 {α:Nat}:α≤(6:Nat)→(α:Int)<((2:Int)^62) := by omega
theorem om351 {α β γ:Nat}:β=(α+2)→(β+γ)≤20→((α+1)+1)≤1000 := by lia
theorem om352 {α β γ δ ε:Nat}:α=β→β=γ→δ=γ→ε=δ→ε≤6→α≤2000 := by lia
theorem om353 {α:Nat}:α=0→α≤1000 := by lia
theorem om354 {α β γ δ ε:Nat}{P0:Prop}:(γ≠α∧(δ≠α∧(ε≠α∧((β+1)≠α∧P0))))→α≠(β+1) := by lia
theorem om355 {χ:Int}:χ≤1000→χ<(2^62) := by lia
theorem om356 {α:Nat}:α≤(6:Nat)→(α:Int).toNat≤(16777216:Nat) := by intro h; exact Nat.le_trans h (by decide)
theorem om357 {α β γ δ:Nat}{P0:Prop}:(γ≠α∧(β≠α∧((δ+1)≠α∧P0)))→α≠β := by lia
theorem om358 {α:Nat}:α=1→α≤1000 := by intro h; subst h; exact Nat.succ_pos _
theorem om359 {χ:Int}:χ≤1000→(χ+1)<(2^62) := by lia
theorem om360 {α β:Nat}{χ ψ:Int}:β=α→β=((χ+(1:Int))-ψ).toNat→((χ+(1:Int))-ψ).toNat≤(1001:Nat)→α≤(2000:Nat) := by lia
theorem om361 {α:Nat}:α=1→0<α := by intro h; subst h; exact Nat.succ_pos _
theorem om362 {α β γ:Nat}:β=γ→γ=α→α≤β := by lia
theorem om363 {χ:Int}:0≤χ→(-(2^62))≤(χ+1) := by lia
theorem om364 {α β γ δ ε:Nat}{P0:Prop}:(γ≠α∧(δ≠α∧(β≠α∧((ε+1)≠α∧P0))))→α≠β := by lia
theorem om365 {α β γ:Nat}:α≤β→γ=β→γ≤6→α≤1000 := by lia
theorem om366 {χ ψ:Int}:((χ+1)-ψ).toNat≤(1001:Nat)→((χ+1)-ψ).toNat≤(16777216:Nat) := by intro h; exact Nat.le_trans h (by decide)
theorem om367 {α:Nat}:α=(1:Nat)→(α:Int)<(2:Int) := by omega
theorem om368 {α β:Nat}:α=(β+2)→β=0→α≤1000 := by lia
theorem om369 {α β:Nat}:α=(β+(2:Nat))→β=(0:Nat)→(α:Int)<(3:Int) := by omega
theorem om370 {α β:Nat}:β=(α+(1:Nat))→¬(((α:Int)+(1:Int))<(β:Int)) := by lia
theorem om371 {α β γ:Nat}:β=((α+3)+γ)→(α+3)≤β := by lia
theorem om372 {α β γ:Nat}:β=((α+(2:Nat))+γ)→((α:Int)+(1:Int))<(β:Int) := by omega
theorem om373 {α β γ:Nat}:β=((α+2)+γ)→(α+2)≤β := by lia
theorem om374 {α β:Nat}:(α-β)=(0+1)→α=(β+1) := by exact fun h => (Nat.sub_eq_iff_eq_add' (Nat.le_of_lt (Nat.lt_of_sub_eq_succ h))).mp h
theorem om375 {α β γ δ:Nat}:α≤β→γ=((β+2)+δ)→γ≤20→α≤1000 := by lia
theorem om376 {α β γ:Nat}:β=((α+(3:Nat))+γ)→(α:Int)<(β:Int) := by lia
theorem om377 {α β:Nat}:β=(α+(2:Nat))→β≤(20:Nat)→(α:Int)<((2:Int)^63) := by lia
theorem om378 {α β:Nat}:β=(α+(2:Nat))→(α:Int)<(β:Int) := by lia
theorem om379 {α β:Nat}:α≤β→(α+1)≤(β+2) := by lia
theorem om380 {α:Nat}:α≤(6:Nat)→(α:Int)≤(6:Int) := by lia
theorem om381 {α:Nat}:((α:Int)+(2:Int))=(((α+(2:Nat)):Nat):Int) := by lia
theorem om382 {α:Nat}:((α:Int)+(3:Int))=(((α+(3:Nat)):Nat):Int) := by lia
theorem om383 {α β:Nat}:β=(α+(1:Nat))→¬(((α:Int)+(2:Int))<(β:Int)) := by omega
theorem om384 {α β:Nat}:(α+12)<β→α<β := by intro h; exact Nat.lt_of_le_of_lt (Nat.le_add_right _ _) h
theorem om385 {α β:Nat}:β≤α→(α-β)=0→α=β := by lia
theorem om386 {α β:Nat}:β=(α+(2:Nat))→¬(((α:Int)+(2:Int))<(β:Int)) := by lia
theorem om387 {α β γ:Nat}:β=((α+(2:Nat))+γ)→β≤(20:Nat)→((α:Int)+(1:Int))<((2:Int)^63) := by lia
theorem om388 {α β γ:Nat}:(α-β)=((γ+1)+1)→α=((β+2)+γ) := by lia
theorem om389 {α β γ:Nat}:β=((α+(3:Nat))+γ)→β≤(20:Nat)→((α:Int)+(2:Int))<((2:Int)^63) := by omega
theorem om390 {α β γ:Nat}:γ=β→α=γ→(α:Int)=(β:Int) := by lia
theorem om391 {α β:Nat}:β=(α+(1:Nat))→(α:Int)<(β:Int) := by omega
theorem om392 {α β γ:Nat}:α≤β→γ=β→γ≤20→α≤20 := by lia
theorem om393 {α β γ:Nat}:β=((α+(3:Nat))+γ)→((α:Int)+(1:Int))<(β:Int) := by omega
theorem om394 {α β:Nat}:α≤β→(α+1)≤(β+3) := by lia
theorem om395 {α β γ:Nat}:(α-β)=(((γ+1)+1)+1)→α=((β+3)+γ) := by lia
theorem om396 {α β γ:Nat}:β=((α+(3:Nat))+γ)→β≤(20:Nat)→(α:Int)<((2:Int)^63) := by exact fun h g => Int.lt_of_le_of_lt (Int.ofNat_le.mpr (Nat.le_trans (Nat.le_trans (Nat.le_add_right α (3 + γ)) (Nat.le_of_eq (Nat.add_assoc α 3 γ).symm)) (Nat.le_trans (Nat.le_of_eq h.symm) g))) (by decide)
theorem om397 {α β γ δ:Nat}:α≤β→γ=((β+3)+δ)→γ≤20→α≤1000 := by lia
theorem om398 {α β:Nat}:β=α→¬((α:Int)<(β:Int)) := by omega
theorem om399 {α:Nat}:(0:Int)≤((α:Int)+(2:Int)) := by exact Int.natCast_nonneg _
theorem om400 {α β γ:Nat}:β=((α+(3:Nat))+γ)→((α:Int)+(2:Int))<(β:Int) := by omega
theorem om401 {α β:Nat}:β=(α+(2:Nat))→β≤(20:Nat)→((α:Int)+(1:Int))<((2:Int)^63) := by lia
theorem om402 {α β γ:Nat}:β=α→γ=β→γ≤6→α≤6 := by lia
theorem om403 {α β γ:Nat}:β=((α+(2:Nat))+γ)→β≤(20:Nat)→(α:Int)<((2:Int)^63) := by lia
theorem om404 {α β:Nat}:β=(α+(2:Nat))→((α:Int)+(1:Int))<(β:Int) := by omega
theorem om405 {α β γ:Nat}:β=((α+(3:Nat))+γ)→β≤(20:Nat)→((α:Int)+(1:Int))<((2:Int)^63) := by lia
theorem om406 {α β:Nat}:(α-β)=((0+1)+1)→α=(β+2) := by lia
theorem om407 {α β:Nat}:β=(α+(1:Nat))→β≤(20:Nat)→(α:Int)<((2:Int)^63) := by lia
theorem om408 {α β γ:Nat}:β=((α+(2:Nat))+γ)→(α:Int)<(β:Int) := by lia
theorem om409 {α:Nat}{χ ψ:Int}:ψ<χ→¬((χ≤ψ∧ψ≤((χ+(α:Int))-(1:Int)))) := by lia
theorem om410 {α β:Nat}:α=β→β≤6→α≤1000 := by omega
theorem om411 {χ ψ ω:Int}:ψ<χ→¬((χ≤ψ∧ψ≤ω)) := by lia
theorem om412 {α:Nat}{χ ψ:Int}:χ≤((ψ+(α:Int))-(1:Int))→α≤(6:Nat)→(χ-ψ)<((2:Int)^63) := by lia
theorem om413 {χ ψ ω:Int}:ω<ψ→¬((χ≤ψ∧ψ≤ω)) := by lia
theorem om414 {χ ψ ω:Int}:χ≤ω→1=((ω-ψ)+1)→(χ-ψ)<(2^63) := by lia
theorem om415 {χ ψ ω:Int}:χ≤ψ→ψ≤ω→ω≤χ→¬(1≠((χ-ψ)+1)) := by lia
theorem om416 {χ ψ:Int}:ψ<χ→1≠((χ-ψ)+1) := by lia
theorem om417 {α:Nat}{χ ψ:Int}:((ψ+(α:Int))-(1:Int))<χ→¬(χ≤((ψ+(α:Int))-(1:Int))) := by exact Int.not_le.mpr
theorem om418 {α:Nat}{χ ψ:Int}:((χ+(α:Int))-(1:Int))<ψ→¬((χ≤ψ∧ψ≤((χ+(α:Int))-(1:Int)))) := by lia
theorem om419 {α:Nat}{χ ψ:Int}:ψ≤χ→χ≤((ψ+(α:Int))-(1:Int))→(χ-ψ).toNat<α := by lia
theorem om420 {χ ψ ω:Int}:χ≤ω→ψ=ω→(χ-ψ).toNat=(0:Nat) := by lia
theorem om421 {χ ψ ω:Int}:ψ≤χ→χ≤ω→ω≤ψ→χ=ψ := by lia
theorem om422 {α β:Nat}{χ:Int}:α=β→¬((α:Int)≠((((χ+(β:Int))-(1:Int))-χ)+(1:Int))) := by lia
theorem om423 {α β:Nat}:β<α→(0:Int)<((α:Int)-(β:Int)) := by omega
theorem om424 {α:Nat}{χ:Int}:(χ+(((α+(1:Nat)):Nat):Int))=((χ+(α:Int))+(1:Int)) := by lia
theorem om425 {α β:Nat}:((α:Int)-(((β+(1:Nat)):Nat):Int))=(((α:Int)-(β:Int))-(1:Int)) := by lia
theorem om426 {α:Nat}:((α:Int)-(α:Int))≤(0:Int) := by lia
theorem om427 {α:Nat}{χ ψ:Int}:(((χ+ψ)+(α:Int))+(1:Int))=((χ+ψ)+(((α+(1:Nat)):Nat):Int)) := by lia
theorem om428 {α:Nat}{χ ψ ω:Int}:χ≤((3:Int)+((306:Int)*(α:Int)))→ω<(6:Int)→((0:Int)≤ψ∧ψ<(300:Int))→((χ+ψ)+((((1:Int)+ω).toNat:Nat):Int))≤((3:Int)+((306:Int)*(((α+(1:Nat)):Nat):Int))) := by lia
theorem om429 {α:Nat}{χ ψ:Int}:(χ+(100:Int))<(1000000:Int)→α<ψ.toNat→ψ<(6:Int)→(((χ+(2:Int))+((15:Int)*(α:Int)))+(1:Int))<(1000000:Int) := by omega
theorem om430 {χ:Int}:χ<6→(1+χ)<(2^62) := by lia
theorem om431 {χ:Int}:χ<3→χ<(2^63) := by intro h; exact Int.lt_of_lt_of_le h (by decide)
theorem om432 {χ ψ ω:Int}:(0:Int)≤χ→((0:Int)≤ψ∧ψ<(300:Int))→(0:Int)≤((χ+ψ)+((((1:Int)+ω).toNat:Nat):Int)) := by lia
theorem om433 {χ:Int}:0≤χ→(-(2^62))≤(1+χ) := by lia
theorem om434 {χ:Int}:χ<6→χ<(2^62) := by lia
theorem om435 {α β γ:Nat}{χ ψ:Int}:α≤(((6:Nat)*β)+γ)→β<χ.toNat→χ<(6:Int)→γ<((1:Int)+ψ).toNat→ψ<(6:Int)→α≤(16777216:Nat) := by exact fun h a b c d => Nat.le_trans h (Nat.le_trans (Nat.add_le_add (Nat.mul_le_mul_left 6 (Nat.le_of_lt (Nat.lt_of_lt_of_le a (Int.toNat_le.mpr (Int.le_of_lt b))))) (Nat.le_of_lt (Nat.lt_of_lt_of_le c (Int.toNat_le.mpr (by lia : _ ≤ ((9 : Nat) : Int)))))) (by decide))
theorem om436 {α:Nat}{χ:Int}:α≤((6:Nat)*χ.toNat)→χ<(6:Int)→α≤(30:Nat) := by exact fun h b => Nat.le_trans h (Nat.mul_le_mul_left 6 (Int.toNat_le.mpr (Int.le_of_lt_add_one b)))
theorem om437 {α:Nat}{χ ψ:Int}:((χ+ψ)+(α:Int))<((χ+ψ)+(((α+(1:Nat)):Nat):Int)) := by lia
theorem om438 {α:Nat}{χ:Int}:((((((χ+(2:Int))+((15:Int)*(α:Int)))+(1:Int))+(1:Int))+(3:Int))+(1:Int))≤((χ+(2:Int))+((15:Int)*(((α+(1:Nat)):Nat):Int))) := by lia
theorem om439 {α:Nat}{χ ψ ω:Int}:χ<((ψ+ω)+(α:Int))→χ<((ψ+ω)+(((α+(1:Nat)):Nat):Int)) := by lia
theorem om440 {χ ψ ω:Int}:((0:Int)≤ω∧ω<(300:Int))→χ<ψ→χ<((ψ+ω)+(((0:Nat):Nat):Int)) := by lia
theorem om441 {χ:Int}:χ<(4:Int)→χ≤((3:Int)+((306:Int)*(((0:Nat):Nat):Int))) := by lia
theorem om442 {α β γ:Nat}:α≤((6*β)+γ)→(α+1)≤((6*β)+(γ+1)) := by lia
theorem om443 {α:Nat}{χ ψ:Int}:(χ+(100:Int))<(1000000:Int)→α<ψ.toNat→ψ<(6:Int)→((χ+(2:Int))+((15:Int)*(α:Int)))<(1000000:Int) := by exact fun h c d => Int.lt_of_le_of_lt (Int.add_le_add_left (Int.mul_le_mul_of_nonneg_left (Int.ofNat_le.mpr (Nat.le_of_lt_succ (Nat.lt_of_lt_of_le c (Int.toNat_le.mpr (Int.le_of_lt d : _ ≤ ((6 : Nat) : Int)))))) (by decide)) _) (Int.lt_of_le_of_lt (by lia) h)
theorem om444 {α β:Nat}{χ ψ ω φ:Int}:((0:Int)≤ψ∧ψ<(300:Int))→χ≤((3:Int)+((306:Int)*(β:Int)))→β<ω.toNat→ω<(6:Int)→α<((1:Int)+φ).toNat→φ<(6:Int)→((χ+ψ)+(α:Int))<(10000:Int) := by exact fun a b c d e f => Int.lt_of_le_of_lt (Int.add_le_add (Int.add_le_add (Int.le_trans b (Int.add_le_add_left (Int.mul_le_mul_of_nonneg_left (Int.ofNat_le.mpr (Nat.le_of_lt (Nat.lt_of_lt_of_le c (Int.toNat_le.mpr (Int.le_of_lt d : _ ≤ ((6 : Nat) : Int)))))) (by decide)) 3)) (Int.le_of_lt a.2)) (Int.ofNat_le.mpr (Nat.le_of_lt (Nat.lt_of_lt_of_le e (Int.toNat_le.mpr (Int.add_le_add_left (Int.le_of_lt f) 1 : _ ≤ ((7 : Nat) : Int))))))) (by decide)
theorem om445 {α:Nat}{χ ψ:Int}:(χ+(100:Int))<(1000000:Int)→α<ψ.toNat→ψ<(6:Int)→(((((χ+(2:Int))+((15:Int)*(α:Int)))+(1:Int))+(1:Int))+(3:Int))<(1000000:Int) := by exact fun h c d => Int.lt_of_le_of_lt (Int.add_le_add_right (Int.add_le_add_right (Int.add_le_add_right (Int.add_le_add_left (Int.mul_le_mul_of_nonneg_left (Int.ofNat_le.mpr (Nat.le_of_lt_succ (Nat.lt_of_lt_of_le c (Int.toNat_le.mpr (Int.le_of_lt d : _ ≤ ((6 : Nat) : Int)))))) (by decide)) _) _) _) _) (Int.lt_of_le_of_lt (by lia) h)
theorem om446 {α:Nat}{χ ψ:Int}:(0:Int)≤χ→((0:Int)≤ψ∧ψ<(300:Int))→(0:Int)≤((χ+ψ)+(α:Int)) := by lia
theorem om447 {χ ψ:Int}:ψ<(6:Int)→((χ+(2:Int))+((15:Int)*((ψ.toNat:Nat):Int)))≤(χ+(100:Int)) := by lia
theorem om448 {χ:Int}:((χ+(1:Int))+(1:Int))≤((χ+(2:Int))+((15:Int)*(((0:Nat):Nat):Int))) := by lia
theorem om449 {χ ψ:Int}:(χ+ψ)=((χ+ψ)+(((0:Nat):Nat):Int)) := by lia
theorem om450 {χ:Int}:(χ+100)<1000000→(χ+1)<1000000 := by lia
theorem om451 {α β:Nat}{χ:Int}:α≤(((6:Nat)*β)+((1:Int)+χ).toNat)→χ<(6:Int)→α≤((6:Nat)*(β+(1:Nat))) := by exact fun h g => Nat.le_trans h (Nat.add_le_add_left (Int.toNat_le.mpr (Int.le_trans (Int.add_le_add_left (Int.le_of_lt_add_one g : _ ≤ (5:Int)) 1) (by decide)) : _ ≤ 6) _)
theorem om452 {α β γ:Nat}:(((β+1)+1)+1)<γ→γ<α→α≠((β+1)+1) := by lia
theorem om453 {α β:Nat}:α=β→¬((((63:Nat):Nat):Int)<(β:Int))→α≤(63:Nat) := by omega
theorem om454 {α:Nat}{χ ψ:Int}:((ψ+(1:Int))≤χ∧χ≤(((ψ+(1:Int))+(α:Int))-(1:Int)))→(χ-ψ).toNat=((χ-(ψ+(1:Int))).toNat+(1:Nat)) := by lia
theorem om455 {χ ψ ω:Int}:¬((χ≤ψ∧ψ≤ω))→¬((χ≤ψ∧ψ<(χ+((((ω+(1:Int))-χ).toNat:Nat):Int)))) := by lia
theorem om456 {χ ψ:Int}:¬((χ≤ψ∧ψ≤((χ+(((0:Nat):Nat):Int))-(1:Int)))) := by lia
theorem om457 {α:Nat}{χ ψ:Int}:((χ+(1:Int))≤ψ∧ψ≤(((χ+(1:Int))+(α:Int))-(1:Int)))→(χ≤ψ∧ψ≤((χ+(((α+(1:Nat)):Nat):Int))-(1:Int))) := by lia
theorem om458 {α:Nat}{χ ψ:Int}:¬(χ=ψ)→¬(((χ+(1:Int))≤ψ∧ψ≤(((χ+(1:Int))+(α:Int))-(1:Int))))→¬((χ≤ψ∧ψ≤((χ+(((α+(1:Nat)):Nat):Int))-(1:Int)))) := by lia
theorem om459 {α:Nat}{χ ψ:Int}:χ=ψ→(χ≤ψ∧ψ≤((χ+(((α+(1:Nat)):Nat):Int))-(1:Int))) := by lia
theorem om460 {χ ψ:Int}:ψ=χ→(χ-ψ).toNat=(0:Nat) := by exact fun h => by rw [h, Int.sub_self]; rfl
theorem om461 {α:Nat}{χ ψ:Int}:¬(χ=ψ)→¬(((χ+(1:Int))≤ψ∧ψ<((χ+(1:Int))+(α:Int))))→¬((χ≤ψ∧ψ<(χ+(((α+(1:Nat)):Nat):Int)))) := by lia
theorem om462 {χ ψ:Int}:¬((χ≤ψ∧ψ<(χ+(((0:Nat):Nat):Int)))) := by lia
theorem om463 {χ ψ ω:Int}:(χ≤ψ∧ψ≤ω)→(χ≤ψ∧ψ<(χ+((((ω+(1:Int))-χ).toNat:Nat):Int))) := by lia
theorem om464 {α:Nat}{χ ψ:Int}:χ=ψ→(χ≤ψ∧ψ<(χ+(((α+(1:Nat)):Nat):Int))) := by omega
theorem om465 {α:Nat}{χ ψ:Int}:((χ+(1:Int))≤ψ∧ψ<((χ+(1:Int))+(α:Int)))→(χ≤ψ∧ψ<(χ+(((α+(1:Nat)):Nat):Int))) := by lia
theorem om466 {α β γ δ:Nat}:α≤(γ+1)→γ≤((7*β)+δ)→δ≤6→α≤(7*(β+1)) := by lia
theorem om467 {α β:Nat}:β≤(6:Nat)→((((203:Int)+((7:Int)*(α:Int)))+(β:Int))+(1:Int))≤((203:Int)+((7:Int)*(((α+(1:Nat)):Nat):Int))) := by lia
theorem om468 {α β γ:Nat}:γ≤(7*β)→α≤(γ+1)→α≤(7*(β+1)) := by lia
theorem om469 {α β γ:Nat}:α≤((7*β)+γ)→β<20→γ≤6→α≤500 := by lia
theorem om470 {α β:Nat}:α=β→β≤20→α≤1000 := by intro h g; exact Nat.le_trans (Nat.le_of_eq h) (Nat.le_trans g (by decide))
theorem om471 {α:Nat}:((203:Int)+((7:Int)*(α:Int)))≤(((203:Int)+((7:Int)*(α:Int)))+(((0:Nat):Nat):Int)) := by lia
theorem om472 {α β:Nat}:((((203:Int)+((7:Int)*(α:Int)))+(β:Int))+(1:Int))≤(((203:Int)+((7:Int)*(α:Int)))+(((β+(1:Nat)):Nat):Int)) := by lia
theorem om473 {α β γ δ:Nat}:α≤(δ+1)→δ≤((7*β)+γ)→α≤((7*β)+(γ+1)) := by lia
theorem om474 {α β:Nat}:α<(20:Nat)→β≤(6:Nat)→(((203:Int)+((7:Int)*(α:Int)))+(β:Int))<(1000000:Int) := by lia
theorem om475 {α:Nat}:(((203:Int)+((7:Int)*(α:Int)))+(1:Int))≤((203:Int)+((7:Int)*(((α+(1:Nat)):Nat):Int))) := by lia
theorem om476 {α:Nat}:α<(20:Nat)→((203:Int)+((7:Int)*(α:Int)))<(1000000:Int) := by lia
theorem om477 {α β:Nat}:α≤(7*β)→β<20→α≤500 := by lia
theorem om478 {α β:Nat}:α≤β→(α+(β-α))=β := by lia
theorem om479 {α:Nat}:α<(22:Nat)→((0:Int)≤((0:Int)+(α:Int))∧((0:Int)+(α:Int))≤(30:Int)) := by lia
theorem om480 {α:Nat}:α≤20→α≤16777216 := by intro h; exact Nat.le_trans h (by decide)
@[reducible] noncomputable def Lo : List Str := looseW hd.view_39 [Str.ofString "PaperError"]
theorem fill (w : World) (h : Heap) (X : (hd.heap_39 w.params).In h) : (hd.heap_39 w.params).In h ∧ PySem.Challenge.rw_nn0211_01 = PySem.Challenge.rw_nn0211_01 := by
  k_fill
  exact ⟨X, rfl⟩
noncomputable abbrev Led := List (Addr × Obj)

noncomputable def Calls (w : World) (f : Addr) (H : Nat) (args : List Value) (news : Led) (Ret : Value → Led → Prop) : Prop :=
  ∀ (mean : ExcName → Option Value) (mg mb : Str → Option Value) (dp un : Nat) (gd : Option (List Code)) (cn : Str) (cs : Scope) (a : Addr) (ccd : Value) (cl : List (Str × Addr)) (outer : List Env) (A₀ : Around) (base h₀ : Heap) (L : Addr) (m : Str → Option Value) (s : Shared)
    (Q E : Value → Shared → Prop),
    Below A₀ base outer h₀ → Fr h₀ L s.heap m → (hd.heap_39 w.params).In h₀ → News h₀ L s.heap news → Top hd.view_39 Lo mean mg mb h₀ → cs.kind = .function →
    dp + H < recursionLimit → un + 8 * H < cLine →
    (∀ r news' h' tk', Fr h₀ L h' m → News h₀ L h' news' → Ret r news' → Q r { s with heap := h', toks := tk' }) →
    wpAny (model PySem.Challenge.rw_nn0211_01.row.prog w) (ktrTop dp un gd cn cs L a ccd cl outer) (call (.ref f) args) Q E s

theorem Calls.use {w : World} {f : Addr} {H : Nat} {args : List Value} {news : Led} {Ret : Value → Led → Prop} {mean : ExcName → Option Value} {mg mb : Str → Option Value} {dp un : Nat} {gd : Option (List Code)} {cn : Str} {cs : Scope} {a : Addr} {ccd : Value} {cl : List (Str × Addr)} {outer : List Env} {A₀ : Around} {base h₀ : Heap} {L : Addr} {m : Str → Option Value} {s : Shared}
    {Q E : Value → Shared → Prop} (B : Below A₀ base outer h₀) (F : Fr h₀ L s.heap m) (X : (hd.heap_39 w.params).In h₀) (N : News h₀ L s.heap news) (T : Top hd.view_39 Lo mean mg mb h₀) (hk : cs.kind = .function)
    (C : Calls w f H args news Ret) (hd' : dp + H < recursionLimit) (hu : un + 8 * H < cLine)
    (ret : ∀ r news' h' tk', Fr h₀ L h' m → News h₀ L h' news' → Ret r news' → Q r { s with heap := h', toks := tk' }) :
    wpAny (model PySem.Challenge.rw_nn0211_01.row.prog w) (ktrTop dp un gd cn cs L a ccd cl outer) (call (.ref f) args) Q E s := C _ _ _ _ _ _ _ _ _ _ _ _ _ _ _ _ _ _ _ _ B F X N T hk hd' hu ret

noncomputable abbrev Same (r : Value) (news : Led) : Value → Led → Prop := fun r' news' => r' = r ∧ news' = news
noncomputable abbrev SameInt (i : Int) (news : Led) : Value → Led → Prop := fun r' news' => (∃ t, r' = .int i t) ∧ news' = news

noncomputable abbrev Num := Int × Nat
noncomputable def sameN (a b : Num) : Bool := a.1 * 10 ^ b.2 == b.1 * 10 ^ a.2
noncomputable abbrev decDict (w : World) (top : Int) (t1 k1 : Tok) (pl : Int) (t2 k2 : Tok) (n : Nat) : Obj :=
  dictOf [⟨PyData.keyHash w.params (Str.ofString "top"), .str (Str.ofString "top") k1, .int top t1⟩, ⟨PyData.keyHash w.params (Str.ofString "places"), .str (Str.ofString "places") k2, .int pl t2⟩] n
inductive NumIn (w : World) (news : Led) : Value → Num → Prop where
  | int {i : Int} {t : Tok} : -1000000 ≤ i → i ≤ 1000000 → NumIn w news (.int i t) (i, 0)
  | dec {a d : Addr} {top : Int} {pl : Nat} {t1 k1 t2 k2 : Tok} {n : Nat} : -1000000 ≤ top → top ≤ 1000000 → pl ≤ 2 →
      (a, instObj 155 d) ∈ news → (d, decDict w top t1 k1 pl t2 k2 n) ∈ news → NumIn w news (.ref a) (top, pl)
theorem NumIn.mono {w : World} {news news' : Led} {v : Value} {q : Num} (h : NumIn w news v q) (hs : ∀ p ∈ news, p ∈ news') : NumIn w news' v q := by
  cases h with
  | int a b => exact .int a b
  | dec a b c d e => exact .dec a b c (hs _ d) (hs _ e)
inductive DecIn (w : World) (news : Led) : Value → Num → Prop where
  | mk {a d : Addr} {top : Int} {pl : Nat} {t1 k1 t2 k2 : Tok} {n : Nat} : -1000000 ≤ top → top ≤ 1000000 → pl ≤ 2 →
      (a, instObj 155 d) ∈ news → (d, decDict w top t1 k1 pl t2 k2 n) ∈ news → DecIn w news (.ref a) (top, pl)
theorem wp_fold {α : Type} {M : Model} {A : Around} {t : Sem α} {Q : α → Shared → Prop} {E : Value → Shared → Prop} {s : Shared} (h : let q := Q; wpAny M A t q E s) : wpAny M A t Q E s := h
theorem wp_fold2 {α : Type} {M : Model} {A : Around} {t : Sem α} {Q : α → Shared → Prop} {E : Value → Shared → Prop} {s : Shared} (h : let q := Q; let e := E; wpAny M A t q e s) : wpAny M A t Q E s := h
theorem wp_fold4 {α : Type} {M : Model} {A : Around} {t : Sem α} {Q : α → Shared → Prop} {E : Value → Shared → Prop} {s : Shared} (h : let A0 := A; let q := Q; let e := E; wpAny M A0 t q e s) : wpAny M A t Q E s := h
inductive Lt where | n | s (i : Nat) | c (i : Nat) (t : Lt) | a (x y : Lt)
noncomputable def Lt.ats : Lt → List Nat | .n => [] | .s i => [2 * i] | .c i t => (2 * i + 1) :: t.ats | .a x y => x.ats ++ y.ats
noncomputable def pickE (d : Addr × Obj) : Led → Nat → Addr × Obj | [], _ => d | x :: _, 0 => x | _ :: r, n + 1 => pickE d r n
noncomputable def pickS : List Led → Nat → Led | [], _ => [] | x :: _, 0 => x | _ :: r, n + 1 => pickS r n
noncomputable def Lt.den (d : Addr × Obj) (es : Led) (ss : List Led) : Lt → Led | .n => [] | .s i => pickS ss i | .c i t => pickE d es i :: t.den d es ss | .a x y => x.den d es ss ++ y.den d es ss
theorem Lt.mem {d : Addr × Obj} {es : Led} {ss : List Led} {q : Addr × Obj} : ∀ t : Lt, q ∈ t.den d es ss ↔ ∃ k ∈ t.ats, (k % 2 = 0 ∧ q ∈ pickS ss (k / 2)) ∨ (k % 2 = 1 ∧ q = pickE d es (k / 2))
  | .n => by simp [Lt.den, Lt.ats]
  | .s i => by simp [Lt.den, Lt.ats]
  | .c i t => by
    have e1 : (2 * i + 1) % 2 = 1 := by omega
    have e2 : (2 * i + 1) / 2 = i := by omega
    simp [Lt.den, Lt.ats, Lt.mem t, e1, e2]
  | .a x y => by
    simp only [Lt.den, Lt.ats, List.mem_append, Lt.mem x, Lt.mem y]
    constructor
    · rintro (⟨k, h, g⟩ | ⟨k, h, g⟩)
      · exact ⟨k, .inl h, g⟩
      · exact ⟨k, .inr h, g⟩
    · rintro ⟨k, h | h, g⟩
      · exact .inl ⟨k, h, g⟩
      · exact .inr ⟨k, h, g⟩
theorem subL0 {d : Addr × Obj} (es : Led) (ss : List Led) (x y : Lt) (h : (x.ats.all fun k => y.ats.contains k) = true) : ∀ q ∈ x.den d es ss, q ∈ y.den d es ss := fun q hq => by
  obtain ⟨k, hk, g⟩ := (Lt.mem x).mp hq
  exact (Lt.mem y).mpr ⟨k, by simpa using List.all_eq_true.mp h k hk, g⟩
noncomputable abbrev d00 : Addr × Obj := (0, default)
theorem subL (es : Led) (ss : List Led) (x y : Lt) (h : (x.ats.all fun k => y.ats.contains k) = true) : ∀ q ∈ x.den d00 es ss, q ∈ y.den d00 es ss := subL0 es ss x y h
theorem hideG {P : Prop} (h : let g : Prop := P; g) : P := h
theorem fastR {dp un : Nat} {gd : Option (List Code)} {cn : Str} {cs : Scope} {L a : Addr} {ccd : Value} {cl : List (Str × Addr)} {outer : List Env} {k : Nat} (hd : dp + k < recursionLimit) : (ktrTop dp un gd cn cs L a ccd cl outer).depth < recursionLimit := Nat.lt_of_le_of_lt (Nat.le_add_right dp k) hd
theorem fastD {dp un : Nat} {gd : Option (List Code)} {cn : Str} {cs : Scope} {L a : Addr} {ccd : Value} {cl : List (Str × Addr)} {outer : List Env} {H k : Nat} (hd : dp + k < recursionLimit) (h : H + 1 ≤ k) : (ktrTop dp un gd cn cs L a ccd cl outer).depth + 1 + H < recursionLimit := by
  show dp + 1 + H < recursionLimit
  omega
theorem fastU {dp un : Nat} {gd : Option (List Code)} {cn : Str} {cs : Scope} {L a : Addr} {ccd : Value} {cl : List (Str × Addr)} {outer : List Env} {H k : Nat} (hu : un + 8 * k < cLine) (h : H + 1 ≤ k) : (ktrTop dp un gd cn cs L a ccd cl outer).units + 3 + 8 * H < cLine := by
  show un + 3 + 8 * H < cLine
  omega
local macro_rules | `(tactic| k_lt $h:ident) => `(tactic| (replace $h := allLt_of $h; simp only [AllLt, and_true] at $h:ident; (try (k_extra "klt"; (repeat (have := And.left $h; replace $h := And.right $h))))))
local macro_rules | `(tactic| lgec_go) => `(tactic| first | k_extra "om" | omega)
local macro_rules | `(tactic| walk_at $s:str) => `(tactic| k_extra $s)
local macro_rules | `(tactic| k_room) => `(tactic| k_extra "k_room")
local macro_rules | `(tactic| k_units) => `(tactic| k_extra "k_units")
local macro_rules | `(tactic| k_enter) => `(tactic| k_extra "k_enter")
local macro_rules | `(tactic| k_steps) => `(tactic| k_extra "k_steps")
local macro_rules | `(tactic| fold_depth) => `(tactic| k_extra "fold_depth")
local macro_rules | `(tactic| fold_lay) => `(tactic| k_extra "fold_lay")
local macro_rules | `(tactic| k_qdec) => `(tactic| k_extra "k_qdec")
local macro_rules | `(tactic| k_all) => `(tactic| k_extra "k_all")
local macro_rules | `(tactic| k_mem) => `(tactic| k_extra "k_mem")
local macro_rules | `(tactic| tb_rel) => `(tactic| k_extra "tb_rel")
local macro_rules | `(tactic| tb_start) => `(tactic| k_extra "tb_start")
local macro_rules | `(tactic| k_ne) => `(tactic| k_extra "k_ne")
section

theorem left_of {p q : Program} {loose : List Str} {Xt : Shared → Bool} {α : Type} {Yf : Shared → α} {Ya : World → α} {N : Nat} {g0 : Bool} {H₀ : Params → Heap} {gs₀ : Array GenState} {d₀ : Drawn} {k₀ : Nat} {m₀ : Nat} {ann : Option Value} {M : Nat}
    (open_ : ∀ w : World, (fencedOpening treeTable p w N).map (fun s => (s.heap, s.gens, s.drawn, s.toks)) = some (H₀ w.params, gs₀, d₀, k₀))
    (size : ∀ w : World, ((H₀ w.params).isNs mainGlobals && gs₀.size == 0, (H₀ w.params).objs.size, (H₀ w.params).nsMap mainGlobals "__annotations__") = (true, m₀, ann))
    (run : ∀ (w : World) (os : OsState), ∃ s, topRun treeTable p w m₀ ann M ⟨H₀ w.params, gs₀, d₀, k₀, os⟩ (topStub p) = some s ∧
      (staticsOk (importedModules p.main.body) (H₀ w.params) s.heap && namesBound p s.heap && gensDone s && laidKept (H₀ w.params) s.heap) = true ∧ openSeen q loose (importedModules p.main.body) Xt g0 s = openGood q loose ∧ Yf s = Ya w)
    (le : Nat.ble M N = true) : LeftO p q loose Xt Yf Ya N g0 := fun w => by
  (refine hideG ?_; intro G0)
  obtain ⟨⟨h, gs, d, k, os⟩, e, e'⟩ := Option.map_eq_some_iff.mp (open_ w)
  obtain ⟨rfl, rfl, rfl, rfl⟩ : h = H₀ w.params ∧ gs = gs₀ ∧ d = d₀ ∧ k = k₀ := by simpa using e'
  obtain ⟨z1, z2, z3⟩ : _ ∧ _ ∧ _ := by simpa only [Prod.mk.injEq] using size w
  obtain ⟨s, r, l1, l2, l3⟩ := run w os
  (dsimp only [G0]); clear G0
  have r := topRun_mono (N - M) _ _ _ _ r
  rw [show M + (N - M) = N by have := Nat.le_of_ble_eq_true le; lgec_go] at r
  unfold openEnds
  rw [e]
  show (topFrom treeTable p w N _).map _ = _
  have t : topFrom treeTable p w N ⟨H₀ w.params, gs, d, k, os⟩ = some s := by
    unfold topFrom
    dsimp only
    rw [z1, z2, z3, r]
    show (match staticsOk (importedModules p.main.body) (H₀ w.params) s.heap && namesBound p s.heap && gensDone s && laidKept (H₀ w.params) s.heap with | true => _ | false => _) = _
    rw [l1]
  rw [t]
  exact congrArg some (Prod.ext l2 l3)
noncomputable abbrev p0 : Pos := { line := 0, col := 0, endLine := 0, endCol := 0 }
noncomputable def envT : Env := { scope := prg.main.scope, locals := mainNs, globals := mainNs, cells := [], code := R 13, frame := some 14 }
noncomputable abbrev cT : Code := .body (behindTheImports prg) envT
noncomputable abbrev oM1 : Obj := { cls := .none, data := .fields #[] }
noncomputable abbrev oM2 : Obj := fi "code" [S "<module>" 182, S "<module>" 183, S "/claim/cut.py" 184, .int 1 0, .int 0 0, .int 0 0, .int 0 0, .int 0 0, R 11, .bool false, .int 181 0, R 12, .none, .none, .none, .none, .int 185 0, .int 1 0, S "/claim/cut.py" 186]
noncomputable abbrev oM3 : Obj := { cls := .type "frame", slots := #[some (R 13), some (R 3), some (R 3), none, some (S "__main__" 164), none, some (R 0)] }
noncomputable def heapA (P : Params) : Heap := { objs := ⟨[boot_o_0 P, boot_o_1 P, boot_o_2 P, boot_o_3 P, boot_o_4 P, boot_o_5 P, boot_o_6 P, boot_o_7 P, boot_o_8 P, boot_o_9 P, boot_o_10 P, tu [], oM1, oM2, oM3]⟩ }
noncomputable abbrev lf (o : Obj) : BT := .node o .nil .nil
noncomputable def treeA (P : Params) : BT := .node (boot_o_0 P)
  (.node (boot_o_1 P) (.node (boot_o_3 P) (lf (boot_o_7 P)) (lf (tu []))) (.node (boot_o_5 P) (lf (boot_o_9 P)) (lf oM2)))
  (.node (boot_o_2 P) (.node (boot_o_4 P) (lf (boot_o_8 P)) (lf oM1)) (.node (boot_o_6 P) (lf (boot_o_10 P)) (lf oM3)))
noncomputable abbrev sA (w : World) (os : OsState) : Shared := { heap := heapA w.params, gens := ⟨[]⟩, drawn := {}, toks := 187, os := os }
noncomputable abbrev sT (w : World) (os : OsState) : SharedT := { tree := treeA w.params, n := 15, life := {}, gens := ⟨[]⟩, drawn := {}, toks := 187, os := os }
theorem hd.pre (w : World) : (fun os => topGo treeTable prg w 11 (some (R 6)) 12 { heap := boot_heap w.params, gens := Array.mk [], drawn := boot_drawn, toks := boot_toks, os := os } (topStub prg)) =
    fun os => some (sA w os, ⟨denote treeTable cT, cT, p0, [topFrame p0]⟩) := by kernel_rfl
theorem hd.block (w : World) : (fun os => segRun treeTable prg w 11 (some (R 6)) 1 1 (sA w os) (blockOf (behindTheImports prg) envT cT p0 [topFrame p0])) = fun os => some (Flow.next, (sT w os).abs, cT, p0) := by kernel_rfl
noncomputable def nsP (P : Params) (q : String) (t m : Nat) (o : Obj) : Obj := match o.data with
  | .dict es _ => match es.toList with
    | e :: r => { cls := .type "dict", data := .dict (e :: ⟨PyData.keyHash P (Str.ofString "__qualname__"), .str (Str.ofString "__qualname__") t, S q (t - 1)⟩ :: r.take m).toArray (m + 2) }
    | [] => o
  | _ => o
noncomputable def li (k : Int) (ms : List (Int × Nat)) : Obj := { cls := .none, data := .fields (ms.foldr (fun x l => .int x.1 0 :: .int k 0 :: R x.2 :: l) []).toArray }
noncomputable def cb (P : Params) (b d s : Nat) (q : String) (t : Nat) (ln : Int) (tq m : Nat) (md : String) (mt : Nat) (ms : List (Int × Nat)) : Frag :=
  [(b, fi "builtin_function_or_method" [.builtin "type.__prepare__", .type "type"]), (b + 1, nsP P q tq m (((hd.heap_39 P).lookup d).getD oM1)), (b + 2, tu []), (b + 3, li 4 ms),
    (b + 4, fi "code" [S q t, S q (t + 1), S "/claim/cut.py" (t + 2), .int ln 0, .int 0 0, .int 0 0, .int 0 0, .int 0 0, R (b + 2), .bool false, .int 181 0, R (b + 3), .none, .none, .none, .none, .int (t + 3 : Nat) 0, .int ln 0, S "/claim/cut.py" (t + 4)]),
    (b + 5, { cls := .type "frame", slots := #[some (R (b + 4)), some (R 3), some (R (b + 1)), none, some (S md mt), none, some (R 0)] }),
    (s, fi "super" [R (d + 1), R (d + 1), R (d + 1)]), (s + 1, fi "builtin_function_or_method" [.builtin "object.__init_subclass__", R (d + 1)])]
noncomputable def bits (P : Params) : Frag :=
  [(0, boot_o_0 P), (1, boot_o_1 P), (4, boot_o_4 P), (5, boot_o_5 P), (6, boot_o_6 P), (7, boot_o_7 P), (8, boot_o_8 P), (9, boot_o_9 P), (10, boot_o_10 P), (11, tu []), (12, oM1), (13, oM2), (14, oM3)] ++
  cb P 23 45 48 "PaperError" 198 5 205 4 "paperhold.errors" 194 [(7, 35), (12, 42)] ++ cb P 51 58 60 "FontFault" 238 14 245 2 "paperhold.errors" 194 [] ++ [(62, tu [])] ++
  cb P 63 154 158 "Decimal" 256 17 263 14 "paperhold.decimals" 252 [(19, 74), (26, 81), (29, 88), (32, 95), (35, 102), (38, 109), (42, 116), (45, 123), (48, 130), (51, 137), (54, 144), (61, 151)] ++ [(195, tu [])] ++
  cb P 196 210 214 "Name" 417 84 424 3 "paperhold.objects" 411 [(86, 207)] ++ [(216, tu [])] ++ cb P 217 232 236 "String" 446 88 453 3 "paperhold.objects" 411 [(90, 229)] ++ [(238, tu [])] ++
  cb P 239 253 257 "Stream" 477 93 484 3 "paperhold.objects" 411 [(95, 250)] ++ [(259, tu [])] ++ cb P 260 281 285 "Reference" 508 98 515 4 "paperhold.objects" 411 [(100, 271), (104, 278)] ++ [(301, tu [])] ++
  cb P 302 331 335 "Lookup" 560 130 567 5 "paperhold.objects" 411 [(132, 314), (136, 321), (147, 328)]
noncomputable def bodies (K : Frag) : Frag := K.filterMap fun x => match x.2.data with
  | .func f => some (x.1 - 2, { cls := .none, data := .func { f with globals := 0, closure := [], defaults := .none, kwdefaults := .none, pyModule := .none, code := .none } })
  | _ => none
noncomputable def pickO (a : Nat) : Frag → Option (Obj × Frag)
  | (b, o) :: l => match Nat.beq b a with | true => some (o, l) | false => none
  | [] => none
noncomputable def fillT : Nat → Nat → Frag → Frag → Frag → BT → BT
  | 0, _, _, _, _, t => t
  | k + 1, a, K, B, F, t => match pickO a K with
    | some (o, K') => fillT k (a + 1) K' B F (t.ins a o)
    | none => match pickO a B with
      | some (o, B') => fillT k (a + 1) K B' F (t.ins a o)
      | none => match pickO a F with
        | some (o, F') => fillT k (a + 1) K B F' (t.ins a o)
        | none => fillT k (a + 1) K B F (t.ins a oM1)
noncomputable def d3 (nm : String) (tok k : Nat) (o : Obj) : Obj := match o.data with
  | .dict es _ => match es.toList with
    | e :: r => { o with data := .dict ({ e with val := S nm tok } :: r.take (k - 1)).toArray k }
    | [] => o
  | _ => o
noncomputable def l12 : List (Int × Nat) := [(1, 20), (5, 27), (14, 55), (17, 67), (63, 165), (65, 172), (69, 179), (75, 186), (80, 193), (84, 200), (88, 221), (93, 243), (98, 264), (106, 292), (128, 299), (130, 306), (151, 342), (155, 349), (159, 354), (174, 361), (179, 368), (184, 373), (186, 380), (200, 387), (212, 392), (218, 399), (229, 406), (234, 413), (244, 418), (261, 423), (267, 428), (287, 435), (289, 442), (291, 447), (308, 454), (314, 459)]
noncomputable def sM (w : World) (n k c : Nat) (nm : String) (tok toks : Nat) (os : OsState) : SharedT :=
  { tree := ((fillT n 0 (hd.heap_39 w.params) (bits w.params) (bodies (hd.heap_39 w.params)) .nil).set 3 (d3 nm tok k)).set 12 fun _ => li 0 (l12.take c), n := n, life := {}, gens := ⟨[]⟩, drawn := {}, toks := toks, os := os }
noncomputable abbrev q0 : List Stmt := behindTheImports prg
noncomputable abbrev s1 (w : World) : OsState → SharedT := sM w 62 12 3 "paperhold.decimals" 252 254
noncomputable abbrev p1 : Pos := { line := 16, col := 0, endLine := 16, endCol := 8 }
noncomputable abbrev q1 : List Stmt := q0.drop 5
theorem hd.r1 (w : World) : (fun os => segRunT treeTable prg w 11 (some (R 6)) 1 1000 (sT w os) (piecesOf (q0.take 5) envT cT p0 [topFrame p0])) = fun os => some (Flow.next, s1 w os, cT, p1) := by kernel_rfl
noncomputable abbrev s2 (w : World) : OsState → SharedT := sM w 160 13 4 "paperhold.decimals" 252 371
noncomputable abbrev p2 : Pos := { line := 17, col := 0, endLine := 62, endCol := 16 }
noncomputable abbrev q2 : List Stmt := q1.drop 1
theorem hd.r2 (w : World) : (fun os => segRunT treeTable prg w 11 (some (R 6)) 1 1000 (s1 w os) (piecesOf (q1.take 1) envT cT p1 [topFrame p0])) = fun os => some (Flow.next, s2 w os, cT, p2) := by kernel_rfl
noncomputable abbrev s3 (w : World) : OsState → SharedT := sM w 259 22 12 "paperhold.objects" 411 506
noncomputable abbrev p3 : Pos := { line := 93, col := 0, endLine := 97, endCol := 28 }
noncomputable abbrev q3 : List Stmt := q2.drop 10
theorem hd.r3 (w : World) : (fun os => segRunT treeTable prg w 11 (some (R 6)) 1 1000 (s2 w os) (piecesOf (q2.take 10) envT cT p2 [topFrame p0])) = fun os => some (Flow.next, s3 w os, cT, p3) := by kernel_rfl
noncomputable abbrev s4 (w : World) : OsState → SharedT := sM w 337 26 16 "paperhold.objects" 411 610
noncomputable abbrev p4 : Pos := { line := 130, col := 0, endLine := 148, endCol := 40 }
noncomputable abbrev q4 : List Stmt := q3.drop 4
theorem hd.r4 (w : World) : (fun os => segRunT treeTable prg w 11 (some (R 6)) 1 1000 (s3 w os) (piecesOf (q3.take 4) envT cT p3 [topFrame p0])) = fun os => some (Flow.next, s4 w os, cT, p4) := by kernel_rfl
noncomputable abbrev s5 (w : World) : OsState → SharedT := sM w 382 34 23 "paperhold.fonts" 610 672
noncomputable abbrev p5 : Pos := { line := 186, col := 0, endLine := 199, endCol := 39 }
noncomputable abbrev q5 : List Stmt := q4.drop 9
theorem hd.r5 (w : World) : (fun os => segRunT treeTable prg w 11 (some (R 6)) 1 1000 (s4 w os) (piecesOf (q4.take 9) envT cT p4 [topFrame p0])) = fun os => some (Flow.next, s5 w os, cT, p5) := by kernel_rfl
noncomputable abbrev s6 (w : World) : OsState → SharedT := sM w 461 47 36 "law_nn0211_01" 683 776
noncomputable abbrev p6 : Pos := { line := 314, col := 0, endLine := 338, endCol := 15 }
theorem hd.r6 (w : World) : (fun os => segRunT treeTable prg w 11 (some (R 6)) 1 1000 (s5 w os) (piecesOf (q5.take 14) envT cT p5 [topFrame p0])) = fun os => some (Flow.next, s6 w os, cT, p6) := by kernel_rfl
noncomputable def seenT (w : World) (os : OsState) (r : Flow × SharedT × Code × Pos) := match r with
  | (f, t, c, q) => (topRun treeTable prg w 11 (some (R 6)) 2 t.abs ⟨doneF f, c, q, [topFrame p0]⟩).map fun (s : Shared) => (f, c, q,
      (staticsOk (importedModules prg.main.body) (boot_heap w.params) s.heap && namesBound prg s.heap && gensDone s && laidKept (boot_heap w.params) s.heap, openSeen hd.view_39 loo (importedModules prg.main.body) hd.Xt true s, hd.hook.obs s))
theorem hd.seen (w : World) : (fun os => seenT w os (Flow.next, s6 w os, cT, p6)) = fun _ => some (Flow.next, cT, p6, (true, openGood hd.view_39 loo, hd.hook.val w)) := by kernel_rfl
theorem hd.glue {w : World} {m n N : Nat} {l : List Stmt} {s s' : SharedT} {r : Shared} {q q' : Pos} (h : segRunT treeTable prg w 11 (some (R 6)) 1 n s (piecesOf (l.take m) envT cT q [topFrame p0]) = some (Flow.next, s', cT, q'))
    (k : topRun treeTable prg w 11 (some (R 6)) N s'.abs (restOf (l.drop m) envT cT q' [topFrame p0]) = some r) : topRun treeTable prg w 11 (some (R 6)) (n + N) s.abs (restOf l envT cT q [topFrame p0]) = some r := by
  have := piece_app (rest := l.drop m) (segRun_of h) k
  rwa [List.take_append_drop] at this
theorem hd.run (w : World) (os : OsState) : ∃ s, topRun treeTable prg w 11 (some (R 6)) (12 + (1 + (1000 + (1000 + (1000 + (1000 + (1000 + (1000 + 2)))))))) ⟨boot_heap w.params, Array.mk [], boot_drawn, boot_toks, os⟩ (topStub prg) = some s ∧
      (staticsOk (importedModules prg.main.body) (boot_heap w.params) s.heap && namesBound prg s.heap && gensDone s && laidKept (boot_heap w.params) s.heap) = true ∧ openSeen hd.view_39 loo (importedModules prg.main.body) hd.Xt true s = openGood hd.view_39 loo ∧ hd.hook.obs s = hd.hook.val w := by
  have h2 := congrFun (hd.seen w) os
  unfold seenT at h2
  obtain ⟨s, h3, h4⟩ := Option.map_eq_some_iff.mp h2
  obtain ⟨_, h5⟩ := Prod.mk.inj h4
  obtain ⟨_, h6⟩ := Prod.mk.inj h5
  obtain ⟨_, h7⟩ := Prod.mk.inj h6
  obtain ⟨h8, h9⟩ := Prod.mk.inj h7
  obtain ⟨h10, h11⟩ := Prod.mk.inj h9
  have k := hd.glue (congrFun (hd.r1 w) os) (hd.glue (congrFun (hd.r2 w) os) (hd.glue (congrFun (hd.r3 w) os) (hd.glue (congrFun (hd.r4 w) os) (hd.glue (congrFun (hd.r5 w) os) (hd.glue (congrFun (hd.r6 w) os) (piece_nil h3))))))
  exact ⟨s, go_top (congrFun (hd.pre w) os) (piece_block (congrFun (hd.block w) os) k), h8, h10, h11⟩
theorem hd.left : LeftO prg hd.view_39 loo hd.Xt hd.hook.obs hd.hook.val 6444 :=
  left_of (boot_open (by kernel_rfl) (by decide) (fun s => by rfl)) (fun w => by kernel_rfl) hd.run (by decide)

theorem kw_H1_0 : True := by
  k_with_none
  k_with "om" => first | decide | (with_reducible first | apply om478 <;> assumption)
  k_with "k_ne" => (refine neN ?_; (try dsimp only); first | with_reducible assumption | lgec_go)
  trivial
end
section

theorem kw_H2_0 : True := by
  k_with_none
  k_with "om" => first | decide
  k_with "k_ne" => (refine neN ?_; (try dsimp only); first | with_reducible assumption | lgec_go)
  k_with "k_qdec" => kernel_rfl
  trivial
theorem hd.said : PySem.Challenge.rw_nn0211_01.wellSaid = true := by kernel_rfl
theorem hd {d : DefRec} {kwd : List (Str × Expr)} (hdef : defOf hd.view_39 PySem.Challenge.rw_nn0211_01.row.name = some (d, kwd)) (hp : PySem.Challenge.rw_nn0211_01.row.prog.theDef PySem.Challenge.rw_nn0211_01.row.name = some (d.params, d.body, d.scope))
    (hk : kwWritten? d.params.kwonlyargs d.params.kw_defaults = some kwd)
    (call : WalkO hd.view_39 loo (XL hd.view_39 []) hd.hook.says PySem.Challenge.rw_nn0211_01.row.toRowW d kwd fun f vs => PySem.call f vs) : PySem.Challenge.rw_nn0211_01.Holds :=
  holds_law hd.said fun k1 => holds_open (q := hd.view_39) (loose := loo) (Xt := hd.Xt) (XP := XL hd.view_39 []) (Yf := hd.hook.obs) (Ya := hd.hook.val) (YP := hd.hook.says) (N := 6444)
    hd.left (Hook.of _) (Hook.keeps _) (fun s e => xl_of s (Bool.and_eq_true_iff.mp e).1) XL.keeps hdef hp hk (fun s e => recFacts_of (Bool.and_eq_true_iff.mp e).2) (by kernel_rfl) k1 (by kernel_rfl) ⟨rfl, rfl, rfl, rfl, rfl, by kernel_rfl⟩ ⟨[WData.list []], by kernel_rfl, by kernel_rfl⟩ call

end
section
theorem kw_N1_0 : True := by
  k_with_none
  k_with "om" => first | decide | (with_reducible first | apply om1 <;> assumption | apply om47 <;> assumption | apply om110 <;> assumption | apply om111 <;> assumption | apply om112 <;> assumption | apply om113 <;> assumption | apply om114 <;> assumption | apply om115 <;> assumption)
  k_with "k_ne" => (refine neN ?_; (try dsimp only); first | with_reducible assumption | lgec_go)
  k_with "fold_depth" => first | ((with_reducible show wpAny _ (Around.deeper (ktrTop _ _ _ _ _ _ _ _ _ _) _) _ _ _ _); refine wp_fold4 ?_; intro A1 q0 e0) | (refine wp_fold2 ?_; intro q00 e00)
  k_with "fold_lay" => ((show wpAny _ _ _ _ _ _); first | (fail_if_success k_fold) | ((try clear qf); refine wp_fold ?_; intro qf))
  k_with "k_steps" => ((try dsimp only); (try fold_lay); repeat' (first | (k_unfold; (try dsimp only)) | (k_end; wrow_close) | (walk1; (try ((first | (with_reducible show wpAny _ _ (exec _ _) _ _ _) | (with_reducible show wpAny _ _ (execs _ _) _ _ _)); (try dsimp only); fold_lay))) | (dsimp only; walk1) | (leave1; walk_say "STEP leave1"; try dsimp only) | fail "no step"))
  k_with "k_room" => first | exact fastR (by assumption) | ktr_room | (simp only [A1]; ktr_room)
  k_with "k_units" => first | ktr_units | (simp only [A1]; ktr_units)
  k_with "k_enter" => (refine' code_defC ?k1_7 ?k2_7 ?k3_7 ?k4_7 ?k5_7 ?kA_7 ?kF_7 ?kK_7 ?k6_7 ?k7_7 ?k8_7 ?k9_7 ?kB_7 ?kD_7 ?_ ?c2_7 ?c3_7 ?c4_7; (case kA_7 => exact rfl); (case kF_7 => exact rfl); (case kK_7 => assumption); (case k1_7 => k_asm); (case k2_7 => k_asm); (case k3_7 => k_asm); (case k4_7 => k_asm); (case k5_7 => k_asm); (case k6_7 => k_is); (case k7_7 => k_is); (case k8_7 => k_room); (case k9_7 => first | exact BindsTo.of_eq rfl | exact binds_K (by k_in) rfl (by k_is) rfl rfl rfl); (case kB_7 => exact rfl); (case kD_7 => decide +kernel); (case c2_7 => exact rfl); (case c3_7 => exact rfl); (case c4_7 => exact rfl); k_whole; intro g' L' h' tk' cells' FG' F' N' Y' B' X' T' l1; (try k_lt l1); refine hideG ?_; intro G0; k_cells Y'; (dsimp only [G0]); (try clear G0); (try simp only [List.cons_append, List.nil_append] at N'); (try dsimp only); (try fold_depth))
  k_with "k_enter" => (refine' code_def ?k1_8 ?k2_8 ?k3_8 ?k4_8 ?k5_8 ?kA_8 ?kF_8 ?kK_8 ?k6_8 ?k7_8 ?k8_8 ?k9_8 ?kB_8 ?_ ?c2_8 ?c3_8 ?c4_8 ?c5_8; (case kA_8 => exact rfl); (case kF_8 => exact rfl); (case kK_8 => assumption); (case k1_8 => k_asm); (case k2_8 => k_asm); (case k3_8 => k_asm); (case k4_8 => k_asm); (case k5_8 => k_asm); (case k6_8 => k_is); (case k7_8 => k_is); (case k8_8 => k_room); (case k9_8 => first | exact BindsTo.of_eq rfl | exact binds_K (by k_in) rfl (by k_is) rfl rfl rfl); (case c5_8 => decide); (case kB_8 => exact locs rfl); (case c2_8 => exact rfl); (case c3_8 => exact rfl); (case c4_8 => exact rfl); k_whole; intro g' L' h' FG' F' N' B' X' T'; (try dsimp only); (try fold_depth))
  trivial
theorem accN_bound {g : Int → Int → Int} {lo hi : Int} (hg : ∀ j x, lo ≤ x → x ≤ hi → lo ≤ g j x ∧ g j x ≤ hi) (n : Nat) (a : Int) (x : Int) (h1 : lo ≤ x) (h2 : x ≤ hi) : lo ≤ accN g a x n ∧ accN g a x n ≤ hi := by
  induction n with
  | zero => exact ⟨h1, h2⟩
  | succ n ih => exact hg _ _ ih.1 ih.2
theorem dec_bound {p top k : Int} (h1 : -1000000 ≤ top) (h2 : top ≤ 1000000) : -1000000 ≤ accDown (fun _ x => x.fdiv 10) p top k ∧ accDown (fun _ x => x.fdiv 10) p top k ≤ 1000000 := by
  unfold accDown
  refine accN_bound (fun j x a b => ?_) _ _ _ h1 h2
  show -1000000 ≤ x.fdiv 10 ∧ x.fdiv 10 ≤ 1000000
  rw [Int.fdiv_eq_ediv_of_nonneg _ (by decide)]
  constructor <;> lgec_go

inductive DecR (w : World) (news : Led) (i p : Int) (r : Value) (news' : Led) : Prop
  | mk (x d : Addr) (T : Int) (P : Nat) (t1 k1 t2 k2 : Tok) (n : Nat) : r = .ref x → (p = 0 → T = i ∧ P = 0) → -1000000 ≤ T → T ≤ 1000000 → P ≤ 2 → (∀ q ∈ news, q.1 < d) → d < x → news' = (x, instObj 155 d) :: (d, decDict w T t1 k1 (P : Nat) t2 k2 n) :: news → DecR w news i p r news'
theorem dec_make (w : World) (news : Led) (i p : Int) (t u : Tok) (h1 : -1000000 ≤ i) (h2 : i ≤ 1000000) (hp : 0 ≤ p) (hp2 : p ≤ 2) : Calls w 155 2 [.int i t, .int p u] news
   (DecR w news i p) := by
  intro mean mg mb dp un gd cn cs a ccd cl outer A₀ base h₀ L m s Q E B F X N T hk hd hu hret
  k_steps
  rename MarkAd _ _ _ _ => hM
  rename (min _ _ ≤ _) => hm
  rename (_ ≤ p) => hp3
  clear hM
  have key : ∀ k : Int, k ≤ p → min p 0 ≤ k → ∃ P : Nat, k = (P : Int) ∧ P ≤ 2 ∧ (p = 0 → P = 0) := fun k h1 h2 => ⟨k.toNat, by lgec_go, by lgec_go, fun _ => by lgec_go⟩
  obtain ⟨P, e, hP2, hP0⟩ := key _ hp3 hm
  subst e
  refine hret _ _ _ _ (by k_asm) (by k_asm) ⟨_, _, _, P, _, _, _, _, _, rfl, fun e => ?_, (dec_bound h1 h2).1, (dec_bound h1 h2).2, hP2, by assumption, by assumption, rfl⟩
  have := hP0 e
  subst e this
  exact ⟨accDown_start, rfl⟩
theorem signof_spec (w : World) (news : Led) (i : Int) (t : Tok) : Calls w 173 1 [.int i t] news (SameInt (if i = 0 then 0 else if i > 0 then 1 else -1) news) := by
  intro mean mg mb dp un gd cn cs a ccd cl outer A₀ base h₀ L m s Q E B F X N T hk hd hu hret
  k_steps
  all_goals refine hret _ _ _ _ (by k_asm) (by k_asm) ⟨⟨_, congrArg (Value.int · _) ?_⟩, rfl⟩
  · simp_all
  · simp_all
  · simp_all

end
section
theorem kw_N2_0 : True := by
  k_with_none
  k_with "om" => first | decide | (with_reducible first | apply om6 <;> assumption | apply om30 <;> assumption)
  k_with "k_ne" => (refine neN ?_; (try dsimp only); first | with_reducible assumption | lgec_go)
  k_with "fold_depth" => first | ((with_reducible show wpAny _ (Around.deeper (ktrTop _ _ _ _ _ _ _ _ _ _) _) _ _ _ _); refine wp_fold4 ?_; intro A1 q0 e0) | (refine wp_fold2 ?_; intro q00 e00)
  k_with "fold_lay" => ((show wpAny _ _ _ _ _ _); first | (fail_if_success k_fold) | ((try clear qf); refine wp_fold ?_; intro qf))
  k_with "k_steps" => ((try dsimp only); (try fold_lay); repeat' (first | (k_unfold; (try dsimp only)) | (k_end; wrow_close) | (walk1; (try ((first | (with_reducible show wpAny _ _ (exec _ _) _ _ _) | (with_reducible show wpAny _ _ (execs _ _) _ _ _)); (try dsimp only); fold_lay))) | (dsimp only; walk1) | (leave1; walk_say "STEP leave1"; try dsimp only) | fail "no step"))
  k_with "k_room" => first | exact fastR (by assumption) | ktr_room | (simp only [A1]; ktr_room)
  k_with "k_units" => first | ktr_units | (simp only [A1]; ktr_units)
  k_with "k_enter" => (refine' code_defC ?k1_14 ?k2_14 ?k3_14 ?k4_14 ?k5_14 ?kA_14 ?kF_14 ?kK_14 ?k6_14 ?k7_14 ?k8_14 ?k9_14 ?kB_14 ?kD_14 ?_ ?c2_14 ?c3_14 ?c4_14; (case kA_14 => exact rfl); (case kF_14 => exact rfl); (case kK_14 => assumption); (case k1_14 => k_asm); (case k2_14 => k_asm); (case k3_14 => k_asm); (case k4_14 => k_asm); (case k5_14 => k_asm); (case k6_14 => k_is); (case k7_14 => k_is); (case k8_14 => k_room); (case k9_14 => first | exact BindsTo.of_eq rfl | exact binds_K (by k_in) rfl (by k_is) rfl rfl rfl); (case kB_14 => exact rfl); (case kD_14 => decide +kernel); (case c2_14 => exact rfl); (case c3_14 => exact rfl); (case c4_14 => exact rfl); k_whole; intro g' L' h' tk' cells' FG' F' N' Y' B' X' T' l1; (try k_lt l1); refine hideG ?_; intro G0; k_cells Y'; (dsimp only [G0]); (try clear G0); (try simp only [List.cons_append, List.nil_append] at N'); (try dsimp only); (try fold_depth))
  k_with "k_enter" => (refine' code_def ?k1_15 ?k2_15 ?k3_15 ?k4_15 ?k5_15 ?kA_15 ?kF_15 ?kK_15 ?k6_15 ?k7_15 ?k8_15 ?k9_15 ?kB_15 ?_ ?c2_15 ?c3_15 ?c4_15 ?c5_15; (case kA_15 => exact rfl); (case kF_15 => exact rfl); (case kK_15 => assumption); (case k1_15 => k_asm); (case k2_15 => k_asm); (case k3_15 => k_asm); (case k4_15 => k_asm); (case k5_15 => k_asm); (case k6_15 => k_is); (case k7_15 => k_is); (case k8_15 => k_room); (case k9_15 => first | exact BindsTo.of_eq rfl | exact binds_K (by k_in) rfl (by k_is) rfl rfl rfl); (case c5_15 => decide); (case kB_15 => exact locs rfl); (case c2_15 => exact rfl); (case c3_15 => exact rfl); (case c4_15 => exact rfl); k_whole; intro g' L' h' FG' F' N' B' X' T'; (try dsimp only); (try fold_depth))
  k_with "tb_rel" => first | assumption | (intro p hp; solve_by_elim (maxDepth := 12) only [hp, List.Mem.tail, *])
  k_with "tb_start" => first | assumption | exact NumIn.mono (by assumption) (by tb_rel)
  k_with "call ref" => ((with_reducible show wpAny _ _ (call (Value.ref 155) _) _ _ _); k_dflt (refine' Calls.use ?k1_18 ?k2_18 ?k3_18 ?k4_18 ?k5_18 ?kK_18 ?C_18 ?kd_18 ?ku_18 ?_; (case k1_18 => k_asm); (case k2_18 => k_asm); (case k3_18 => k_asm); (case k4_18 => k_asm); (case k5_18 => k_asm); (case kK_18 => first | exact rfl | assumption); (case C_18 => exact dec_make _ _ _ _ _ _ (by lgec_go) (by lgec_go) (by lgec_go) (by lgec_go)); (case kd_18 => first | exact fastD (by assumption) (by decide) | ktr_room); (case ku_18 => first | exact fastU (by assumption) (by decide) | ktr_units); k_whole; intro r' n' h' tk' F' N' hr'; refine hideG ?_; intro G0; (obtain ⟨x', d', T', P', t1', k1', t2', k2', n1', e', hz', hb1', hb2', hb3', l1', l2', e2'⟩ := hr'); subst e'; subst e2'; (try k_lt2 l2'); (dsimp only [G0]); (try clear G0); (try k_sweep)))
  trivial
theorem DecIn.mono {w : World} {news news' : Led} {v : Value} {q : Num} (h : DecIn w news v q) (hs : ∀ p ∈ news, p ∈ news') : DecIn w news' v q := by
  cases h with
  | mk a b c d e => exact .mk a b c (hs _ d) (hs _ e)
theorem DecIn.num {w : World} {news : Led} {v : Value} {q : Num} (h : DecIn w news v q) : NumIn w news v q := by
  cases h with
  | mk a b c d e => exact .dec a b c d e
theorem decimalof_spec (w : World) (news : Led) (v : Value) (q : Num) (hv : NumIn w news v q) : Calls w 180 3 [v] news (fun r news' => (∀ p ∈ news, p ∈ news') ∧ DecIn w news' r q) := by
  intro mean mg mb dp un gd cn cs a ccd cl outer A₀ base h₀ L m s Q E B F X N T hk hd hu hret
  cases hv with
  | int h1 h2 =>
    k_steps
    rename ((0 : Int) = 0 → _) => hz
    obtain ⟨rfl, rfl⟩ := hz rfl
    exact hret _ _ _ _ (by k_asm) (by k_asm) ⟨fun _ h => .tail _ (.tail _ h), .mk h1 h2 (by assumption) (.head _) (.tail _ (.head _))⟩
  | dec h1 h2 h3 m1 m2 =>
    k_steps
    exact hret _ _ _ _ (by k_asm) (by k_asm) ⟨fun _ h => h, .mk h1 h2 h3 m1 m2⟩

end
section
theorem kw_D1_0 : True := by
  k_with_none
  k_with "om" => first | decide | (with_reducible first | apply om7 <;> assumption | apply om8 <;> assumption | apply om48 <;> assumption | apply om49 <;> assumption | apply om50 <;> assumption | apply om51 <;> assumption | apply om116 <;> assumption | apply om117 <;> assumption | apply om118 <;> assumption | apply om119 <;> assumption | apply om120 <;> assumption | apply om121 <;> assumption | apply om122 <;> assumption | apply om123 <;> assumption)
  k_with "k_ne" => (refine neN ?_; (try dsimp only); first | with_reducible assumption | lgec_go)
  k_with "fold_depth" => first | ((with_reducible show wpAny _ (Around.deeper (ktrTop _ _ _ _ _ _ _ _ _ _) _) _ _ _ _); refine wp_fold4 ?_; intro A1 q0 e0) | (refine wp_fold2 ?_; intro q00 e00)
  k_with "fold_lay" => ((show wpAny _ _ _ _ _ _); first | (fail_if_success k_fold) | ((try clear qf); refine wp_fold ?_; intro qf))
  k_with "k_steps" => ((try dsimp only); (try fold_lay); repeat' (first | (k_unfold; (try dsimp only)) | (k_end; wrow_close) | (walk1; (try ((first | (with_reducible show wpAny _ _ (exec _ _) _ _ _) | (with_reducible show wpAny _ _ (execs _ _) _ _ _)); (try dsimp only); fold_lay))) | (dsimp only; walk1) | (leave1; walk_say "STEP leave1"; try dsimp only) | fail "no step"))
  k_with "k_room" => first | exact fastR (by assumption) | ktr_room | (simp only [A1]; ktr_room)
  k_with "k_units" => first | ktr_units | (simp only [A1]; ktr_units)
  k_with "k_enter" => (refine' code_defC ?k1_24 ?k2_24 ?k3_24 ?k4_24 ?k5_24 ?kA_24 ?kF_24 ?kK_24 ?k6_24 ?k7_24 ?k8_24 ?k9_24 ?kB_24 ?kD_24 ?_ ?c2_24 ?c3_24 ?c4_24; (case kA_24 => exact rfl); (case kF_24 => exact rfl); (case kK_24 => assumption); (case k1_24 => k_asm); (case k2_24 => k_asm); (case k3_24 => k_asm); (case k4_24 => k_asm); (case k5_24 => k_asm); (case k6_24 => k_is); (case k7_24 => k_is); (case k8_24 => k_room); (case k9_24 => first | exact BindsTo.of_eq rfl | exact binds_K (by k_in) rfl (by k_is) rfl rfl rfl); (case kB_24 => exact rfl); (case kD_24 => decide +kernel); (case c2_24 => exact rfl); (case c3_24 => exact rfl); (case c4_24 => exact rfl); k_whole; intro g' L' h' tk' cells' FG' F' N' Y' B' X' T' l1; (try k_lt l1); refine hideG ?_; intro G0; k_cells Y'; (dsimp only [G0]); (try clear G0); (try simp only [List.cons_append, List.nil_append] at N'); (try dsimp only); (try fold_depth))
  k_with "k_enter" => (refine' code_def ?k1_25 ?k2_25 ?k3_25 ?k4_25 ?k5_25 ?kA_25 ?kF_25 ?kK_25 ?k6_25 ?k7_25 ?k8_25 ?k9_25 ?kB_25 ?_ ?c2_25 ?c3_25 ?c4_25 ?c5_25; (case kA_25 => exact rfl); (case kF_25 => exact rfl); (case kK_25 => assumption); (case k1_25 => k_asm); (case k2_25 => k_asm); (case k3_25 => k_asm); (case k4_25 => k_asm); (case k5_25 => k_asm); (case k6_25 => k_is); (case k7_25 => k_is); (case k8_25 => k_room); (case k9_25 => first | exact BindsTo.of_eq rfl | exact binds_K (by k_in) rfl (by k_is) rfl rfl rfl); (case c5_25 => decide); (case kB_25 => exact locs rfl); (case c2_25 => exact rfl); (case c3_25 => exact rfl); (case c4_25 => exact rfl); k_whole; intro g' L' h' FG' F' N' B' X' T'; (try dsimp only); (try fold_depth))
  trivial
inductive PotIn (B : Int) (c : Addr) : Obj → Obj → Prop where
  | mk {vs : List Value} {ns : List Int} {st pl : Int} {t1 t2 : Tok} {k1 k2 : Nat} : IntsAre vs ns → ns.length ≤ 40 → (∀ n ∈ ns, 0 ≤ n ∧ n < 10 ^ 400) → 0 ≤ st → st < 2147483647 → 0 ≤ pl → pl ≤ B →
      PotIn B c (PySem.W.listOf #[.ref c, .int st t1, .int pl t2] k1) (PySem.W.listOf vs.toArray k2)
theorem PotIn.mono {B B' : Int} {c : Addr} {e1 e2 : Obj} (h : PotIn B c e1 e2) (hb : B ≤ B') : PotIn B' c e1 e2 := by
  cases h with
  | mk a b d e f g i => exact .mk a b d e f g (Int.le_trans i hb)
inductive DrawR (p c : Addr) (B lim : Int) (rest : Led) (r : Value) (news' : Led) : Prop
  | mk (x : Int) (t : Tok) (e : r = .int x t) (h0 : 0 ≤ x) (h1 : x < lim) (e1' e2' : Obj) (hP : PotIn (B + 1) c e1' e2') (en : news' = (p, e1') :: (c, e2') :: rest) : DrawR p c B lim rest r news'
theorem fm_in (a : Int) {b : Int} (hb : 0 < b) : 0 ≤ a.fmod b ∧ a.fmod b < b := by
  rw [Int.fmod_eq_emod_of_nonneg _ (Int.le_of_lt hb)]
  exact ⟨Int.emod_nonneg _ (by lgec_go), Int.emod_lt_of_pos _ hb⟩
theorem kw_D1_1 : True := by
  k_with "k_all" => assumption
  trivial
theorem draw_spec (w : World) (rest : Led) (p c : Addr) (e1 e2 : Obj) (B lim : Int) (t3 : Tok) (hP : PotIn B c e1 e2) (hB : B < 1000000) (hpc : @Ne Nat p c) (offp : ∀ q ∈ rest, q.1 ≠ p) (offc : ∀ q ∈ rest, q.1 ≠ c) (hl0 : 0 < lim) (hl1 : lim < 100000) :
    Calls w 400 1 [.ref p, .int lim t3] ((p, e1) :: (c, e2) :: rest) (DrawR p c B lim rest) := by
  intro mean mg mb dp un gd cn cs a ccd cl outer A₀ base h₀ L m s Q E B F X N T hk hd hu hret
  cases hP
  rename_i vs ns st pl t1 t2 k1 k2 hi hlen hns hst0 hst1 hpl0 hpl1
  k_steps
  · refine hret _ _ _ _ (by k_asm) (by k_asm) ⟨_, _, rfl, (fm_in _ hl0).1, (fm_in _ hl0).2, _, _, PotIn.mk (by assumption) (by rw [List.length_set]; exact hlen) ?_ hst0 hst1 (by lgec_go) (by lgec_go), rfl⟩
    intro n hn
    rcases List.mem_or_eq_of_mem_set hn with h1 | h1
    · exact hns n h1
    · subst h1
      have hg : ∀ k, 0 ≤ ns.getD k 0 ∧ ns.getD k 0 < 10 ^ 400 := fun k => by
        rw [List.getD_eq_getElem?_getD]
        cases hk : ns[k]? with
        | none => exact ⟨Int.le_refl _, by decide +kernel⟩
        | some y => exact hns y (List.mem_of_getElem? hk)
      have hg' := hg (pl.fmod ↑ns.length).toNat
      rw [Int.fdiv_eq_ediv_of_nonneg _ (Int.le_of_lt hl0)]
      exact ⟨Int.ediv_nonneg hg'.1 (Int.le_of_lt hl0), Int.lt_of_le_of_lt (Int.ediv_le_self _ hg'.1) hg'.2⟩
  · exact hret _ _ _ _ (by k_asm) (by k_asm) ⟨_, _, rfl, (fm_in _ hl0).1, (fm_in _ hl0).2, _, _, PotIn.mk hi hlen hns (fm_in _ (by decide)).1 (fm_in _ (by decide)).2 (by lgec_go) (by lgec_go), rfl⟩
  · exact hret _ _ _ _ (by k_asm) (by k_asm) ⟨_, _, rfl, (fm_in _ hl0).1, (fm_in _ hl0).2, _, _, PotIn.mk hi hlen hns (fm_in _ (by decide)).1 (fm_in _ (by decide)).2 (by lgec_go) (by lgec_go), rfl⟩

end
section
theorem kw_W1_0 : True := by
  k_with_none
  k_with "om" => first | decide | (with_reducible first | apply om6 <;> assumption | apply om13 <;> assumption | apply om14 <;> assumption | apply om30 <;> assumption | apply om52 <;> assumption | apply om53 <;> assumption | apply om54 <;> assumption | apply om55 <;> assumption | apply om56 <;> assumption | apply om57 <;> assumption | apply om58 <;> assumption | apply om59 <;> assumption | apply om60 <;> assumption | apply om124 <;> assumption | apply om125 <;> assumption)
  k_with "k_ne" => (refine neN ?_; (try dsimp only); first | with_reducible assumption | lgec_go)
  k_with "fold_depth" => first | ((with_reducible show wpAny _ (Around.deeper (ktrTop _ _ _ _ _ _ _ _ _ _) _) _ _ _ _); refine wp_fold4 ?_; intro A1 q0 e0) | (refine wp_fold2 ?_; intro q00 e00)
  k_with "fold_lay" => ((show wpAny _ _ _ _ _ _); first | (fail_if_success k_fold) | ((try clear qf); refine wp_fold ?_; intro qf))
  k_with "k_steps" => ((try dsimp only); (try fold_lay); repeat' (first | (k_unfold; (try dsimp only)) | (k_end; wrow_close) | (walk1; (try ((first | (with_reducible show wpAny _ _ (exec _ _) _ _ _) | (with_reducible show wpAny _ _ (execs _ _) _ _ _)); (try dsimp only); fold_lay))) | (dsimp only; walk1) | (leave1; walk_say "STEP leave1"; try dsimp only) | fail "no step"))
  k_with "k_room" => first | exact fastR (by assumption) | ktr_room | (simp only [A1]; ktr_room)
  k_with "k_units" => first | ktr_units | (simp only [A1]; ktr_units)
  k_with "k_enter" => (refine' code_defC ?k1_32 ?k2_32 ?k3_32 ?k4_32 ?k5_32 ?kA_32 ?kF_32 ?kK_32 ?k6_32 ?k7_32 ?k8_32 ?k9_32 ?kB_32 ?kD_32 ?_ ?c2_32 ?c3_32 ?c4_32; (case kA_32 => exact rfl); (case kF_32 => exact rfl); (case kK_32 => assumption); (case k1_32 => k_asm); (case k2_32 => k_asm); (case k3_32 => k_asm); (case k4_32 => k_asm); (case k5_32 => k_asm); (case k6_32 => k_is); (case k7_32 => k_is); (case k8_32 => k_room); (case k9_32 => first | exact BindsTo.of_eq rfl | exact binds_K (by k_in) rfl (by k_is) rfl rfl rfl); (case kB_32 => exact rfl); (case kD_32 => decide +kernel); (case c2_32 => exact rfl); (case c3_32 => exact rfl); (case c4_32 => exact rfl); k_whole; intro g' L' h' tk' cells' FG' F' N' Y' B' X' T' l1; (try k_lt l1); refine hideG ?_; intro G0; k_cells Y'; (dsimp only [G0]); (try clear G0); (try simp only [List.cons_append, List.nil_append] at N'); (try dsimp only); (try fold_depth))
  k_with "k_enter" => (refine' code_def ?k1_33 ?k2_33 ?k3_33 ?k4_33 ?k5_33 ?kA_33 ?kF_33 ?kK_33 ?k6_33 ?k7_33 ?k8_33 ?k9_33 ?kB_33 ?_ ?c2_33 ?c3_33 ?c4_33 ?c5_33; (case kA_33 => exact rfl); (case kF_33 => exact rfl); (case kK_33 => assumption); (case k1_33 => k_asm); (case k2_33 => k_asm); (case k3_33 => k_asm); (case k4_33 => k_asm); (case k5_33 => k_asm); (case k6_33 => k_is); (case k7_33 => k_is); (case k8_33 => k_room); (case k9_33 => first | exact BindsTo.of_eq rfl | exact binds_K (by k_in) rfl (by k_is) rfl rfl rfl); (case c5_33 => decide); (case kB_33 => exact locs rfl); (case c2_33 => exact rfl); (case c3_33 => exact rfl); (case c4_33 => exact rfl); k_whole; intro g' L' h' FG' F' N' B' X' T'; (try dsimp only); (try fold_depth))
  trivial
section
variable {h₀ h : Heap} {L : Addr} {rest : Led} {a b x1 x2 x3 x4 x5 x6 : Addr × Obj}
theorem rot1 (N : News h₀ L h (x1 :: a :: b :: rest)) : News h₀ L h (a :: b :: x1 :: rest) := fun q hq => N q (subL [a, b, x1] [rest] (.c 0 (.c 1 (.c 2 (.s 0)))) (.c 2 (.c 0 (.c 1 (.s 0)))) rfl q hq)
theorem rot2 (N : News h₀ L h (x1 :: x2 :: a :: b :: rest)) : News h₀ L h (a :: b :: x1 :: x2 :: rest) := fun q hq => N q (subL [a, b, x1, x2] [rest] (.c 0 (.c 1 (.c 2 (.c 3 (.s 0))))) (.c 2 (.c 3 (.c 0 (.c 1 (.s 0))))) rfl q hq)
theorem rot3 (N : News h₀ L h (x1 :: x2 :: x3 :: a :: b :: rest)) : News h₀ L h (a :: b :: x1 :: x2 :: x3 :: rest) := fun q hq => N q (subL [a, b, x1, x2, x3] [rest] (.c 0 (.c 1 (.c 2 (.c 3 (.c 4 (.s 0)))))) (.c 2 (.c 3 (.c 4 (.c 0 (.c 1 (.s 0)))))) rfl q hq)
theorem rot4 (N : News h₀ L h (x1 :: x2 :: x3 :: x4 :: a :: b :: rest)) : News h₀ L h (a :: b :: x1 :: x2 :: x3 :: x4 :: rest) := fun q hq => N q (subL [a, b, x1, x2, x3, x4] [rest] (.c 0 (.c 1 (.c 2 (.c 3 (.c 4 (.c 5 (.s 0))))))) (.c 2 (.c 3 (.c 4 (.c 5 (.c 0 (.c 1 (.s 0))))))) rfl q hq)
theorem rot5 (N : News h₀ L h (x1 :: x2 :: x3 :: x4 :: x5 :: a :: b :: rest)) : News h₀ L h (a :: b :: x1 :: x2 :: x3 :: x4 :: x5 :: rest) := fun q hq => N q (subL [a, b, x1, x2, x3, x4, x5] [rest] (.c 0 (.c 1 (.c 2 (.c 3 (.c 4 (.c 5 (.c 6 (.s 0)))))))) (.c 2 (.c 3 (.c 4 (.c 5 (.c 6 (.c 0 (.c 1 (.s 0)))))))) rfl q hq)
theorem rot6 (N : News h₀ L h (x1 :: x2 :: x3 :: x4 :: x5 :: x6 :: a :: b :: rest)) : News h₀ L h (a :: b :: x1 :: x2 :: x3 :: x4 :: x5 :: x6 :: rest) := fun q hq => N q (subL [a, b, x1, x2, x3, x4, x5, x6] [rest] (.c 0 (.c 1 (.c 2 (.c 3 (.c 4 (.c 5 (.c 6 (.c 7 (.s 0))))))))) (.c 2 (.c 3 (.c 4 (.c 5 (.c 6 (.c 7 (.c 0 (.c 1 (.s 0))))))))) rfl q hq)
end
noncomputable def Above (old new : Led) : Prop := ∀ q ∈ old, ∀ y ∈ new, @LT.lt Nat _ q.1 y.1
-- the ledger with the pot ahead
theorem kw_W1_1 : True := by
  k_with "k_all" => assumption
  k_with "tb_start" => first | assumption | exact rot1 (by assumption) | exact rot2 (by assumption) | exact rot3 (by assumption) | exact rot4 (by assumption) | exact rot5 (by assumption) | exact rot6 (by assumption)
  k_with "call ref" => ((with_reducible show wpAny _ _ (call (Value.ref 400) _) _ _ _); k_dflt (refine' Calls.use ?k1_36 ?k2_36 ?k3_36 ?k4_36 ?k5_36 ?kK_36 ?C_36 ?kd_36 ?ku_36 ?_; (case k1_36 => k_asm); (case k2_36 => k_asm); (case k3_36 => k_asm); (case k4_36 => tb_start); (case k5_36 => k_asm); (case kK_36 => first | exact rfl | assumption); (case C_36 => exact draw_spec _ _ _ _ _ _ _ _ _ (by assumption) (by lgec_go) (by assumption) (by k_all) (by k_all) (by lgec_go) (by lgec_go)); (case kd_36 => first | exact fastD (by assumption) (by decide) | ktr_room); (case ku_36 => first | exact fastU (by assumption) (by decide) | ktr_units); k_whole; intro r' n' h' tk' F' N' hr'; refine hideG ?_; intro G0; (obtain ⟨x', t', e', hx0', hx1', e1', e2', hP', en'⟩ := hr'); subst e'; subst en'; (dsimp only [G0]); (try clear G0); (try k_sweep)))
  k_with "call ref" => ((with_reducible show wpAny _ _ (call (Value.ref 155) _) _ _ _); k_dflt (refine' Calls.use ?k1_37 ?k2_37 ?k3_37 ?k4_37 ?k5_37 ?kK_37 ?C_37 ?kd_37 ?ku_37 ?_; (case k1_37 => k_asm); (case k2_37 => k_asm); (case k3_37 => k_asm); (case k4_37 => k_asm); (case k5_37 => k_asm); (case kK_37 => first | exact rfl | assumption); (case C_37 => exact dec_make _ _ _ _ _ _ (by lgec_go) (by lgec_go) (by lgec_go) (by lgec_go)); (case kd_37 => first | exact fastD (by assumption) (by decide) | ktr_room); (case ku_37 => first | exact fastU (by assumption) (by decide) | ktr_units); k_whole; intro r' n' h' tk' F' N' hr'; refine hideG ?_; intro G0; (obtain ⟨x', d', T', P', t1', k1', t2', k2', n1', e', hz', hb1', hb2', hb3', l1', l2', e2'⟩ := hr'); subst e'; subst e2'; (try k_lt2 l2'); (dsimp only [G0]); (try clear G0); (try k_sweep)))
  trivial
theorem regrW {h₀ h : Heap} {L : Addr} {rest : Led} {a b x1 x2 : Addr × Obj} (N : News h₀ L h (x1 :: x2 :: a :: b :: rest)) : News h₀ L h (a :: b :: ([x1, x2] ++ rest)) := rot2 N
theorem fd2 {x : Int} (h : 0 ≤ x) (h2 : x < 12) : -1000000 ≤ 500 + 50 * x.fdiv 2 ∧ 500 + 50 * x.fdiv 2 ≤ 1000000 := by
  rw [Int.fdiv_eq_ediv_of_nonneg _ (by decide)]
  constructor <;> lgec_go
theorem above2 {p c d x : Addr} {e1 e2 e1' e2' o1 o2 : Obj} {rest : Led} (h : ∀ q ∈ (p, e1') :: (c, e2') :: rest, q.1 < d) (h2 : @LT.lt Nat _ d x) : Above ((p, e1) :: (c, e2) :: rest) [(x, o1), (d, o2)] := by
  intro q hq y hy
  have h3 : @LT.lt Nat _ q.1 d := by
    rcases List.mem_cons.mp hq with rfl | hq
    · exact h (p, e1') (.head _)
    · rcases List.mem_cons.mp hq with rfl | hq
      · exact h (c, e2') (.tail _ (.head _))
      · exact h q (.tail _ (.tail _ hq))
  rcases List.mem_cons.mp hy with rfl | hy
  · exact Nat.lt_trans h3 h2
  · rw [List.mem_singleton.mp hy]; exact h3
inductive WidthR (w : World) (p c : Addr) (e1 e2 : Obj) (B : Int) (rest : Led) (r : Value) (news' : Led) : Prop
  | mk (e1' e2' : Obj) (new : Led) (q : Num) (hP : PotIn (B + 3) c e1' e2') (en : news' = (p, e1') :: (c, e2') :: (new ++ rest)) (hA : Above ((p, e1) :: (c, e2) :: rest) new) (hn : NumIn w new r q) : WidthR w p c e1 e2 B rest r news'
theorem width_spec (w : World) (rest : Led) (p c : Addr) (e1 e2 : Obj) (B : Int) (hP : PotIn B c e1 e2) (hB : B + 3 < 1000000) (hpc : @Ne Nat p c) (offp : ∀ q ∈ rest, q.1 ≠ p) (offc : ∀ q ∈ rest, q.1 ≠ c) :
    Calls w 407 3 [.ref p] ((p, e1) :: (c, e2) :: rest) (WidthR w p c e1 e2 B rest) := by
  intro mean mg mb dp un gd cn cs a ccd cl outer A₀ base h₀ L m s Q E B F X N T hk hd hu hret
  k_steps
  · rename PotIn _ _ _ _ => hP'
    rename_i hx0 hx1 _ _ _ _ _ _ _ _ _ _ _
    refine hret _ _ _ _ (by k_asm) (by k_asm) ⟨_, _, [], _, PotIn.mono hP' (by lgec_go), rfl, (fun _ _ _ h => nomatch h), NumIn.int (fd2 ?_ ?_).1 (fd2 ?_ ?_).2⟩ <;> lgec_go
  · rename PotIn _ _ _ _ => hP'
    exact hret _ _ _ _ (by k_asm) (regrW (by assumption)) ⟨_, _, [(_, _), (_, _)], _, PotIn.mono hP' (by lgec_go), rfl, above2 (by assumption) (by assumption), NumIn.dec (by assumption) (by assumption) (by assumption) (.head _) (.tail _ (.head _))⟩

end
section
theorem kw_T1_0 : True := by
  k_with_none
  k_with "om" => first | decide
  k_with "k_ne" => (refine neN ?_; (try dsimp only); first | with_reducible assumption | lgec_go)
  k_with "fold_depth" => first | ((with_reducible show wpAny _ (Around.deeper (ktrTop _ _ _ _ _ _ _ _ _ _) _) _ _ _ _); refine wp_fold4 ?_; intro A1 q0 e0) | (refine wp_fold2 ?_; intro q00 e00)
  k_with "fold_lay" => ((show wpAny _ _ _ _ _ _); first | (fail_if_success k_fold) | ((try clear qf); refine wp_fold ?_; intro qf))
  k_with "k_steps" => ((try dsimp only); (try fold_lay); repeat' (first | (k_unfold; (try dsimp only)) | (k_end; wrow_close) | (walk1; (try ((first | (with_reducible show wpAny _ _ (exec _ _) _ _ _) | (with_reducible show wpAny _ _ (execs _ _) _ _ _)); (try dsimp only); fold_lay))) | (dsimp only; walk1) | (leave1; walk_say "STEP leave1"; try dsimp only) | fail "no step"))
  k_with "k_room" => first | exact fastR (by assumption) | ktr_room | (simp only [A1]; ktr_room)
  k_with "k_units" => first | ktr_units | (simp only [A1]; ktr_units)
  k_with "k_enter" => (refine' code_defC ?k1_43 ?k2_43 ?k3_43 ?k4_43 ?k5_43 ?kA_43 ?kF_43 ?kK_43 ?k6_43 ?k7_43 ?k8_43 ?k9_43 ?kB_43 ?kD_43 ?_ ?c2_43 ?c3_43 ?c4_43; (case kA_43 => exact rfl); (case kF_43 => exact rfl); (case kK_43 => assumption); (case k1_43 => k_asm); (case k2_43 => k_asm); (case k3_43 => k_asm); (case k4_43 => k_asm); (case k5_43 => k_asm); (case k6_43 => k_is); (case k7_43 => k_is); (case k8_43 => k_room); (case k9_43 => first | exact BindsTo.of_eq rfl | exact binds_K (by k_in) rfl (by k_is) rfl rfl rfl); (case kB_43 => exact rfl); (case kD_43 => decide +kernel); (case c2_43 => exact rfl); (case c3_43 => exact rfl); (case c4_43 => exact rfl); k_whole; intro g' L' h' tk' cells' FG' F' N' Y' B' X' T' l1; (try k_lt l1); refine hideG ?_; intro G0; k_cells Y'; (dsimp only [G0]); (try clear G0); (try simp only [List.cons_append, List.nil_append] at N'); (try dsimp only); (try fold_depth))
  k_with "k_enter" => (refine' code_def ?k1_44 ?k2_44 ?k3_44 ?k4_44 ?k5_44 ?kA_44 ?kF_44 ?kK_44 ?k6_44 ?k7_44 ?k8_44 ?k9_44 ?kB_44 ?_ ?c2_44 ?c3_44 ?c4_44 ?c5_44; (case kA_44 => exact rfl); (case kF_44 => exact rfl); (case kK_44 => assumption); (case k1_44 => k_asm); (case k2_44 => k_asm); (case k3_44 => k_asm); (case k4_44 => k_asm); (case k5_44 => k_asm); (case k6_44 => k_is); (case k7_44 => k_is); (case k8_44 => k_room); (case k9_44 => first | exact BindsTo.of_eq rfl | exact binds_K (by k_in) rfl (by k_is) rfl rfl rfl); (case c5_44 => decide); (case kB_44 => exact locs rfl); (case c2_44 => exact rfl); (case c3_44 => exact rfl); (case c4_44 => exact rfl); k_whole; intro g' L' h' FG' F' N' B' X' T'; (try dsimp only); (try fold_depth))
  trivial
noncomputable def Stop (P : Prop) : Prop := P
theorem Stop.mk {P : Prop} (h : Stop P) : P := h
theorem Stop.on {P : Prop} (h : P) : Stop P := h
noncomputable def Has (m : Str → Option Value) : List (Str × Value) → Prop
  | [] => True
  | (x, v) :: r => m x = some v ∧ Has m r
noncomputable def pin : List (Str × Value) → (Str → Option Value) → Str → Option Value
  | [], m => m
  | (x, v) :: r, m => fun y => if y = x then some v else pin r m y
theorem pin_eq {m : Str → Option Value} : ∀ {ps : List (Str × Value)}, Has m ps → pin ps m = m
  | [], _ => rfl
  | (x, v) :: r, ⟨a, b⟩ => by
    funext y
    show (if y = x then some v else pin r m y) = m y
    rw [pin_eq b]
    by_cases h : y = x
    · rw [if_pos h, h, a]
    · rw [if_neg h]
theorem pinned {h₀ h : Heap} {L : Addr} {m : Str → Option Value} {ps : List (Str × Value)} (F : Fr h₀ L h m) (H : Has m ps) : Fr h₀ L h (pin ps m) := (pin_eq H).symm ▸ F
theorem pinned1 {h₀ h : Heap} {L : Addr} {x : Str} {v : Value} {m : Str → Option Value} {ps : List (Str × Value)} (F : Fr h₀ L h (fun y => if y = x then some v else m y)) (H : Has m ps) : Fr h₀ L h (fun y => if y = x then some v else pin ps m y) := (pin_eq H).symm ▸ F
noncomputable def TurnJ (h₀ : Heap) (L : Addr) (I : Addr) (oI : Obj) (Jn : (Str → Option Value) → Led → Prop) (s₁ : Shared) (Q : Flow → Shared → Prop) (f : Flow) (s₂ : Shared) : Prop :=
  match f with
  | .ret v => Q (.ret v) s₂
  | .brk => Q .next s₂
  | _ => ∃ h' tk m' news', s₂ = { s₁ with heap := h', toks := tk } ∧ Fr h₀ L h' m' ∧ News h₀ L h' ((I, oI) :: news') ∧ (∀ q ∈ news', q.1 ≠ I) ∧ Jn m' news'
theorem TurnJ.step {h₀ : Heap} {L I : Addr} {oI : Obj} {Jn : (Str → Option Value) → Led → Prop} {s₁ : Shared} {Q : Flow → Shared → Prop} {h' : Heap} {tk : Nat} {m' : Str → Option Value} {news' : Led} (F : Fr h₀ L h' m') (N : News h₀ L h' ((I, oI) :: news')) (o : ∀ q ∈ news', q.1 ≠ I) (j : Jn m' news') :
    TurnJ h₀ L I oI Jn s₁ Q .next { s₁ with heap := h', toks := tk } := ⟨h', tk, m', news', rfl, F, N, o, j⟩
theorem wstep {h₀ : Heap} {L : Addr} {s : Shared} {J : Nat → (Str → Option Value) → Led → Prop} {Q : Flow → Shared → Prop} {n n' : Nat} {h' : Heap} {tk : Nat} {m₂ : Str → Option Value} {news₂ : Led} (F : Fr h₀ L h' m₂) (N : News h₀ L h' news₂) (lt : n' < n) (j : J n' m₂ news₂) :
    WhileStep2 h₀ L s J Q n .next { s with heap := h', toks := tk } := ⟨h', tk, m₂, news₂, n', rfl, F, N, lt, j⟩
section
variable {prog : Program} {w : World} {A : Around} {E : Value → Shared → Prop} {s : Shared} {env : Env} {h₀ : Heap} {x : Str} {body : List Stmt} {Q : Flow → Shared → Prop}
theorem loop_walks {I : Addr} {n : Nat} {P : Nat → Value → Prop} {St : Nat → Heap → Prop} {m₀ : Str → Option Value} {news : Led} (J : Nat → (Str → Option Value) → Led → Prop)
    (W : Walks prog w A I [I] [I] n P St) (hI₀ : h₀.get? I = none) (hLI : env.locals ≠ I) (hoffI : ∀ p ∈ news, p.1 ≠ I) (hst : St 0 s.heap) (hstI : ∀ i h, St i h → ∃ o, h.get? I = some o) (F : Fr h₀ env.locals s.heap m₀) (N : News h₀ env.locals s.heap news) (h0 : J 0 m₀ news)
    (turn : ∀ i v m₁ news₁ oI h tk, i < n → P i v → J i m₁ news₁ → (∀ q ∈ news₁, q.1 ≠ I) → Fr h₀ env.locals h (fun y => if y = x then some v else m₁ y) → News h₀ env.locals h ((I, oI) :: news₁) →
      wpAny (model prog w) A (execs body env) (TurnJ h₀ env.locals I oI (J (i + 1)) { s with heap := h, toks := tk } Q) E { s with heap := h, toks := tk })
    (done : ∀ m₁ news₁ h tk, J n m₁ news₁ → Fr h₀ env.locals h m₁ → News h₀ env.locals h news₁ → Q .next { s with heap := h, toks := tk }) :
    LoopAtV prog w A h₀ env x body Q E (.ref I) s := by
  refine ⟨I, [I], [I], n, P, St, m₀, news, J, rfl, W, ?_, ?_, ?_, hst, F, N, h0, ?_, ?_⟩
  · intro hm
    exact hLI (List.mem_singleton.mp hm)
  · intro b hb
    rw [List.mem_singleton.mp hb]
    exact hI₀
  · intro p hp hI
    exact hoffI p hp (List.mem_singleton.mp hI)
  · rintro i v m₁ news₁ s₁ own ⟨hh', tk', rfl⟩ hi hP hJ hoff hsub hget hall hst F₁ N₁
    obtain ⟨oI, hst'⟩ : ∃ o, hh'.get? I = some o := hstI _ _ hst
    have hown := hall _ (List.mem_singleton.mpr rfl) hI₀ _ hst'
    have hoff' : ∀ q ∈ news₁, q.1 ≠ I := fun q hq e => hoff q hq (List.mem_singleton.mpr e)
    refine wpAny_mono (turn i v m₁ news₁ oI hh' tk' hi hP hJ hoff' F₁ (fun p hp => ?_)) (fun f s₂ p => ?_) fun _ _ e => e
    · rcases List.mem_cons.mp hp with rfl | hp
      · exact N₁ _ (List.mem_append_left _ hown)
      · exact N₁ _ (List.mem_append_right _ hp)
    have fin : (∃ h' tk m' news', s₂ = { s with heap := h', toks := tk } ∧ Fr h₀ env.locals h' m' ∧ News h₀ env.locals h' ((I, oI) :: news') ∧ (∀ q ∈ news', q.1 ≠ I) ∧ J (i + 1) m' news') →
        LoopStepU h₀ env.locals [I] own (J (i + 1)) { s with heap := hh', toks := tk' } .next s₂ := by
      rintro ⟨h', tk, m', news', e, F', N', ho, hm⟩
      refine ⟨rfl, h', tk, m', news', e, F', fun p hp => ?_, fun p hp hI => ho p hp (List.mem_singleton.mp hI), hm⟩
      rcases List.mem_append.mp hp with hp | hp
      · have h1 : p.1 = I := List.mem_singleton.mp (hsub p hp)
        have h2 := hget p hp
        rw [h1] at h2
        have h3 : hh'.get? I = some p.2 := h2
        rw [hst'] at h3
        have : p = (I, oI) := Prod.ext h1 (Option.some.inj h3).symm
        rw [this]
        exact N' _ (.head _)
      · exact N' _ (.tail _ hp)
    cases f with
    | ret v => exact .ret p
    | brk => exact .brk p
    | next => exact .next (fin p)
    | cont => exact .cont (fin p)
  · rintro h' tk m' news' F' N' _ hJ
    exact done m' news' h' tk hJ F' N'
theorem loop_range {r : Addr} {a₀ b₀ : Int} {t₀ u₀ v₀ : Tok} {n : Nat} {m₀ : Str → Option Value} {news : Led} (J : Nat → (Str → Option Value) → Led → Prop)
    (hh : A.handled = none) (hr : IsRange s.heap r a₀ b₀ 1 t₀ u₀ v₀) (hsmall : Builtin.Range.small a₀ b₀ 1 = true) (hn : Builtin.Range.rangeSize a₀ b₀ 1 = (n : Int)) (F : Fr h₀ env.locals s.heap m₀) (N : News h₀ env.locals s.heap news) (h0 : J 0 m₀ news)
    (turn : ∀ i t m₁ news₁ I oI h tk, i < n → J i m₁ news₁ → (∀ q ∈ news₁, q.1 ≠ I) → (∀ q ∈ news, q.1 < I) → Fr h₀ env.locals h (fun y => if y = x then some (.int (a₀ + (i : Int)) t) else m₁ y) → News h₀ env.locals h ((I, oI) :: news₁) →
      wpAny (model prog w) A (execs body env) (TurnJ h₀ env.locals I oI (J (i + 1)) { s with heap := h, toks := tk } Q) E { s with heap := h, toks := tk })
    (done : ∀ m₁ news₁ h tk, J n m₁ news₁ → Fr h₀ env.locals h m₁ → News h₀ env.locals h news₁ → Q .next { s with heap := h, toks := tk }) :
    wpAny (model prog w) A (pyIter (.ref r)) (fun it s₂ => LoopAtV prog w A h₀ env x body Q E it s₂) E s := by
  refine wpAny_pyIter_range hr hsmall ?_
  have W : Walks prog w A s.heap.objs.size [s.heap.objs.size] [s.heap.objs.size] n (fun i v => i < n ∧ ∃ t, v = .int (a₀ + i * 1) t)
      (fun i h => IsRangeIter h s.heap.objs.size (a₀ + (i : Nat) * 1) ((n : Int) - (i : Nat)) 1) := (Walks.range hh _ a₀ 1 n).bound
  refine loop_walks J W (next_is_new F) (fun e => absurd F.ns.lt (e ▸ Nat.lt_irrefl _)) (fun p hp e => absurd (Heap.lt_size (N p hp).1) (e ▸ Nat.lt_irrefl _)) (by show IsRangeIter _ _ _ _ _; rw [hn]; simpa using Heap.get?_push_size _ rfl) (fun i h hst => ⟨_, hst⟩) (F.push _) (fun p hp => ⟨Heap.get?_push_of_some _ (N p hp).1, (N p hp).2⟩) h0 ?_ done
  rintro i v m₁ news₁ oI h tk hi ⟨_, t, rfl⟩ hJ hoff F₁ N₁
  rw [Int.mul_one] at F₁
  exact turn i t m₁ news₁ _ oI h tk hi hJ hoff (fun p hp => Heap.lt_size (N p hp).1) F₁ N₁
end

end
section
theorem kw_T2_0 : True := by
  k_with_none
  k_with "om" => first | decide | (with_reducible first | apply om126 <;> assumption | apply om127 <;> assumption | apply om128 <;> assumption | apply om129 <;> assumption | apply om130 <;> assumption | apply om131 <;> assumption)
  k_with "k_ne" => (refine neN ?_; (try dsimp only); first | with_reducible assumption | lgec_go)
  k_with "fold_depth" => first | ((with_reducible show wpAny _ (Around.deeper (ktrTop _ _ _ _ _ _ _ _ _ _) _) _ _ _ _); refine wp_fold4 ?_; intro A1 q0 e0) | (refine wp_fold2 ?_; intro q00 e00)
  k_with "fold_lay" => ((show wpAny _ _ _ _ _ _); first | (fail_if_success k_fold) | ((try clear qf); refine wp_fold ?_; intro qf))
  k_with "k_steps" => ((try dsimp only); (try fold_lay); repeat' (first | (k_unfold; (try dsimp only)) | (k_end; wrow_close) | (walk1; (try ((first | (with_reducible show wpAny _ _ (exec _ _) _ _ _) | (with_reducible show wpAny _ _ (execs _ _) _ _ _)); (try dsimp only); fold_lay))) | (dsimp only; walk1) | (leave1; walk_say "STEP leave1"; try dsimp only) | fail "no step"))
  k_with "k_room" => first | exact fastR (by assumption) | ktr_room | (simp only [A1]; ktr_room)
  k_with "k_units" => first | ktr_units | (simp only [A1]; ktr_units)
  k_with "k_enter" => (refine' code_defC ?k1_50 ?k2_50 ?k3_50 ?k4_50 ?k5_50 ?kA_50 ?kF_50 ?kK_50 ?k6_50 ?k7_50 ?k8_50 ?k9_50 ?kB_50 ?kD_50 ?_ ?c2_50 ?c3_50 ?c4_50; (case kA_50 => exact rfl); (case kF_50 => exact rfl); (case kK_50 => assumption); (case k1_50 => k_asm); (case k2_50 => k_asm); (case k3_50 => k_asm); (case k4_50 => k_asm); (case k5_50 => k_asm); (case k6_50 => k_is); (case k7_50 => k_is); (case k8_50 => k_room); (case k9_50 => first | exact BindsTo.of_eq rfl | exact binds_K (by k_in) rfl (by k_is) rfl rfl rfl); (case kB_50 => exact rfl); (case kD_50 => decide +kernel); (case c2_50 => exact rfl); (case c3_50 => exact rfl); (case c4_50 => exact rfl); k_whole; intro g' L' h' tk' cells' FG' F' N' Y' B' X' T' l1; (try k_lt l1); refine hideG ?_; intro G0; k_cells Y'; (dsimp only [G0]); (try clear G0); (try simp only [List.cons_append, List.nil_append] at N'); (try dsimp only); (try fold_depth))
  k_with "k_enter" => (refine' code_def ?k1_51 ?k2_51 ?k3_51 ?k4_51 ?k5_51 ?kA_51 ?kF_51 ?kK_51 ?k6_51 ?k7_51 ?k8_51 ?k9_51 ?kB_51 ?_ ?c2_51 ?c3_51 ?c4_51 ?c5_51; (case kA_51 => exact rfl); (case kF_51 => exact rfl); (case kK_51 => assumption); (case k1_51 => k_asm); (case k2_51 => k_asm); (case k3_51 => k_asm); (case k4_51 => k_asm); (case k5_51 => k_asm); (case k6_51 => k_is); (case k7_51 => k_is); (case k8_51 => k_room); (case k9_51 => first | exact BindsTo.of_eq rfl | exact binds_K (by k_in) rfl (by k_is) rfl rfl rfl); (case c5_51 => decide); (case kB_51 => exact locs rfl); (case c2_51 => exact rfl); (case c3_51 => exact rfl); (case c4_51 => exact rfl); k_whole; intro g' L' h' FG' F' N' B' X' T'; (try dsimp only); (try fold_depth))
  trivial
noncomputable def Apart (old new : Led) : Prop := ∀ q ∈ old, ∀ y ∈ new, @Ne Nat y.1 q.1
theorem Above.apart {old new : Led} (h : Above old new) : Apart old new := fun q hq y hy => Nat.ne_of_gt (h q hq y hy)
theorem Apart.mono {old old' new new' : Led} (h : Apart old new) (hs : ∀ q ∈ old', ∃ q' ∈ old, q'.1 = q.1) (hn : ∀ y ∈ new', y ∈ new) : Apart old' new' := fun q hq y hy => by
  obtain ⟨q', h1, e⟩ := hs q hq
  exact e ▸ h q' h1 y (hn y hy)
theorem Apart.sub {old old' new new' : Led} (h : Apart old new) (hs : ∀ q ∈ old', q ∈ old) (hn : ∀ y ∈ new', y ∈ new) : Apart old' new' := fun q hq y hy => h q (hs q hq) y (hn y hy)
theorem Apart.nil {old : Led} : Apart old [] := fun _ _ _ h => nomatch h
theorem Apart.app {old n1 n2 : Led} (h1 : Apart old n1) (h2 : Apart old n2) : Apart old (n1 ++ n2) := fun q hq y hy => (List.mem_append.mp hy).elim (h1 q hq y) (h2 q hq y)
theorem Apart.cons {old n : Led} {a : Addr} {o : Obj} (h1 : ∀ q ∈ old, q.1 ≠ a) (h2 : Apart old n) : Apart old ((a, o) :: n) := fun q hq y hy => by
  rcases List.mem_cons.mp hy with rfl | hy
  · exact Ne.symm (h1 q hq)
  · exact h2 q hq y hy
structure GrowK (keys : List Addr) (rest rest' : Led) : Prop where
  sub : ∀ y ∈ rest, y ∈ rest'
  new : ∀ d ∈ keys, ∀ y ∈ rest', y ∈ rest ∨ @Ne Nat y.1 d
theorem GrowK.off {keys : List Addr} {rest rest' : Led} {d : Addr} (h : GrowK keys rest rest') (hd : d ∈ keys) (o : ∀ y ∈ rest, y.1 ≠ d) : ∀ y ∈ rest', y.1 ≠ d := fun y hy =>
  (h.new d hd y hy).elim (o y) fun l => l
theorem GrowK.refl {keys : List Addr} {rest : Led} : GrowK keys rest rest := ⟨fun _ h => h, fun _ _ _ h => .inl h⟩
theorem GrowK.cons {ks : List Addr} {l : Addr} {o : Obj} {rest rest' : Led} (h : GrowK ks rest rest') (hl : ∀ d ∈ ks, @Ne Nat l d) : GrowK ks rest ((l, o) :: rest') :=
  ⟨fun y hy => .tail _ (h.sub y hy), fun e he y hy => by
    rcases List.mem_cons.mp hy with rfl | hy
    · exact .inr (hl e he)
    · exact h.new e he y hy⟩
theorem GrowK.trans {ks ks' : List Addr} {a b c : Led} (h : GrowK ks a b) (h' : GrowK ks' b c) (hk : ∀ d ∈ ks, d ∈ ks') : GrowK ks a c :=
  ⟨fun y hy => h'.sub y (h.sub y hy), fun e he y hy => (h'.new e (hk e he) y hy).elim (fun q => h.new e he y q) .inr⟩
theorem GrowK.app {d : Addr} {rest new : Led} (h : ∀ y ∈ new, @LT.lt Nat _ d y.1) : GrowK [d] rest (new ++ rest) :=
  ⟨fun y hy => List.mem_append_right _ hy, fun e he y hy => by
    rw [List.mem_singleton.mp he]
    exact (List.mem_append.mp hy).elim (fun q => .inr (Nat.ne_of_gt (h y q))) .inl⟩
theorem growK_of {as : List Addr} {old new rest : Led} (hA : Apart old new) (h : ∀ d ∈ as, ∃ o, (d, o) ∈ old) : GrowK as rest (new ++ rest) :=
  ⟨fun y hy => List.mem_append_right _ hy, fun d hd y hy => by
    rcases List.mem_append.mp hy with hy | hy
    · obtain ⟨o, hm⟩ := h d hd
      exact .inr (hA _ hm y hy)
    · exact .inl hy⟩
theorem allLt_off {d : Addr} : ∀ {rest : Led}, AllLt d rest → ∀ y ∈ rest, y.1 ≠ d
  | [], _, _, h => nomatch h
  | _ :: _, ⟨a, b⟩, y, h => by
    rcases List.mem_cons.mp h with rfl | h
    · exact Nat.ne_of_lt a
    · exact allLt_off b y h
theorem allLt_lt {d : Addr} : ∀ {rest : Led}, AllLt d rest → ∀ y ∈ rest, @LT.lt Nat _ y.1 d
  | [], _, _, h => nomatch h
  | _ :: _, ⟨a, b⟩, y, h => by
    rcases List.mem_cons.mp h with rfl | h
    · exact a
    · exact allLt_lt b y h
theorem above_nil {old : Led} : Above old [] := fun _ _ _ h => nomatch h
section
variable {h₀ h : Heap} {L : Addr} {new rest : Led} {a b a' b' : Addr × Obj}
inductive GrowR (new rest : Led) (N : Led → Prop) (ks : List Addr) : Prop
  | mk (rest' : Led) : rest' = new ++ rest → N rest' → GrowK ks rest rest' → (∀ y ∈ new, y ∈ rest') → GrowR new rest N ks
theorem growG {pre pre' mid : Led} (N : News h₀ L h (pre ++ (new ++ (mid ++ rest)))) (G : Apart (pre' ++ (mid ++ rest)) new) (e : pre'.map Prod.fst = pre.map Prod.fst) :
    GrowR new rest (fun r => News h₀ L h (pre ++ (mid ++ r))) (pre.map Prod.fst ++ mid.map Prod.fst) := by
  refine ⟨new ++ rest, rfl, fun q hq => N q ?_, growK_of G (fun d hd => ?_), fun y hy => List.mem_append_left _ hy⟩
  · simp only [List.mem_append] at hq ⊢
    grind
  · rw [← e, ← List.map_append] at hd
    obtain ⟨q, hq, rfl⟩ := List.mem_map.mp hd
    exact ⟨q.2, by rw [← List.append_assoc]; exact List.mem_append_left _ hq⟩
theorem two_eq {a b a' b' : Addr} (h : a' = a) (g : b' = b) : [a', b'] = [a, b] := h ▸ g ▸ rfl
theorem grow0 (N : News h₀ L h (a :: b :: (new ++ (rest)))) (G : Apart (a' :: b' :: rest) new) (ea : a'.1 = a.1) (eb : b'.1 = b.1) :
    GrowR new rest (fun rest' => News h₀ L h (a :: b :: rest')) [a.1, b.1] := growG (pre := [a, b]) (pre' := [a', b']) (mid := []) N G (two_eq ea eb)
theorem grow1 {x1 : Addr × Obj} (N : News h₀ L h (a :: b :: (new ++ (x1 :: rest)))) (G : Apart (a' :: b' :: x1 :: rest) new) (ea : a'.1 = a.1) (eb : b'.1 = b.1) :
    GrowR new rest (fun rest' => News h₀ L h (a :: b :: x1 :: rest')) [a.1, b.1, x1.1] := growG (pre := [a, b]) (pre' := [a', b']) (mid := [x1]) N G (two_eq ea eb)
theorem grow2 {x1 x2 : Addr × Obj} (N : News h₀ L h (a :: b :: (new ++ (x1 :: x2 :: rest)))) (G : Apart (a' :: b' :: x1 :: x2 :: rest) new) (ea : a'.1 = a.1) (eb : b'.1 = b.1) :
    GrowR new rest (fun rest' => News h₀ L h (a :: b :: x1 :: x2 :: rest')) [a.1, b.1, x1.1, x2.1] := growG (pre := [a, b]) (pre' := [a', b']) (mid := [x1, x2]) N G (two_eq ea eb)
theorem grow3 {x1 x2 x3 : Addr × Obj} (N : News h₀ L h (a :: b :: (new ++ (x1 :: x2 :: x3 :: rest)))) (G : Apart (a' :: b' :: x1 :: x2 :: x3 :: rest) new) (ea : a'.1 = a.1) (eb : b'.1 = b.1) :
    GrowR new rest (fun rest' => News h₀ L h (a :: b :: x1 :: x2 :: x3 :: rest')) [a.1, b.1, x1.1, x2.1, x3.1] := growG (pre := [a, b]) (pre' := [a', b']) (mid := [x1, x2, x3]) N G (two_eq ea eb)
theorem grow4 {x1 x2 x3 x4 : Addr × Obj} (N : News h₀ L h (a :: b :: (new ++ (x1 :: x2 :: x3 :: x4 :: rest)))) (G : Apart (a' :: b' :: x1 :: x2 :: x3 :: x4 :: rest) new) (ea : a'.1 = a.1) (eb : b'.1 = b.1) :
    GrowR new rest (fun rest' => News h₀ L h (a :: b :: x1 :: x2 :: x3 :: x4 :: rest')) [a.1, b.1, x1.1, x2.1, x3.1, x4.1] := growG (pre := [a, b]) (pre' := [a', b']) (mid := [x1, x2, x3, x4]) N G (two_eq ea eb)
theorem grow5 {x1 x2 x3 x4 x5 : Addr × Obj} (N : News h₀ L h (a :: b :: (new ++ (x1 :: x2 :: x3 :: x4 :: x5 :: rest)))) (G : Apart (a' :: b' :: x1 :: x2 :: x3 :: x4 :: x5 :: rest) new) (ea : a'.1 = a.1) (eb : b'.1 = b.1) :
    GrowR new rest (fun rest' => News h₀ L h (a :: b :: x1 :: x2 :: x3 :: x4 :: x5 :: rest')) [a.1, b.1, x1.1, x2.1, x3.1, x4.1, x5.1] := growG (pre := [a, b]) (pre' := [a', b']) (mid := [x1, x2, x3, x4, x5]) N G (two_eq ea eb)
theorem grow6 {x1 x2 x3 x4 x5 x6 : Addr × Obj} (N : News h₀ L h (a :: b :: (new ++ (x1 :: x2 :: x3 :: x4 :: x5 :: x6 :: rest)))) (G : Apart (a' :: b' :: x1 :: x2 :: x3 :: x4 :: x5 :: x6 :: rest) new) (ea : a'.1 = a.1) (eb : b'.1 = b.1) :
    GrowR new rest (fun rest' => News h₀ L h (a :: b :: x1 :: x2 :: x3 :: x4 :: x5 :: x6 :: rest')) [a.1, b.1, x1.1, x2.1, x3.1, x4.1, x5.1, x6.1] := growG (pre := [a, b]) (pre' := [a', b']) (mid := [x1, x2, x3, x4, x5, x6]) N G (two_eq ea eb)
theorem grow7 {x1 x2 x3 x4 x5 x6 x7 : Addr × Obj} (N : News h₀ L h (a :: b :: (new ++ (x1 :: x2 :: x3 :: x4 :: x5 :: x6 :: x7 :: rest)))) (G : Apart (a' :: b' :: x1 :: x2 :: x3 :: x4 :: x5 :: x6 :: x7 :: rest) new) (ea : a'.1 = a.1) (eb : b'.1 = b.1) :
    GrowR new rest (fun rest' => News h₀ L h (a :: b :: x1 :: x2 :: x3 :: x4 :: x5 :: x6 :: x7 :: rest')) [a.1, b.1, x1.1, x2.1, x3.1, x4.1, x5.1, x6.1, x7.1] := growG (pre := [a, b]) (pre' := [a', b']) (mid := [x1, x2, x3, x4, x5, x6, x7]) N G (two_eq ea eb)
end
theorem Calls.useP {w : World} {f : Addr} {H : Nat} {p c : Addr} {e1 e2 : Obj} {args : List Value} {rest : Led} {Ret : Value → Led → Prop} {mean : ExcName → Option Value} {mg mb : Str → Option Value} {dp un : Nat} {gd : Option (List Code)} {cn : Str} {cs : Scope} {a : Addr} {ccd : Value} {cl : List (Str × Addr)} {outer : List Env} {A₀ : Around} {base h₀ : Heap} {L : Addr} {m : Str → Option Value} {s : Shared}
    {Q E : Value → Shared → Prop} (B : Below A₀ base outer h₀) (F : Fr h₀ L s.heap m) (X : (hd.heap_39 w.params).In h₀) (N : News h₀ L s.heap ((p, e1) :: (c, e2) :: rest)) (T : Top hd.view_39 Lo mean mg mb h₀) (hk : cs.kind = .function)
    (C : Calls w f H (.ref p :: args) ((p, e1) :: (c, e2) :: rest) Ret) (hd' : dp + H < recursionLimit) (hu : un + 8 * H < cLine)
    (ret : ∀ r news' h' tk', Fr h₀ L h' m → News h₀ L h' news' → Ret r news' → Q r { s with heap := h', toks := tk' }) :
    wpAny (model PySem.Challenge.rw_nn0211_01.row.prog w) (ktrTop dp un gd cn cs L a ccd cl outer) (call (.ref f) (.ref p :: args)) Q E s := Calls.use B F X N T hk C hd' hu ret
theorem range_small {a b : Int} (ha : -(2 ^ 62) ≤ a) (ha' : a < 2 ^ 62) (hb : -(2 ^ 62) ≤ b) (hb' : b < 2 ^ 62) : Builtin.Range.small a b 1 = true := by
  unfold Builtin.Range.small
  rw [rangeSize_one]
  simp only [Builtin.Range.rangeFitsLong, Bool.and_eq_true, decide_eq_true_eq, Bool.or_eq_true, beq_iff_eq]
  split <;> simp <;> lgec_go
theorem range_n {a b : Int} : Builtin.Range.rangeSize a b 1 = ((b - a).toNat : Int) := by
  rw [rangeSize_one]
  split <;> lgec_go
theorem range_n0 {b : Int} : Builtin.Range.rangeSize 0 b 1 = (b.toNat : Int) := by
  rw [rangeSize_one]
  split <;> lgec_go
theorem sub_mem {a b : Led} {x : Addr × Obj} (h : ∀ p ∈ a, p ∈ b) (m : x ∈ a) : x ∈ b := h x m
theorem GrowK.mem {ks : List Addr} {a b : Led} {x : Addr × Obj} (h : GrowK ks a b) (m : x ∈ a) : x ∈ b := h.sub x m

end
section
theorem kw_E1_0 : True := by
  k_with_none
  k_with "om" => first | decide
  k_with "k_ne" => (refine neN ?_; (try dsimp only); first | with_reducible assumption | lgec_go)
  k_with "fold_depth" => first | ((with_reducible show wpAny _ (Around.deeper (ktrTop _ _ _ _ _ _ _ _ _ _) _) _ _ _ _); refine wp_fold4 ?_; intro A1 q0 e0) | (refine wp_fold2 ?_; intro q00 e00)
  k_with "fold_lay" => ((show wpAny _ _ _ _ _ _); first | (fail_if_success k_fold) | ((try clear qf); refine wp_fold ?_; intro qf))
  k_with "k_steps" => ((try dsimp only); (try fold_lay); repeat' (first | (k_unfold; (try dsimp only)) | (k_end; wrow_close) | (walk1; (try ((first | (with_reducible show wpAny _ _ (exec _ _) _ _ _) | (with_reducible show wpAny _ _ (execs _ _) _ _ _)); (try dsimp only); fold_lay))) | (dsimp only; walk1) | (leave1; walk_say "STEP leave1"; try dsimp only) | fail "no step"))
  k_with "k_room" => first | exact fastR (by assumption) | ktr_room | (simp only [A1]; ktr_room)
  k_with "k_units" => first | ktr_units | (simp only [A1]; ktr_units)
  k_with "k_enter" => (refine' code_defC ?k1_57 ?k2_57 ?k3_57 ?k4_57 ?k5_57 ?kA_57 ?kF_57 ?kK_57 ?k6_57 ?k7_57 ?k8_57 ?k9_57 ?kB_57 ?kD_57 ?_ ?c2_57 ?c3_57 ?c4_57; (case kA_57 => exact rfl); (case kF_57 => exact rfl); (case kK_57 => assumption); (case k1_57 => k_asm); (case k2_57 => k_asm); (case k3_57 => k_asm); (case k4_57 => k_asm); (case k5_57 => k_asm); (case k6_57 => k_is); (case k7_57 => k_is); (case k8_57 => k_room); (case k9_57 => first | exact BindsTo.of_eq rfl | exact binds_K (by k_in) rfl (by k_is) rfl rfl rfl); (case kB_57 => exact rfl); (case kD_57 => decide +kernel); (case c2_57 => exact rfl); (case c3_57 => exact rfl); (case c4_57 => exact rfl); k_whole; intro g' L' h' tk' cells' FG' F' N' Y' B' X' T' l1; (try k_lt l1); refine hideG ?_; intro G0; k_cells Y'; (dsimp only [G0]); (try clear G0); (try simp only [List.cons_append, List.nil_append] at N'); (try dsimp only); (try fold_depth))
  k_with "k_enter" => (refine' code_def ?k1_58 ?k2_58 ?k3_58 ?k4_58 ?k5_58 ?kA_58 ?kF_58 ?kK_58 ?k6_58 ?k7_58 ?k8_58 ?k9_58 ?kB_58 ?_ ?c2_58 ?c3_58 ?c4_58 ?c5_58; (case kA_58 => exact rfl); (case kF_58 => exact rfl); (case kK_58 => assumption); (case k1_58 => k_asm); (case k2_58 => k_asm); (case k3_58 => k_asm); (case k4_58 => k_asm); (case k5_58 => k_asm); (case k6_58 => k_is); (case k7_58 => k_is); (case k8_58 => k_room); (case k9_58 => first | exact BindsTo.of_eq rfl | exact binds_K (by k_in) rfl (by k_is) rfl rfl rfl); (case c5_58 => decide); (case kB_58 => exact locs rfl); (case c2_58 => exact rfl); (case c3_58 => exact rfl); (case c4_58 => exact rfl); k_whole; intro g' L' h' FG' F' N' B' X' T'; (try dsimp only); (try fold_depth))
  trivial
noncomputable abbrev excO (C t : Addr) : Obj := { cls := .ref C, data := .fields #[.ref t, .none, .none, .none, .bool false, .none] }
noncomputable abbrev tupO (vs : List Value) : Obj := { cls := .type "tuple", data := .seq vs.toArray }
section
variable {prog : Program} {w : World} {A : Around} {M : Model} {E : Value → Shared → Prop} {R : Result → Shared → Prop} {h : Heap} {g : Array GenState} {d : Drawn} {t : Nat} {os : OsState}
variable {nm q : Str} {C N : Addr} {bs bm : List Value} {hdct : Bool} {sn : List Str} {sub : List Value} {ab : Bool} {col : Option Bool} {dd : Option Addr} {k0 k1 k2 k3 k5 : Option Value}
theorem exc_check_new (hB : (Value.ref C :: bm).contains (.type "Exception") = true) {rest : List Value} {Q : Unit → Shared → Prop} (hC : h.get? C = some (excClassObj nm q C N bs bm hdct sn sub ab col dd k0 k1 k2 k3 k5 "Exception.__new__"))
    (hq : Q () ⟨h, g, d, t, os⟩) : wpAny M A (checkBuiltinCall "Exception.__new__" ⟨.ref C :: rest, []⟩) Q E ⟨h, g, d, t, os⟩ := by
  have Fn := PySem.F.excBase_Exception
  have hstar := Fn.noStar
  simp only [checkBuiltinCall, Fn.newKind, Fn.newSplit, Fn.newRow]
  repeat (first | refine wpAny_loadPart_at hC ?_ | (refine wpAny_isSubtype_exc hC ?_; rw [hB]) | refine wpAny_staticBase_exc hC ?_ | refine wpAny_madeBy_exc hC ?_ | simp only [bne_self_eq_false, Bool.false_eq_true, if_false] | wp_step)
  exact hq
theorem exc_new (hcB : (Value.ref C :: bm).contains (.type "Exception") = true) (hcA : (Value.ref C :: bm).contains (.type "AttributeError") = false) (hcN : (Value.ref C :: bm).contains (.type "NameError") = false)
    {rest : List Value} (hC : h.get? C = some (excClassObj nm q C N bs bm hdct sn sub ab col dd k0 k1 k2 k3 k5 "Exception.__new__"))
    (hq : R (.ok (.ret (.ref (h.objs.size + 1)))) ⟨(h.push (tupO rest)).push (excO C h.objs.size), g, d, t, os⟩) (hrest : rest.length ≤ sizeLine) :
    codeAny (model prog w) A (.builtin "Exception.__new__" ⟨.ref C :: rest, []⟩) R ⟨h, g, d, t, os⟩ := by
  have Fn := PySem.F.excBase_Exception
  have hends := Fn.ends
  refine codeAny_builtinAt Fn.entry ?_
  unfold Builtin.«BaseException.__new__»
  refine wpAt_bind ?_
  show wpAt _ _ _ (stack >>= _) _ _ _
  refine wpAt_bind (wpAt_stack fun p below => wpAt_of_wpAny ?_)
  wp_walk
  refine wpAt_of_wpAny ?_
  rw [Fn.owner]
  repeat (first | with_reducible refine wpAny_madeHere_exc Fn.canon hC ?_ | with_reducible refine wpAny_loadPart_at hC ?_ | (with_reducible refine wpAny_isSubtype_exc hC ?_; first | rw [hcB] | rw [hcA] | rw [hcN]) | wp_step)
  show R _ _
  rw [Heap.size_push]
  exact hq
theorem exc_core {rest : List Value} {fI : Addr} (hC : h.get? C = some (excClassObj nm q C N bs bm hdct sn sub ab col dd k0 k1 k2 k3 k5 "Exception.__new__"))
    (hcB : (Value.ref C :: bm).contains (.type "Exception") = true) (hcA : (Value.ref C :: bm).contains (.type "AttributeError") = false) (hcN : (Value.ref C :: bm).contains (.type "NameError") = false)
    (hi : Looks (model prog w) h (typeLookup (.ref C) "__init__") (some (.ref fI))) (hb : ∀ self, Looks (model prog w) h (bindSpecial (.ref fI) self) (.ref fI, [self])) (hrest : rest.length ≤ sizeLine)
    (hq : codeAny (model prog w) (A.under (.builtin "type.__call__" ⟨.ref C :: rest, []⟩)) (.call (.ref fI) ⟨.ref (h.objs.size + 1) :: rest, []⟩) (InitBack (h.objs.size + 1) R) ⟨(h.push (tupO rest)).push (excO C h.objs.size), g, d, t, os⟩) :
    codeAny (model prog w) A (.call (.ref C) ⟨rest, []⟩) R ⟨h, g, d, t, os⟩ := by
  have f1 := tc_lookup
  have f2 := tc_bind (.ref C)
  have hT : (⟨h, g, d, t, os⟩ : Shared).TypeIs (.ref C) "type" := ⟨_, hC, rfl⟩
  refine codeAny_of_tree ?_
  show wpAny _ _ (callAny (.ref C) _) _ _ _
  repeat (any_goals (first | assumption | with_reducible refine wpAny_loadPart_at hC ?_ | wp_step))
  refine ⟨rfl, ?_⟩
  refine codeAny_call_builtin_at (Code.quiet_builtin _ (by decide +kernel)) entry_typeCall (wpAny_check_type_call_sub hC ?_)
  repeat (first | with_reducible refine wpAny_loadPart_at hC ?_ | with_reducible refine wpAny_madeBy_exc hC ?_ | wp_step)
  refine codeAny_call_builtin_code (Code.quiet_builtin _ PySem.F.excBase_Exception.quiet) (exc_check_new hcB hC ?_)
  refine exc_new hcB hcA hcN hC ?_ hrest
  show wpAny _ _ _ _ _ _
  have k : ∀ b o, h.get? b = some o → ((h.push (tupO rest)).push (excO C h.objs.size)).get? b = some o := fun b o e => Heap.get?_push_of_some _ (Heap.get?_push_of_some _ e)
  have hC₁ := k _ _ hC
  have hget : ((h.push (tupO rest)).push (excO C h.objs.size)).get? (h.objs.size + 1) = some (excO C h.objs.size) := by heap_get
  have hcC : (Value.ref C :: bm).contains (.ref C) = true := by simp
  have i1 := hi.keeps k
  have b1 := (hb (.ref (h.objs.size + 1))).keeps k
  unfold isInstance
  repeat (first | with_reducible refine wpAny_loadPart_at hget ?_ | (refine wpAny_isSubtype_exc hC₁ ?_; rw [hcC]) | wp_step)
  show wpAny _ _ (typeLookup (.ref C) _) _ _ _
  refine i1.at ?_
  refine wpAny_holding (wpAny_bind ?_)
  refine b1.at ?_
  dsimp only
  refine wpAny_bind (wpAny_call (codeAny_mono hq fun r s' z => ?_))
  rcases r with e | (v | _ | _ | _) <;> first | exact z | exact z.elim | skip
  obtain ⟨rfl, z⟩ := z
  exact wpAny_pure (wpAny_pure z)
end
inductive FontCls (h : Heap) (C : Addr) : Prop
  | mk (nm qn : Str) (N : Addr) (bs bm : List Value) (hdct : Bool) (sn : List Str) (sub : List Value) (ab : Bool) (col : Option Bool) (dd : Option Addr) (k0 k1 k2 k3 k5 : Option Value) : h.get? C = some (excClassObj nm qn C N bs bm hdct sn sub ab col dd k0 k1 k2 k3 k5 "Exception.__new__") → (Value.ref C :: bm).contains (.type "Exception") = true → (Value.ref C :: bm).contains (.type "AttributeError") = false → (Value.ref C :: bm).contains (.type "NameError") = false → bm.contains (.type "BaseException") = true → FontCls h C
noncomputable def FontAt (K : Frag) (C : Addr) : Prop := ∀ h, K.In h → FontCls h C
theorem font_cls {K : Frag} {h : Heap} {C : Addr} (X : K.In h) (q : FontAt K C) : FontCls h C := q h X
theorem font_make {prog : Program} {w : World} {A : Around} {K : Frag} {C : Addr} {s : Shared} {h₀ : Heap} {L : Addr} {m : Str → Option Value} {news : List (Addr × Obj)} {R : Result → Shared → Prop} {rest : List Value} {fI : Addr} (F : Fr h₀ L s.heap m) (N : News h₀ L s.heap news) (X : K.In s.heap) (hm : FontAt K C)
    (hi : findIn K (.ref C) "__init__" = some (some (.ref fI))) (hf : typeIn K (.ref fI) = some (.type "function")) (hrest : rest.length ≤ sizeLine)
    (h : ∀ e t h', Fr h₀ L h' m → News h₀ L h' ((e, excO C t) :: (t, tupO rest) :: news) → (∀ p ∈ news, p.1 < t) → t < e →
      codeAny (model prog w) (A.under (.builtin "type.__call__" ⟨.ref C :: rest, []⟩)) (.call (.ref fI) ⟨.ref e :: rest, []⟩) (InitBack e R) { s with heap := h' }) :
    codeAny (model prog w) A (.call (.ref C) ⟨rest, []⟩) R s := by
  obtain ⟨hh, g, d, t, os⟩ := s
  obtain ⟨nm, qn, N0, bs, bm, hdct, sn, sub, ab, col, dd, k0, k1, k2, k3, k5, hC, hB, hA, hN, hbb⟩ := font_cls X hm
  refine exc_core hC hB hA hN (looks_findIn X hi) (fun self => bind_fn X self hf) hrest (h _ hh.objs.size _ ((F.push _).push _) ?_ (fun p hp => Heap.lt_size (N p hp).1) (Nat.lt_succ_self _))
  have := (N.push F (tupO rest)).push (F.push _) (excO C hh.objs.size)
  rwa [Heap.size_push] at this
theorem font59o {w : World} : (hd.heap_39 w.params).lookup 59 = some (excClassObj (Str.ofString "FontFault") (Str.ofString "FontFault") 59 58 [R 46] [R 46, .type "Exception", .type "BaseException", .type "object"] true [] [] false none none (some (R 50)) none (some (S "FontFault" 236)) (some (S "FontFault" 244)) (some (.bool true)) "Exception.__new__") := by kernel_rfl
theorem font59 {w : World} : FontAt (hd.heap_39 w.params) 59 := fun _ X => .mk _ _ _ _ _ _ _ _ _ _ _ _ _ _ _ _ (X _ _ font59o) (by decide) (by decide) (by decide) (by decide)
theorem font59i {w : World} : findIn (hd.heap_39 w.params) (.ref 59) "__init__" = some (some (.ref 36)) := by kernel_rfl
theorem font59f {w : World} : typeIn (hd.heap_39 w.params) (.ref 36) = some (.type "function") := by kernel_rfl
section
variable {prog : Program} {w : World} {A : Around} {E : Value → Shared → Prop} {s : Shared} {h₀ : Heap} {L e t : Addr} {m : Str → Option Value} {news news' : Led}
theorem exc_init {rest : List Value} {Q : Value → Shared → Prop} (hrest : rest.length ≤ sizeLine) (X : (hd.heap_39 w.params).In h₀) (F : Fr h₀ L s.heap m) (N : News h₀ L s.heap news) (he : (e, excO 59 t) ∈ news)
    (h : ∀ t' h', Fr h₀ L h' m → s.heap.objs.size = t' → Heap.SameBut e (s.heap.push (tupO rest)) h' → h'.get? e = some (excO 59 t') → Q .none { s with heap := h' }) :
    wpAny (model prog w) A (call (.builtin "Exception.__init__") (.ref e :: rest)) Q E s := by
  have F0 := PySem.F.excBase_Exception
  obtain ⟨nm, qn, N0, bs, bm, hdct, sn, sub, ab, col, dd, k0, k1, k2, k3, k5, hC, hB, hA, hN, hbb⟩ := font_cls (X.keeps F.keep) font59
  have hget := (N _ he).1
  obtain ⟨hh, g, d, tk, os⟩ := s
  refine wpAny_call (codeAny_call_builtin F0.init.plain F0.initEntry ?_)
  have hshort := F0.noStar
  simp only [checkBuiltinCall, F0.initKind, F0.initSplit, F0.initRow]
  repeat (first | (with_reducible refine wpAny_loadPart_at hget ?_) | with_reducible refine wpAny_loadPart_at hC ?_ | (refine wpAny_isSubtype_exc hC ?_; rw [hB]) | wp_step)
  refine wpAny_onRaise ?_
  rw [show ∀ (a b : String) (n : Nat), Bind.check ⟨.positional, "*", "Exception", .self, [⟨"args", .varPos, false⟩]⟩ a b n (List.map (fun x => x.fst) ({ pos := Value.ref e :: rest } : Args).kw) = pure () from
    fun a b n => check_star_args _ _ _ _ _ _]
  refine wpAny_pure ?_
  have hr2 : ¬ rest.toArray.size > sizeLine := by simpa using hrest
  wp_walk
  show Q _ _
  refine h hh.objs.size _ ((F.push _).change (Heap.SameBut.update _ _ _) (N _ he).2.1 (N _ he).2.2) rfl (Heap.SameBut.update _ _ _) ?_
  · rw [Heap.get?_update_self _ (Heap.get?_push_of_some _ hget) rfl]
    simp only [Heap.size_push]
    rfl
theorem exc_initU {rest : List Value} {Q : Value → Shared → Prop} {g : Obj → Led} (hrest : rest.length ≤ sizeLine) (X : (hd.heap_39 w.params).In h₀) (F : Fr h₀ L s.heap m) (N : News h₀ L s.heap news) (U : UpdF e (excO 59 t) news g)
    (h : ∀ t' h', Fr h₀ L h' m → News h₀ L h' ((t', tupO rest) :: g (excO 59 t')) → (∀ p ∈ news, p.1 < t') → Q .none { s with heap := h' }) :
    wpAny (model prog w) A (call (.builtin "Exception.__init__") (.ref e :: rest)) Q E s := by
  obtain ⟨pre, post, rfl, hg, a, c⟩ := U.split
  have hm : (e, excO 59 t) ∈ pre ++ (e, excO 59 t) :: post := List.mem_append_right _ (.head _)
  refine exc_init hrest X F N hm fun t' h' F' et hs ho => h t' h' F' ?_ (fun p hp => by rw [← et]; exact Heap.lt_size (N p hp).1)
  have N1 := N.push F (tupO rest)
  rw [et] at N1
  rw [hg]
  exact news_set (pre := (t', tupO rest) :: pre) N1 (fun p hp => by
    rcases List.mem_cons.mp hp with rfl | hp
    · exact Nat.ne_of_gt (by rw [← et]; exact Heap.lt_size (N _ hm).1)
    · exact a p hp) c hs ho
end

end
section
theorem kw_E3_0 : True := by
  k_with_none
  k_with "om" => first | decide | (with_reducible first | apply om132 <;> assumption)
  k_with "k_ne" => (refine neN ?_; (try dsimp only); first | with_reducible assumption | lgec_go)
  k_with "fold_depth" => first | ((with_reducible show wpAny _ (Around.deeper (ktrTop _ _ _ _ _ _ _ _ _ _) _) _ _ _ _); refine wp_fold4 ?_; intro A1 q0 e0) | (refine wp_fold2 ?_; intro q00 e00)
  k_with "fold_lay" => ((show wpAny _ _ _ _ _ _); first | (fail_if_success k_fold) | ((try clear qf); refine wp_fold ?_; intro qf))
  k_with "k_steps" => ((try dsimp only); (try fold_lay); repeat' (first | (k_unfold; (try dsimp only)) | (k_end; wrow_close) | (walk1; (try ((first | (with_reducible show wpAny _ _ (exec _ _) _ _ _) | (with_reducible show wpAny _ _ (execs _ _) _ _ _)); (try dsimp only); fold_lay))) | (dsimp only; walk1) | (leave1; walk_say "STEP leave1"; try dsimp only) | fail "no step"))
  k_with "k_room" => first | exact fastR (by assumption) | ktr_room | (simp only [A1]; ktr_room)
  k_with "k_units" => first | ktr_units | (simp only [A1]; ktr_units)
  k_with "k_enter" => (refine' code_defC ?k1_64 ?k2_64 ?k3_64 ?k4_64 ?k5_64 ?kA_64 ?kF_64 ?kK_64 ?k6_64 ?k7_64 ?k8_64 ?k9_64 ?kB_64 ?kD_64 ?_ ?c2_64 ?c3_64 ?c4_64; (case kA_64 => exact rfl); (case kF_64 => exact rfl); (case kK_64 => assumption); (case k1_64 => k_asm); (case k2_64 => k_asm); (case k3_64 => k_asm); (case k4_64 => k_asm); (case k5_64 => k_asm); (case k6_64 => k_is); (case k7_64 => k_is); (case k8_64 => k_room); (case k9_64 => first | exact BindsTo.of_eq rfl | exact binds_K (by k_in) rfl (by k_is) rfl rfl rfl); (case kB_64 => exact rfl); (case kD_64 => decide +kernel); (case c2_64 => exact rfl); (case c3_64 => exact rfl); (case c4_64 => exact rfl); k_whole; intro g' L' h' tk' cells' FG' F' N' Y' B' X' T' l1; (try k_lt l1); refine hideG ?_; intro G0; k_cells Y'; (dsimp only [G0]); (try clear G0); (try simp only [List.cons_append, List.nil_append] at N'); (try dsimp only); (try fold_depth))
  k_with "k_enter" => (refine' code_def ?k1_65 ?k2_65 ?k3_65 ?k4_65 ?k5_65 ?kA_65 ?kF_65 ?kK_65 ?k6_65 ?k7_65 ?k8_65 ?k9_65 ?kB_65 ?_ ?c2_65 ?c3_65 ?c4_65 ?c5_65; (case kA_65 => exact rfl); (case kF_65 => exact rfl); (case kK_65 => assumption); (case k1_65 => k_asm); (case k2_65 => k_asm); (case k3_65 => k_asm); (case k4_65 => k_asm); (case k5_65 => k_asm); (case k6_65 => k_is); (case k7_65 => k_is); (case k8_65 => k_room); (case k9_65 => first | exact BindsTo.of_eq rfl | exact binds_K (by k_in) rfl (by k_is) rfl rfl rfl); (case c5_65 => decide); (case kB_65 => exact locs rfl); (case c2_65 => exact rfl); (case c3_65 => exact rfl); (case c4_65 => exact rfl); k_whole; intro g' L' h' FG' F' N' B' X' T'; (try dsimp only); (try fold_depth))
  trivial
open Builtin Builtin.ObjectAttr in
section
variable {prog : Program} {w : World} {A : Around} {K : Frag} {C x : Addr} {s : Shared} {h₀ : Heap} {L : Addr} {m : Str → Option Value} {news : List (Addr × Obj)} {R : Result → Shared → Prop}
noncomputable def excMro (K : Frag) (C : Addr) : Prop := ∃ cd D, clsIn K C = some cd ∧ cd.hasDict = true ∧ cd.mro = [.ref C, .ref D, .type "Exception", .type "BaseException", .type "object"]
theorem esa_open {ox : Obj} {od : Option Obj} {name : Str} {tk : Tok} {v : Value} (X : K.In s.heap) (I : InstAt s.heap x ox C od) (hp : excMro K C) (ht : takerIn K C name = some none)
    (h : ∀ b, wpAny (model prog w) A.in1 (storeInOwnDict (.ref x) (.ref C) (.str name tk) name v b)
      (fun fin s' => match fin with | .done f => R (.ok f) s' | .again c' => c'.quiet = true ∧ codeAny (model prog w) A c' R s') (fun e s' => R (.error e) s') s) :
    codeAny (model prog w) A (.call (.builtin "object.__setattr__") ⟨[.ref x, .str name tk, v], []⟩) R s := by
  have SF := PySem.F.store_object
  have SE := PySem.F.store_Exception
  (refine hideG ?_; intro G0)
  obtain ⟨cd, D, hc, hd, ho⟩ := hp
  (dsimp only [G0]); clear G0
  have ne : cd.mro.isEmpty = false := by rw [ho]; rfl
  have sub : Looks (model prog w) s.heap (isInstance (.ref x) (.type "object")) true := I.type.andThen (looks_mroIn X (by unfold mroIn; rw [hc, Option.bind_some, if_neg (by rw [ne]; decide), ho]; simp))
  refine codeAny_call_builtin SF.slot.plain SF.entry (@check_slot (model prog w) _ _ s "object.__setattr__" "object" "__setattr__" (.ref x) [.str name tk, v] [] _ SF.kind SF.split sub (SF.args (.ref x) (.str name tk) v) ?_)
  obtain ⟨attr, ha, hr⟩ := Option.bind_eq_some_iff.mp ht
  have hm : Looks (model prog w) s.heap (mroOf (.ref C)) cd.mro := (looks_clsIn X hc).andThen .now
  have L3 : Looks (model prog w) s.heap (storeTaker? attr) none := by
    cases attr with
    | none => exact .now
    | some a =>
      obtain ⟨b, hb, e⟩ := Option.map_eq_some_iff.mp hr
      refine (looks_takesIn X hb).andThen ?_
      cases b <;> first | exact .now | exact absurd e (by simp)
  rw [osa_eq, refuse_eq]
  refine wpAny_bind (wpAny_bind (I.type.here (wpAny_bind (hm.here ?_))))
  rw [ho, refuseLoop_ref, refuseLoop_ref, SE.passes]
  refine wpAny_pure (wpAny_bind (I.type.here (wpAny_bind ((looks_findIn X ha).here (wpAny_bind (L3.here ?_))))))
  exact h _
theorem esa_dict {ox od od' : Obj} {dx : Addr} {name : Str} {tk : Tok} {v : Value} {pre post : List (Addr × Obj)} {es : List DictEntry} {n : Nat} (F : Fr h₀ L s.heap m) (N : News h₀ L s.heap (pre ++ (dx, od) :: post)) (X : K.In s.heap)
    (I : InstAt s.heap x ox C (some od)) (hd : ox.dict = some dx) (hp : excMro K C) (ht : takerIn K C name = some none)
    (hl : (lookIn name od).isSome = true) (h1 : ∀ p ∈ pre, p.1 ≠ dx) (h2 : ∀ p ∈ post, p.1 ≠ dx)
    (e : Obj.putName name (PyData.keyHash w.params name) (.str name s.toks) v od = od') (e' : od'.data = .dict es.toArray n) (hz : es.length ≤ 1000)
    (h : ∀ h', Fr h₀ L h' m → News h₀ L h' (pre ++ (dx, od') :: post) → R (.ok (.ret .none)) { s with heap := h', toks := s.toks + 1 }) :
    codeAny (model prog w) A (.call (.builtin "object.__setattr__") ⟨[.ref x, .str name tk, v], []⟩) R s := by
  refine esa_open X I hp ht fun b => ?_
  (refine hideG ?_; intro G0)
  obtain ⟨cd, D0, hc, hd', ho⟩ := hp
  obtain ⟨U1, U2⟩ := news_upd (f := Obj.putName name (PyData.keyHash w.params name) (.str name s.toks) v) F N h1 h2 e (by obtain ⟨_, _, dd, _⟩ := od'; cases e'; rfl)
  (dsimp only [G0]); clear G0
  have D := (N (dx, od) (by simp)).1
  have D' := (U2 (dx, od') (by simp)).1
  (refine hideG ?_; intro G0)
  obtain ⟨hx, hcl, hn, -⟩ := I
  obtain ⟨oc, odi, oda, osl⟩ := ox
  (dsimp only [G0]); clear G0
  dsimp only at hcl hd
  subst hcl hd
  refine wpAny_bind (wpAny_pure (wpAny_bind (wpAny_bind (wpAny_loadPart hx (wpAny_bind ((looks_clsIn X hc).here ?_))))))
  rw [hd']
  refine wpAny_pure (a := some dx) (wpAny_bind (wpAny_pure (wpAny_bind ?_)))
  unfold nsSet
  refine wpAny_bind (wpAny_bind (wpAny_askSetting (wpAny_pure (wpAny_bind (wpAny_mkText (wpAny_bind (wpAny_loadPart D ?_)))))))
  unfold lookIn at hl
  split at hl
  · rename_i es₀ n₀ q
    rw [q]
    dsimp only
    have c : (!es₀.any (·.key.isStr name) && es₀.any (·.refKey)) = false := by
      rw [← Array.any_toList, ← Array.any_toList]
      split at hl
      · rename_i en he
        rw [List.any_eq_true.mpr ⟨en, List.mem_of_find?_eq_some he, List.find?_some he⟩]; rfl
      · split at hl
        · cases hl
        · rename_i z; rw [Bool.not_eq_true] at z; rw [z, Bool.and_false]
    rw [aRefKeyMayBeTheName_at, c]
    refine wpAny_updatePart D ?_
    refine wpAny_bind (wpAny_lookBehind D' (by rw [e']; exact pastItsLine_dict (by rw [List.size_toArray, sizeLine_eq]; lgec_go)) ?_)
    exact wpAny_pure (h _ U1 U2)
  · cases hl
noncomputable abbrev excD (C t d : Addr) : Obj := { cls := .ref C, dict := some d, data := .fields #[.ref t, .none, .none, .none, .bool false, .none] }
theorem esa_new {t : Addr} {name : Str} {tk : Tok} {v : Value} {pre post : List (Addr × Obj)} (F : Fr h₀ L s.heap m) (N : News h₀ L s.heap (pre ++ (x, excO C t) :: post)) (X : K.In s.heap)
    (hp : excMro K C) (ht : takerIn K C name = some none) (h1 : ∀ p ∈ pre, p.1 ≠ x) (h2 : ∀ p ∈ post, p.1 ≠ x)
    (h : ∀ dx h', Fr h₀ L h' m → News h₀ L h' ((dx, PySem.W.dictOf [⟨PyData.keyHash w.params name, .str name s.toks, v⟩] 1) :: (pre ++ (x, excD C t dx) :: post)) → (∀ p ∈ pre ++ (x, excO C t) :: post, p.1 < dx) → R (.ok (.ret .none)) { s with heap := h', toks := s.toks + 1 }) :
    codeAny (model prog w) A (.call (.builtin "object.__setattr__") ⟨[.ref x, .str name tk, v], []⟩) R s := by
  have hx := (N (x, excO C t) (List.mem_append_right _ (.head _))).1
  have I : InstAt s.heap x (excO C t) C none := ⟨hx, rfl, rfl, trivial⟩
  refine esa_open X I hp ht fun b => ?_
  (refine hideG ?_; intro G0)
  obtain ⟨cd, D0, hc, hd', ho⟩ := hp
  (dsimp only [G0]); clear G0
  have hlt : ∀ p ∈ pre ++ (x, excO C t) :: post, @LT.lt Nat _ p.1 s.heap.objs.size := fun p hp => Heap.lt_size (N p hp).1
  have N1 := N.push F (PySem.W.dictOf [] 0)
  obtain ⟨F2, N2⟩ := news_upd (pre := (s.heap.objs.size, PySem.W.dictOf [] 0) :: pre) (f := fun o => { o with dict := some s.heap.objs.size }) (F.push _) N1 (fun p hp => by
    rcases List.mem_cons.mp hp with rfl | hp
    · exact Nat.ne_of_gt (Heap.lt_size hx)
    · exact h1 p hp) h2 (o' := excD C t s.heap.objs.size) rfl rfl
  obtain ⟨F3, N3⟩ := news_upd (pre := []) (f := Obj.putName name (PyData.keyHash w.params name) (.str name s.toks) v) F2 N2 (fun _ h => nomatch h) (fun p hp => Nat.ne_of_lt (by
    rcases List.mem_append.mp hp with q | q
    · exact hlt p (List.mem_append_left _ q)
    · rcases List.mem_cons.mp q with rfl | q
      · exact Heap.lt_size hx
      · exact hlt p (List.mem_append_right _ (.tail _ q)))) (o' := PySem.W.dictOf [⟨PyData.keyHash w.params name, .str name s.toks, v⟩] 1) (putName_dict _ _ _ _ [] 0) rfl
  have D := (N2 (s.heap.objs.size, PySem.W.dictOf [] 0) (.head _)).1
  have D' := (N3 (s.heap.objs.size, _) (.head _)).1
  refine wpAny_bind (wpAny_pure (wpAny_bind (wpAny_bind (wpAny_loadPart hx (wpAny_bind ((looks_clsIn X hc).here ?_))))))
  rw [hd']
  show wpAny (model prog w) A.in1 (alloc (PySem.W.dictOf [] 0) >>= fun d => update x (fun o => { o with dict := some d }) >>= fun _ => (pure (some d) : Sem (Option Addr))) _ _ _
  refine wpAny_bind (wpAny_alloc (wpAny_bind (wpAny_update (o := excO C t) (Heap.get?_push_of_some _ hx) (wpAny_pure ?_))))
  show wpAny _ _ (storeInDict s.heap.objs.size (Value.str name tk) name v) _ _ _
  refine wpAny_bind (wpAny_pure (wpAny_bind ?_))
  unfold nsSet
  refine wpAny_bind (wpAny_bind (wpAny_askSetting (wpAny_pure (wpAny_bind (wpAny_mkText (wpAny_bind (wpAny_loadPart D ?_)))))))
  refine wpAny_updatePart D ?_
  refine wpAny_bind (wpAny_lookBehind D' (pastItsLine_dict (by rw [List.size_toArray, sizeLine_eq]; exact Nat.le_of_ble_eq_true rfl)) ?_)
  exact wpAny_pure (h _ _ F3 N3 hlt)
theorem exc_set1 {t : Addr} {name : Str} {v : Value} {g : Obj → Led} {E : Value → Shared → Prop} {Q : Unit → Shared → Prop} (F : Fr h₀ L s.heap m) (X₀ : K.In h₀) (N : News h₀ L s.heap news) (U : UpdF x (excO C t) news g)
    (hs : findIn K (.ref C) "__setattr__" = some (some (.builtin "object.__setattr__"))) (hp : excMro K C) (ht : takerIn K C name = some none)
    (h : ∀ dx h', Fr h₀ L h' m → News h₀ L h' ((dx, PySem.W.dictOf [⟨PyData.keyHash w.params name, .str name (s.toks + 1), v⟩] 1) :: g (excD C t dx)) → (∀ p ∈ news, p.1 < dx) → Q () { s with heap := h', toks := s.toks + 1 + 1 }) :
    wpAny (model prog w) A (setAttr (.ref x) name v) Q E s := by
  (refine hideG ?_; intro G0)
  obtain ⟨pre, post, rfl, hg, a, c⟩ := U.split
  (dsimp only [G0]); clear G0
  have hx := (N (x, excO C t) (List.mem_append_right _ (.head _))).1
  refine set_plain (ox := excO C t) (od := none) (X₀.keeps F.keep) ⟨hx, rfl, rfl, trivial⟩ hs (esa_new (s := { s with toks := s.toks + 1 }) F N (X₀.keeps F.keep) hp ht a c fun dx h' F' N' l => h dx h' F' ?_ l)
  rw [hg]
  exact N'
theorem exc_set2 {t dx : Addr} {name : Str} {v : Value} {es es' : List DictEntry} {n n' : Nat} {news' : Led} {E : Value → Shared → Prop} {Q : Unit → Shared → Prop} (F : Fr h₀ L s.heap m) (X₀ : K.In h₀) (N : News h₀ L s.heap news) (hm : (x, excD C t dx) ∈ news) (_hdm : (dx, PySem.W.dictOf es n) ∈ news)
    (U : Upd dx (PySem.W.dictOf es n) (PySem.W.dictOf es' n') news news')
    (hs : findIn K (.ref C) "__setattr__" = some (some (.builtin "object.__setattr__"))) (hp : excMro K C) (ht : takerIn K C name = some none)
    (hl : (getL name es).isSome = true) (e : (putL name (PyData.keyHash w.params name) (.str name (s.toks + 1)) v es, putN name es n) = (es', n')) (hz : es'.length ≤ 1000)
    (h : ∀ h', Fr h₀ L h' m → News h₀ L h' news' → Q () { s with heap := h', toks := s.toks + 1 + 1 }) :
    wpAny (model prog w) A (setAttr (.ref x) name v) Q E s := by
  (refine hideG ?_; intro G0)
  obtain ⟨pre, post, rfl, rfl, a, c⟩ := U.split
  obtain ⟨e1, e2⟩ := Prod.mk.inj e
  (dsimp only [G0]); clear G0
  have hx := (N _ hm).1
  have hd := (N (dx, PySem.W.dictOf es n) (List.mem_append_right _ (.head _))).1
  have I : InstAt s.heap x (excD C t dx) C (some (PySem.W.dictOf es n)) := ⟨hx, rfl, rfl, hd⟩
  exact set_plain (ox := excD C t dx) (X₀.keeps F.keep) I hs (esa_dict (s := { s with toks := s.toks + 1 }) F N (X₀.keeps F.keep) I rfl hp ht hl a c (by rw [putName_dict, e1, e2]) rfl hz fun h' F' N' => h h' F' N')
end
theorem font59s {w : World} : findIn (hd.heap_39 w.params) (.ref 59) "__setattr__" = some (some (.builtin "object.__setattr__")) := by kernel_rfl
theorem font59w {w : World} : takerIn (hd.heap_39 w.params) 59 "what" = some none := by kernel_rfl
theorem font59a {w : World} : takerIn (hd.heap_39 w.params) 59 "at" = some none := by kernel_rfl
theorem font59c {w : World} : ((clsIn (hd.heap_39 w.params) 59).any fun cd => cd.hasDict && (cd.mro == [.ref 59, .ref 46, .type "Exception", .type "BaseException", .type "object"])) = true := by kernel_rfl
theorem font59m {w : World} : excMro (hd.heap_39 w.params) 59 := by
  obtain ⟨cd, h1, h2⟩ := any_some (font59c (w := w))
  simp only [Bool.and_eq_true, beq_iff_eq] at h2
  exact ⟨cd, 46, h1, h2.1, h2.2⟩

end
section
theorem kw_N3_0 : True := by
  k_with_none
  k_with "om" => first | decide | (with_reducible first | apply om22 <;> assumption | apply om31 <;> assumption | apply om61 <;> assumption | apply om62 <;> assumption | apply om133 <;> assumption | apply om134 <;> assumption | apply om135 <;> assumption | apply om136 <;> assumption | apply om137 <;> assumption | apply om138 <;> assumption | apply om139 <;> assumption)
  k_with "k_ne" => (refine neN ?_; (try dsimp only); first | with_reducible assumption | lgec_go)
  k_with "fold_depth" => first | ((with_reducible show wpAny _ (Around.deeper (ktrTop _ _ _ _ _ _ _ _ _ _) _) _ _ _ _); refine wp_fold4 ?_; intro A1 q0 e0) | (refine wp_fold2 ?_; intro q00 e00)
  k_with "fold_lay" => ((show wpAny _ _ _ _ _ _); first | (fail_if_success k_fold) | ((try clear qf); refine wp_fold ?_; intro qf))
  k_with "k_steps" => ((try dsimp only); (try fold_lay); repeat' (first | (k_unfold; (try dsimp only)) | (k_end; wrow_close) | (walk1; (try ((first | (with_reducible show wpAny _ _ (exec _ _) _ _ _) | (with_reducible show wpAny _ _ (execs _ _) _ _ _)); (try dsimp only); fold_lay))) | (dsimp only; walk1) | (leave1; walk_say "STEP leave1"; try dsimp only) | fail "no step"))
  k_with "k_room" => first | exact fastR (by assumption) | ktr_room | (simp only [A1]; ktr_room)
  k_with "k_units" => first | ktr_units | (simp only [A1]; ktr_units)
  k_with "k_enter" => (refine' code_defC ?k1_71 ?k2_71 ?k3_71 ?k4_71 ?k5_71 ?kA_71 ?kF_71 ?kK_71 ?k6_71 ?k7_71 ?k8_71 ?k9_71 ?kB_71 ?kD_71 ?_ ?c2_71 ?c3_71 ?c4_71; (case kA_71 => exact rfl); (case kF_71 => exact rfl); (case kK_71 => assumption); (case k1_71 => k_asm); (case k2_71 => k_asm); (case k3_71 => k_asm); (case k4_71 => k_asm); (case k5_71 => k_asm); (case k6_71 => k_is); (case k7_71 => k_is); (case k8_71 => k_room); (case k9_71 => first | exact BindsTo.of_eq rfl | exact binds_K (by k_in) rfl (by k_is) rfl rfl rfl); (case kB_71 => exact rfl); (case kD_71 => decide +kernel); (case c2_71 => exact rfl); (case c3_71 => exact rfl); (case c4_71 => exact rfl); k_whole; intro g' L' h' tk' cells' FG' F' N' Y' B' X' T' l1; (try k_lt l1); refine hideG ?_; intro G0; k_cells Y'; (dsimp only [G0]); (try clear G0); (try simp only [List.cons_append, List.nil_append] at N'); (try dsimp only); (try fold_depth))
  k_with "k_enter" => (refine' code_def ?k1_72 ?k2_72 ?k3_72 ?k4_72 ?k5_72 ?kA_72 ?kF_72 ?kK_72 ?k6_72 ?k7_72 ?k8_72 ?k9_72 ?kB_72 ?_ ?c2_72 ?c3_72 ?c4_72 ?c5_72; (case kA_72 => exact rfl); (case kF_72 => exact rfl); (case kK_72 => assumption); (case k1_72 => k_asm); (case k2_72 => k_asm); (case k3_72 => k_asm); (case k4_72 => k_asm); (case k5_72 => k_asm); (case k6_72 => k_is); (case k7_72 => k_is); (case k8_72 => k_room); (case k9_72 => first | exact BindsTo.of_eq rfl | exact binds_K (by k_in) rfl (by k_is) rfl rfl rfl); (case c5_72 => decide); (case kB_72 => exact locs rfl); (case c2_72 => exact rfl); (case c3_72 => exact rfl); (case c4_72 => exact rfl); k_whole; intro g' L' h' FG' F' N' B' X' T'; (try dsimp only); (try fold_depth))
  k_with "tb_rel" => first | assumption | (intro p hp; solve_by_elim (maxDepth := 12) only [hp, List.Mem.tail, *])
  k_with "tb_start" => first | assumption | exact NumIn.mono (by assumption) (by tb_rel)
  trivial
theorem kw_N3_1 : True := by
  k_with "k_mem" => exact sub_mem (by assumption) (by assumption)
  k_with "call ref" => ((with_reducible show wpAny _ _ (call (Value.ref 180) _) _ _ _); k_dflt (refine' Calls.use ?k1_76 ?k2_76 ?k3_76 ?k4_76 ?k5_76 ?kK_76 ?C_76 ?kd_76 ?ku_76 ?_; (case k1_76 => k_asm); (case k2_76 => k_asm); (case k3_76 => k_asm); (case k4_76 => k_asm); (case k5_76 => k_asm); (case kK_76 => first | exact rfl | assumption); (case C_76 => exact decimalof_spec _ _ _ _ (by tb_start)); (case kd_76 => first | exact fastD (by assumption) (by decide) | ktr_room); (case ku_76 => first | exact fastU (by assumption) (by decide) | ktr_units); k_whole; intro r' n' h' tk' F' N' hr'; refine hideG ?_; intro G0; (obtain ⟨hs', hd'⟩ := hr'); cases hd'; (dsimp only [G0]); (try clear G0); (try k_sweep)))
  k_with "binaryOp Pow int int" => ((with_reducible refine pow_int_small ?kb1_77 ?kb2_77 ?kb3_77 ?_); (case kb1_77 => lgec_go); (case kb2_77 => lgec_go); (case kb3_77 => decide))
  trivial
noncomputable def scaled (a b : Num) : Int := a.1 * 10 ^ (max a.2 b.2 - a.2)
theorem tup3 {D : Addr} {n : Led} {a b c a' b' c' : Int} {t1 t2 t3 : Tok} {k : Nat} (h1 : a = a') (h2 : b = b') (h3 : c = c') :
    (D, ({ cls := .type "tuple", data := .seq #[.int a t1, .int b t2, .int c t3] k } : Obj)) ∈ (D, ({ cls := .type "tuple", data := .seq #[.int a' t1, .int b' t2, .int c' t3] k } : Obj)) :: n := by
  subst h1 h2 h3
  exact .head _
theorem scaled_eq {a b : Int} {p q : Nat} {k : Nat} (h : k = max p q - p) : scaled (a, p) (b, q) = a * 10 ^ k := by
  subst h
  rfl
theorem atonescale_spec (w : World) (news : Led) (v1 v2 : Value) (q1 q2 : Num) (n1 : NumIn w news v1 q1) (n2 : NumIn w news v2 q2) : Calls w 187 4 [v1, v2] news
   (fun r news' => (∀ p ∈ news, p ∈ news') ∧ ∃ a t1 t2 t3 k, r = .ref a ∧ (a, ({ cls := .type "tuple", data := .seq #[.int (scaled q1 q2) t1, .int (scaled q2 q1) t2, .int (max q1.2 q2.2 : Nat) t3] k } : Obj)) ∈ news') := by
  intro mean mg mb dp un gd cn cs a ccd cl outer A₀ base h₀ L m s Q E B F X N T hk hd hu hret
  k_steps
  all_goals trace_state
  all_goals refine hret _ _ _ _ (by k_asm) (by k_asm) ⟨fun p hp => .tail _ ((by assumption : ∀ p ∈ _, p ∈ _) p ((by assumption : ∀ p ∈ _, p ∈ _) p hp)), _, _, _, _, _, rfl, tup3 (scaled_eq ?_) (scaled_eq ?_) ?_⟩
  all_goals (simp only [decide_eq_true_eq, decide_eq_false_iff_not, gt_iff_lt] at *; lgec_go)

end
section
theorem kw_N4_0 : True := by
  k_with_none
  k_with "om" => first | decide | (with_reducible first | apply om23 <;> assumption | apply om24 <;> assumption | apply om140 <;> assumption | apply om141 <;> assumption | apply om142 <;> assumption | apply om143 <;> assumption | apply om144 <;> assumption | apply om145 <;> assumption)
  k_with "k_ne" => (refine neN ?_; (try dsimp only); first | with_reducible assumption | lgec_go)
  k_with "fold_depth" => first | ((with_reducible show wpAny _ (Around.deeper (ktrTop _ _ _ _ _ _ _ _ _ _) _) _ _ _ _); refine wp_fold4 ?_; intro A1 q0 e0) | (refine wp_fold2 ?_; intro q00 e00)
  k_with "fold_lay" => ((show wpAny _ _ _ _ _ _); first | (fail_if_success k_fold) | ((try clear qf); refine wp_fold ?_; intro qf))
  k_with "k_steps" => ((try dsimp only); (try fold_lay); repeat' (first | (k_unfold; (try dsimp only)) | (k_end; wrow_close) | (walk1; (try ((first | (with_reducible show wpAny _ _ (exec _ _) _ _ _) | (with_reducible show wpAny _ _ (execs _ _) _ _ _)); (try dsimp only); fold_lay))) | (dsimp only; walk1) | (leave1; walk_say "STEP leave1"; try dsimp only) | fail "no step"))
  k_with "k_room" => first | exact fastR (by assumption) | ktr_room | (simp only [A1]; ktr_room)
  k_with "k_units" => first | ktr_units | (simp only [A1]; ktr_units)
  k_with "k_enter" => (refine' code_defC ?k1_83 ?k2_83 ?k3_83 ?k4_83 ?k5_83 ?kA_83 ?kF_83 ?kK_83 ?k6_83 ?k7_83 ?k8_83 ?k9_83 ?kB_83 ?kD_83 ?_ ?c2_83 ?c3_83 ?c4_83; (case kA_83 => exact rfl); (case kF_83 => exact rfl); (case kK_83 => assumption); (case k1_83 => k_asm); (case k2_83 => k_asm); (case k3_83 => k_asm); (case k4_83 => k_asm); (case k5_83 => k_asm); (case k6_83 => k_is); (case k7_83 => k_is); (case k8_83 => k_room); (case k9_83 => first | exact BindsTo.of_eq rfl | exact binds_K (by k_in) rfl (by k_is) rfl rfl rfl); (case kB_83 => exact rfl); (case kD_83 => decide +kernel); (case c2_83 => exact rfl); (case c3_83 => exact rfl); (case c4_83 => exact rfl); k_whole; intro g' L' h' tk' cells' FG' F' N' Y' B' X' T' l1; (try k_lt l1); refine hideG ?_; intro G0; k_cells Y'; (dsimp only [G0]); (try clear G0); (try simp only [List.cons_append, List.nil_append] at N'); (try dsimp only); (try fold_depth))
  k_with "k_enter" => (refine' code_def ?k1_84 ?k2_84 ?k3_84 ?k4_84 ?k5_84 ?kA_84 ?kF_84 ?kK_84 ?k6_84 ?k7_84 ?k8_84 ?k9_84 ?kB_84 ?_ ?c2_84 ?c3_84 ?c4_84 ?c5_84; (case kA_84 => exact rfl); (case kF_84 => exact rfl); (case kK_84 => assumption); (case k1_84 => k_asm); (case k2_84 => k_asm); (case k3_84 => k_asm); (case k4_84 => k_asm); (case k5_84 => k_asm); (case k6_84 => k_is); (case k7_84 => k_is); (case k8_84 => k_room); (case k9_84 => first | exact BindsTo.of_eq rfl | exact binds_K (by k_in) rfl (by k_is) rfl rfl rfl); (case c5_84 => decide); (case kB_84 => exact locs rfl); (case c2_84 => exact rfl); (case c3_84 => exact rfl); (case c4_84 => exact rfl); k_whole; intro g' L' h' FG' F' N' B' X' T'; (try dsimp only); (try fold_depth))
  k_with "tb_rel" => first | assumption | (intro p hp; solve_by_elim (maxDepth := 12) only [hp, List.Mem.tail, *])
  k_with "tb_start" => first | assumption | exact NumIn.mono (by assumption) (by tb_rel)
  k_with "k_mem" => exact sub_mem (by assumption) (by assumption)
  k_with "call ref" => ((with_reducible show wpAny _ _ (call (Value.ref 187) _) _ _ _); k_dflt (refine' Calls.use ?k1_88 ?k2_88 ?k3_88 ?k4_88 ?k5_88 ?kK_88 ?C_88 ?kd_88 ?ku_88 ?_; (case k1_88 => k_asm); (case k2_88 => k_asm); (case k3_88 => k_asm); (case k4_88 => k_asm); (case k5_88 => k_asm); (case kK_88 => first | exact rfl | assumption); (case C_88 => exact atonescale_spec _ _ _ _ _ _ (by assumption) (by assumption)); (case kd_88 => first | exact fastD (by assumption) (by decide) | ktr_room); (case ku_88 => first | exact fastU (by assumption) (by decide) | ktr_units); k_whole; intro r' n' h' tk' F' N' hr'; refine hideG ?_; intro G0; (obtain ⟨hs', a', t1', t2', t3', k', e', hm'⟩ := hr'); subst e'; (dsimp only [G0]); (try clear G0); (try k_sweep)))
  k_with "call ref" => ((with_reducible show wpAny _ _ (call (Value.ref 173) _) _ _ _); k_dflt (refine' Calls.use ?k1_89 ?k2_89 ?k3_89 ?k4_89 ?k5_89 ?kK_89 ?C_89 ?kd_89 ?ku_89 ?_; (case k1_89 => k_asm); (case k2_89 => k_asm); (case k3_89 => k_asm); (case k4_89 => k_asm); (case k5_89 => k_asm); (case kK_89 => first | exact rfl | assumption); (case C_89 => exact signof_spec _ _ _ _); (case kd_89 => first | exact fastD (by assumption) (by decide) | ktr_room); (case ku_89 => first | exact fastU (by assumption) (by decide) | ktr_units); k_whole; intro r' n' h' tk' F' N' hr'; refine hideG ?_; intro G0; (obtain ⟨⟨t', e'⟩, e2'⟩ := hr'); subst e'; subst e2'; (dsimp only [G0]); (try clear G0); (try k_sweep)))
  trivial
noncomputable def signOf (i : Int) : Int := if i = 0 then 0 else if i > 0 then 1 else -1
theorem compared_spec (w : World) (news : Led) (v1 v2 : Value) (q1 q2 : Num) (n1 : DecIn w news v1 q1) (n2 : NumIn w news v2 q2) : Calls w 110 5 [v1, v2] news (SameInt (signOf (scaled q1 q2 - scaled q2 q1)) news) := by
  intro mean mg mb dp un gd cn cs a ccd cl outer A₀ base h₀ L m s Q E B F X N T hk hd hu hret
  have n3 := n1.num
  k_steps
  exact hret _ _ _ _ (by k_asm) (cb_drop (by k_asm) (by assumption)) ⟨⟨_, rfl⟩, rfl⟩
theorem scaled_same (a b : Num) : (signOf (scaled a b - scaled b a) == 0) = sameN a b := by
  obtain ⟨a, p⟩ := a
  obtain ⟨b, q⟩ := b
  have e : scaled (a, p) (b, q) - scaled (b, q) (a, p) = 0 ↔ a * 10 ^ q = b * 10 ^ p := by
    show a * 10 ^ (max p q - p) - b * 10 ^ (max q p - q) = 0 ↔ _
    rcases Nat.le_total p q with h | h
    · rw [Nat.max_eq_right h, Nat.max_eq_left h, Nat.sub_self, Int.pow_zero, Int.mul_one]
      have e1 : (10 : Int) ^ q = 10 ^ (q - p) * 10 ^ p := by rw [← Int.pow_add, Nat.sub_add_cancel h]
      rw [e1, ← Int.mul_assoc]
      have hp : (10 : Int) ^ p ≠ 0 := Int.pow_ne_zero (by decide)
      rw [Int.sub_eq_zero]
      exact ⟨fun e => by rw [e], fun e => Int.eq_of_mul_eq_mul_right hp e⟩
    · rw [Nat.max_eq_left h, Nat.max_eq_right h, Nat.sub_self, Int.pow_zero, Int.mul_one]
      have e1 : (10 : Int) ^ p = 10 ^ (p - q) * 10 ^ q := by rw [← Int.pow_add, Nat.sub_add_cancel h]
      rw [e1, ← Int.mul_assoc]
      have hp : (10 : Int) ^ q ≠ 0 := Int.pow_ne_zero (by decide)
      rw [Int.sub_eq_zero]
      exact ⟨fun e => by rw [e], fun e => Int.eq_of_mul_eq_mul_right hp e⟩
  have e2 : signOf (scaled (a, p) (b, q) - scaled (b, q) (a, p)) = 0 ↔ scaled (a, p) (b, q) - scaled (b, q) (a, p) = 0 := by
    unfold signOf
    constructor
    · intro h
      split at h
      · assumption
      · split at h <;> simp at h
    · intro h; rw [h]; rfl
  rw [Bool.eq_iff_iff, beq_iff_eq, e2, e]
  simp [sameN]
theorem kw_N4_1 : True := by
  k_with "call ref" => ((with_reducible show wpAny _ _ (call (Value.ref 180) _) _ _ _); k_dflt (refine' Calls.use ?k1_90 ?k2_90 ?k3_90 ?k4_90 ?k5_90 ?kK_90 ?C_90 ?kd_90 ?ku_90 ?_; (case k1_90 => k_asm); (case k2_90 => k_asm); (case k3_90 => k_asm); (case k4_90 => k_asm); (case k5_90 => k_asm); (case kK_90 => first | exact rfl | assumption); (case C_90 => exact decimalof_spec _ _ _ _ (by tb_start)); (case kd_90 => first | exact fastD (by assumption) (by decide) | ktr_room); (case ku_90 => first | exact fastU (by assumption) (by decide) | ktr_units); k_whole; intro r' n' h' tk' F' N' hr'; refine hideG ?_; intro G0; (obtain ⟨hs', hd'⟩ := hr'); (have hd2' := hd'); cases hd'; (dsimp only [G0]); (try clear G0); (try k_sweep)))
  k_with "call ref" => ((with_reducible show wpAny _ _ (call (Value.ref 110) _) _ _ _); k_dflt (refine' Calls.use ?k1_91 ?k2_91 ?k3_91 ?k4_91 ?k5_91 ?kK_91 ?C_91 ?kd_91 ?ku_91 ?_; (case k1_91 => k_asm); (case k2_91 => k_asm); (case k3_91 => k_asm); (case k4_91 => k_asm); (case k5_91 => k_asm); (case kK_91 => first | exact rfl | assumption); (case C_91 => exact compared_spec _ _ _ _ _ _ (by assumption) (by tb_start)); (case kd_91 => first | exact fastD (by assumption) (by decide) | ktr_room); (case ku_91 => first | exact fastU (by assumption) (by decide) | ktr_units); k_whole; intro r' n' h' tk' F' N' hr'; refine hideG ?_; intro G0; (obtain ⟨⟨t', e'⟩, e2'⟩ := hr'); subst e'; subst e2'; (dsimp only [G0]); (try clear G0); (try k_sweep)))
  trivial
theorem same_spec (w : World) (news : Led) (v1 v2 : Value) (q1 q2 : Num) (n1 : NumIn w news v1 q1) (n2 : NumIn w news v2 q2) : Calls w 194 6 [v1, v2] news (Same (.bool (sameN q1 q2)) news) := by
  intro mean mg mb dp un gd cn cs a ccd cl outer A₀ base h₀ L m s Q E B F X N T hk hd hu hret
  k_steps
  trace_state
  exact hret _ _ _ _ (by k_asm) (cb_drop (by k_asm) (by assumption)) ⟨congrArg Value.bool (scaled_same _ _), rfl⟩

end
section
theorem kw_P0_0 : True := by
  k_with_none
  k_with "om" => first | decide | (with_reducible first | apply om146 <;> assumption | apply om147 <;> assumption)
  k_with "k_ne" => (refine neN ?_; (try dsimp only); first | with_reducible assumption | lgec_go)
  k_with "fold_depth" => first | ((with_reducible show wpAny _ (Around.deeper (ktrTop _ _ _ _ _ _ _ _ _ _) _) _ _ _ _); refine wp_fold4 ?_; intro A1 q0 e0) | (refine wp_fold2 ?_; intro q00 e00)
  k_with "fold_lay" => ((show wpAny _ _ _ _ _ _); first | (fail_if_success k_fold) | ((try clear qf); refine wp_fold ?_; intro qf))
  k_with "k_steps" => ((try dsimp only); (try fold_lay); repeat' (first | (k_unfold; (try dsimp only)) | (k_end; wrow_close) | (walk1; (try ((first | (with_reducible show wpAny _ _ (exec _ _) _ _ _) | (with_reducible show wpAny _ _ (execs _ _) _ _ _)); (try dsimp only); fold_lay))) | (dsimp only; walk1) | (leave1; walk_say "STEP leave1"; try dsimp only) | fail "no step"))
  k_with "k_room" => first | exact fastR (by assumption) | ktr_room | (simp only [A1]; ktr_room)
  k_with "k_units" => first | ktr_units | (simp only [A1]; ktr_units)
  k_with "k_enter" => (refine' code_defC ?k1_97 ?k2_97 ?k3_97 ?k4_97 ?k5_97 ?kA_97 ?kF_97 ?kK_97 ?k6_97 ?k7_97 ?k8_97 ?k9_97 ?kB_97 ?kD_97 ?_ ?c2_97 ?c3_97 ?c4_97; (case kA_97 => exact rfl); (case kF_97 => exact rfl); (case kK_97 => assumption); (case k1_97 => k_asm); (case k2_97 => k_asm); (case k3_97 => k_asm); (case k4_97 => k_asm); (case k5_97 => k_asm); (case k6_97 => k_is); (case k7_97 => k_is); (case k8_97 => k_room); (case k9_97 => first | exact BindsTo.of_eq rfl | exact binds_K (by k_in) rfl (by k_is) rfl rfl rfl); (case kB_97 => exact rfl); (case kD_97 => decide +kernel); (case c2_97 => exact rfl); (case c3_97 => exact rfl); (case c4_97 => exact rfl); k_whole; intro g' L' h' tk' cells' FG' F' N' Y' B' X' T' l1; (try k_lt l1); refine hideG ?_; intro G0; k_cells Y'; (dsimp only [G0]); (try clear G0); (try simp only [List.cons_append, List.nil_append] at N'); (try dsimp only); (try fold_depth))
  k_with "k_enter" => (refine' code_def ?k1_98 ?k2_98 ?k3_98 ?k4_98 ?k5_98 ?kA_98 ?kF_98 ?kK_98 ?k6_98 ?k7_98 ?k8_98 ?k9_98 ?kB_98 ?_ ?c2_98 ?c3_98 ?c4_98 ?c5_98; (case kA_98 => exact rfl); (case kF_98 => exact rfl); (case kK_98 => assumption); (case k1_98 => k_asm); (case k2_98 => k_asm); (case k3_98 => k_asm); (case k4_98 => k_asm); (case k5_98 => k_asm); (case k6_98 => k_is); (case k7_98 => k_is); (case k8_98 => k_room); (case k9_98 => first | exact BindsTo.of_eq rfl | exact binds_K (by k_in) rfl (by k_is) rfl rfl rfl); (case c5_98 => decide); (case kB_98 => exact locs rfl); (case c2_98 => exact rfl); (case c3_98 => exact rfl); (case c4_98 => exact rfl); k_whole; intro g' L' h' FG' F' N' B' X' T'; (try dsimp only); (try fold_depth))
  trivial
noncomputable def Rising (kvs : List (Int × Value)) : Prop := (kvs.map (·.1)).Pairwise (· < ·)
structure WidthsIn (w : World) (news : Led) (o : Obj) (kvs : List (Int × Value)) : Prop where
  is : o.IsDictOf (PySem.intKind PySem.Challenge.rw_nn0211_01.row.prog w) kvs
  rising : Rising kvs
  nums : ∀ kv ∈ kvs, 0 ≤ kv.1 ∧ kv.1 < 10000 ∧ ∃ q, NumIn w news kv.2 q
theorem stored_top {kvs : List (Int × Value)} {k : Int} {v : Value} (h : ∀ kv ∈ kvs, kv.1 < k) : PySem.stored kvs k v = kvs ++ [(k, v)] := by
  unfold PySem.stored
  rw [if_neg]
  intro q
  rw [List.any_eq_true] at q
  obtain ⟨kv, hm, e⟩ := q
  have := h kv hm
  have := of_decide_eq_true e
  lgec_go
theorem rising_top {kvs : List (Int × Value)} {k : Int} {v : Value} (hr : Rising kvs) (h : ∀ kv ∈ kvs, kv.1 < k) : Rising (kvs ++ [(k, v)]) := by
  unfold Rising at *
  rw [List.map_append, List.pairwise_append]
  refine ⟨hr, List.pairwise_singleton _ _, fun a ha b hb => ?_⟩
  obtain ⟨kv, hm, rfl⟩ := List.mem_map.mp ha
  simp at hb
  rw [hb]
  exact h kv hm
theorem WidthsIn.top {w : World} {news : Led} {o o' : Obj} {kvs : List (Int × Value)} {k : Int} {v : Value} {q : Num} (W : WidthsIn w news o kvs) (h : ∀ kv ∈ kvs, kv.1 < k) (h0 : 0 ≤ k) (h1 : k < 10000) (hq : NumIn w news v q)
    (hd : o'.IsDictOf (PySem.intKind PySem.Challenge.rw_nn0211_01.row.prog w) (PySem.stored kvs k v)) : WidthsIn w news o' (kvs ++ [(k, v)]) := by
  rw [stored_top h] at hd
  refine ⟨hd, rising_top W.rising h, fun kv hm => ?_⟩
  rcases List.mem_append.mp hm with hm | hm
  · exact W.nums kv hm
  · rw [List.mem_singleton.mp hm]; exact ⟨h0, h1, q, hq⟩
theorem WidthsIn.mono {w : World} {news news' : Led} {o : Obj} {kvs : List (Int × Value)} (W : WidthsIn w news o kvs) (h : ∀ y ∈ news, y ∈ news') : WidthsIn w news' o kvs :=
  ⟨W.is, W.rising, fun kv hm => let ⟨a, b, q, c⟩ := W.nums kv hm; ⟨a, b, q, c.mono h⟩⟩
theorem menu3 {x d : Int} (h0 : 0 ≤ x) (h1 : x < 300) (h2 : 0 ≤ d) (h3 : d < 3) : 0 ≤ [0, 1, x].getD d.toNat 0 ∧ [0, 1, x].getD d.toNat 0 < 300 := by
  have : d = 0 ∨ d = 1 ∨ d = 2 := by lgec_go
  rcases this with rfl | rfl | rfl <;> simp <;> lgec_go
theorem mem_turn {q xI xp xc xd xl : Addr × Obj} {n1 n2 rest : Led} (h : q ∈ xI :: xp :: xc :: xd :: ((xl :: (n1 ++ n2)) ++ rest)) : q ∈ xp :: xc :: xl :: xI :: xd :: (n1 ++ (n2 ++ rest)) := by
  simp only [List.mem_cons, List.mem_append, List.cons_append] at h ⊢
  grind
theorem above_top {p c d : Addr} {e1 e2 o : Obj} {rest new : Led} (h1 : @LT.lt Nat _ p d) (h2 : @LT.lt Nat _ c d) (h3 : AllLt d rest) (h4 : ∀ y ∈ new, @LT.lt Nat _ d y.1) : Above ((p, e1) :: (c, e2) :: rest) ((d, o) :: new) := by
  intro q hq y hy
  have hqd : @LT.lt Nat _ q.1 d := by
    rcases List.mem_cons.mp hq with rfl | hq
    · exact h1
    · rcases List.mem_cons.mp hq with rfl | hq
      · exact h2
      · exact allLt_lt h3 q hq
  rcases List.mem_cons.mp hy with rfl | hy
  · exact hqd
  · exact Nat.lt_trans hqd (h4 y hy)

end
section
theorem kw_LL_0 : True := by
  k_with_none
  k_with "om" => first | decide | (with_reducible first | apply om25 <;> assumption | apply om32 <;> assumption | apply om33 <;> assumption | apply om148 <;> assumption | apply om149 <;> assumption | apply om150 <;> assumption | apply om151 <;> assumption | apply om152 <;> assumption)
  k_with "k_ne" => (refine neN ?_; (try dsimp only); first | with_reducible assumption | lgec_go)
  k_with "fold_depth" => first | ((with_reducible show wpAny _ (Around.deeper (ktrTop _ _ _ _ _ _ _ _ _ _) _) _ _ _ _); refine wp_fold4 ?_; intro A1 q0 e0) | (refine wp_fold2 ?_; intro q00 e00)
  k_with "fold_lay" => ((show wpAny _ _ _ _ _ _); first | (fail_if_success k_fold) | ((try clear qf); refine wp_fold ?_; intro qf))
  k_with "k_steps" => ((try dsimp only); (try fold_lay); repeat' (first | (k_unfold; (try dsimp only)) | (k_end; wrow_close) | (walk1; (try ((first | (with_reducible show wpAny _ _ (exec _ _) _ _ _) | (with_reducible show wpAny _ _ (execs _ _) _ _ _)); (try dsimp only); fold_lay))) | (dsimp only; walk1) | (leave1; walk_say "STEP leave1"; try dsimp only) | fail "no step"))
  k_with "k_room" => first | exact fastR (by assumption) | ktr_room | (simp only [A1]; ktr_room)
  k_with "k_units" => first | ktr_units | (simp only [A1]; ktr_units)
  k_with "k_enter" => (refine' code_defC ?k1_104 ?k2_104 ?k3_104 ?k4_104 ?k5_104 ?kA_104 ?kF_104 ?kK_104 ?k6_104 ?k7_104 ?k8_104 ?k9_104 ?kB_104 ?kD_104 ?_ ?c2_104 ?c3_104 ?c4_104; (case kA_104 => exact rfl); (case kF_104 => exact rfl); (case kK_104 => assumption); (case k1_104 => k_asm); (case k2_104 => k_asm); (case k3_104 => k_asm); (case k4_104 => k_asm); (case k5_104 => k_asm); (case k6_104 => k_is); (case k7_104 => k_is); (case k8_104 => k_room); (case k9_104 => first | exact BindsTo.of_eq rfl | exact binds_K (by k_in) rfl (by k_is) rfl rfl rfl); (case kB_104 => exact rfl); (case kD_104 => decide +kernel); (case c2_104 => exact rfl); (case c3_104 => exact rfl); (case c4_104 => exact rfl); k_whole; intro g' L' h' tk' cells' FG' F' N' Y' B' X' T' l1; (try k_lt l1); refine hideG ?_; intro G0; k_cells Y'; (dsimp only [G0]); (try clear G0); (try simp only [List.cons_append, List.nil_append] at N'); (try dsimp only); (try fold_depth))
  k_with "k_enter" => (refine' code_def ?k1_105 ?k2_105 ?k3_105 ?k4_105 ?k5_105 ?kA_105 ?kF_105 ?kK_105 ?k6_105 ?k7_105 ?k8_105 ?k9_105 ?kB_105 ?_ ?c2_105 ?c3_105 ?c4_105 ?c5_105; (case kA_105 => exact rfl); (case kF_105 => exact rfl); (case kK_105 => assumption); (case k1_105 => k_asm); (case k2_105 => k_asm); (case k3_105 => k_asm); (case k4_105 => k_asm); (case k5_105 => k_asm); (case k6_105 => k_is); (case k7_105 => k_is); (case k8_105 => k_room); (case k9_105 => first | exact BindsTo.of_eq rfl | exact binds_K (by k_in) rfl (by k_is) rfl rfl rfl); (case c5_105 => decide); (case kB_105 => exact locs rfl); (case c2_105 => exact rfl); (case c3_105 => exact rfl); (case c4_105 => exact rfl); k_whole; intro g' L' h' FG' F' N' B' X' T'; (try dsimp only); (try fold_depth))
  trivial
section
variable {prog : Program} {w : World} {A : Around} {E : Value → Shared → Prop} {s : Shared} {h₀ : Heap} {L l b : Addr} {m : Str → Option Value} {news news' : Led} {vs ws : List Value} {n k : Nat}
theorem lst_is (N : News h₀ L s.heap news) (hm : (l, PySem.W.listOf vs.toArray n) ∈ news) : s.heap.IsList l vs.toArray := ⟨_, (N _ hm).1, rfl, _, rfl⟩
theorem lst_len {Q : Value → Shared → Prop} (N : News h₀ L s.heap news) (hm : (l, PySem.W.listOf vs.toArray n) ∈ news) (hz : vs.length ≤ 1000) (h : Q (.int vs.length (s.toks + 1)) { s with toks := s.toks + 1 + 1 }) :
    wpAny (model prog w) A (call (.builtin "len") [.ref l]) Q E s := Calls.call_len_list (lst_is N hm) (by rw [List.size_toArray]; lgec_go) (by rw [List.size_toArray]; exact h)
theorem lst_truthy {Q : Bool → Shared → Prop} (N : News h₀ L s.heap news) (hm : (l, PySem.W.listOf vs.toArray n) ∈ news) (hz : vs.length ≤ 1000) (h : Q (decide (0 < vs.length)) { s with toks := s.toks + 1 + 1 }) :
    wpAny (model prog w) A (truthy (.ref l)) Q E s := wpAny_truthy_list (lst_is N hm) (by rw [List.size_toArray]; lgec_go) (by
    have e : (!vs.toArray.isEmpty) = decide (0 < vs.length) := by cases vs <;> simp
    rw [e]; exact h)
theorem lst_item {value slice : PySem.Expr} {k : Int} {u : Tok} {v : Value} {Q : Value → Shared → Prop}
    (N : News h₀ L s.heap news) (hm : (l, PySem.W.listOf vs.toArray n) ∈ news) (h0 : 0 ≤ k) (hhi : k < 2 ^ 63) (hx : vs[k.toNat]? = some v) (h : Q v s)
    (hs : subscripted slice false (.ref l) (.int k u) = operate [.ref l, .int k u] (getItem (.ref l) (.int k u)) := by with_unfolding_all rfl) :
    wpAny (model prog w) A (subscriptTail value slice (.ref l) (.int k u)) Q E s :=
  tail_any (lst_is N hm).typeIs slot_list_getitem.lookup (wpAny_getItem_list (lst_is N hm) h0 hhi (by simpa using hx) h) hs
theorem lst_append {x : Value} {Q : Value → Shared → Prop} (F : Fr h₀ L s.heap m) (N : News h₀ L s.heap news) (U : Upd l (PySem.W.listOf vs.toArray n) (PySem.W.listOf (vs ++ [x]).toArray (n + 1)) news news') (hz : vs.length ≤ 1000)
    (h : ∀ h', Fr h₀ L h' m → News h₀ L h' news' → Q .none { s with heap := h' }) : wpAny (model prog w) A (call (.builtin "list.append") [.ref l, x]) Q E s :=
  append_K F N (its := vs.toArray) (by rw [List.push_toArray]; exact U) h (by rw [List.size_toArray, sizeLine_eq]; lgec_go)
theorem lst_extend {g : Obj → Led} {Q : Value → Shared → Prop} (F : Fr h₀ L s.heap m) (N : News h₀ L s.heap news) (U : UpdF l (PySem.W.listOf vs.toArray n) news g) (hb : (b, PySem.W.listOf ws.toArray k) ∈ news) (hz : vs.length + ws.length ≤ 10000)
    (h : ∀ h' n', Fr h₀ L h' m → News h₀ L h' (g (PySem.W.listOf (vs ++ ws).toArray n')) → Q .none { s with heap := h' }) :
    wpAny (model prog w) A (call (.builtin "list.extend") [.ref l, .ref b]) Q E s := by
  (refine hideG ?_; intro G0)
  obtain ⟨pre, post, rfl, hg, a, c⟩ := U.split
  (dsimp only [G0]); clear G0
  refine extend_in F N a c (N _ hb).1 (fun h' n' F' N' => h h' n' F' ?_) (by rw [sizeLine_eq, List.size_toArray]; lgec_go)
  rw [hg]
  simpa using N'
theorem lst_add {Q : Value → Shared → Prop} (F : Fr h₀ L s.heap m) (N : News h₀ L s.heap news) (ha : (l, PySem.W.listOf vs.toArray n) ∈ news) (hb : (b, PySem.W.listOf ws.toArray k) ∈ news) (hz : vs.length + ws.length ≤ 10000)
    (h : ∀ l' h', Fr h₀ L h' m → News h₀ L h' ((l', PySem.W.listOf (vs ++ ws).toArray 0) :: news) → (∀ p ∈ news, p.1 < l') → Q (.ref l') { s with heap := h' }) :
    wpAny (model prog w) A (binaryOp .Add (.ref l) (.ref b)) Q E s :=
  add_arrays F N (lst_is N ha) (lst_is N hb) (fun h' F' N' => h _ h' F' N' fun p hp => Heap.lt_size (N p hp).1) (by rw [sizeLine_eq, List.size_toArray, List.size_toArray]; lgec_go)
theorem lst_slice {value slice : PySem.Expr} {x y : Int} {t u : Tok} {Q : Value → Shared → Prop} (F : Fr h₀ L s.heap m) (N : News h₀ L s.heap news) (hm : (l, PySem.W.listOf vs.toArray n) ∈ news) (hz : vs.length ≤ 1000) (hx : 0 ≤ x) (hy : 0 ≤ y)
    (h : ∀ D h', Fr h₀ L h' m → News h₀ L h' ((D, PySem.W.listOf ((vs.drop x.toNat).take (y.toNat - x.toNat)).toArray 0) :: news) → (∀ p ∈ news, p.1 < D) → Q (.ref D) { s with heap := h' })
    (hs : subscripted slice false (.ref l) (.ref s.heap.objs.size) = operate [.ref s.heap.objs.size, .ref l] (getItem (.ref l) (.ref s.heap.objs.size)) := by with_unfolding_all rfl) (ht : ∀ r, letTemporaryGo value (.ref l) r = pure () := by intro _; with_unfolding_all rfl) :
    wpAny (model prog w) A (subscriptTail value slice (.ref l) (.ref s.heap.objs.size)) Q E { s with heap := s.heap.push { cls := .type "slice", data := .fields #[.int x t, .int y u, .none] } } := by
  refine kmk_slice (lo := some x) (hi := some y) F N (lst_is N hm) (.int x t) (.int y u) (fun D h' F' N' l1 => h D h' F' ?_ l1) hs ht (by rw [List.size_toArray, sizeLine_eq]; lgec_go)
  have e : sliceBounds (some x) (some y) none vs.toArray.size = (((min x.toNat vs.length : Nat) : Int), ((min y.toNat vs.length : Nat) : Int), 1) := by
    simp only [sliceBounds, Option.getD_none, List.size_toArray, show (1 : Int) > 0 by decide, if_true, if_neg (show ¬ (y < 0) by lgec_go), if_neg (show ¬ (x < 0) by lgec_go)]
    congr 1
    · lgec_go
    · congr 1
      lgec_go
  rw [kmk_pick_nat _ e] at N'
  have e2 : (vs.toArray.toList.drop (min x.toNat vs.length)).take (min y.toNat vs.length - min x.toNat vs.length) = (vs.drop x.toNat).take (y.toNat - x.toNat) := by
    show (vs.drop (min x.toNat vs.length)).take (min y.toNat vs.length - min x.toNat vs.length) = _
    rw [kmk_drop_min]
    rcases Nat.le_total x.toNat vs.length with hxl | hxl
    · rw [Nat.min_eq_left hxl]
      rcases Nat.le_total y.toNat vs.length with hyl | hyl
      · rw [Nat.min_eq_left hyl]
      · rw [Nat.min_eq_right hyl, List.take_of_length_le (by rw [List.length_drop]; lgec_go), List.take_of_length_le (by rw [List.length_drop]; lgec_go)]
    · rw [List.drop_of_length_le hxl]; simp
  rw [e2] at N'
  exact N'
theorem lst_copy {Q : Value → Shared → Prop} (F : Fr h₀ L s.heap m) (N : News h₀ L s.heap news) (hm : (l, PySem.W.listOf vs.toArray n) ∈ news) (hz : vs.length ≤ 1000)
    (h : ∀ D c h', Fr h₀ L h' m → News h₀ L h' ((D, PySem.W.listOf vs.toArray c) :: news) → (∀ q ∈ news, q.1 < D) → Q (.ref D) { s with heap := h' }) : wpAny (model prog w) A (call (.type "list") [.ref l]) Q E s :=
  list_copyK F N (lst_is N hm) h (by rw [List.size_toArray, sizeLine_eq]; lgec_go)
theorem lst_pop0 {v : Value} {t : Tok} {Q : Value → Shared → Prop} (F : Fr h₀ L s.heap m) (N : News h₀ L s.heap news) (U : Upd l (PySem.W.listOf (v :: vs).toArray n) (PySem.W.listOf vs.toArray (n + 1)) news news') (hz : vs.length ≤ 1000)
    (h : ∀ h', Fr h₀ L h' m → News h₀ L h' news' → Q v { s with heap := h' }) : wpAny (model prog w) A (call (.builtin "list.pop") [.ref l, .int 0 t]) Q E s := by
  refine kl_popAt (i := 0) (k := 0) (p := []) (q := vs) (y := v) F N rfl ?_ rfl U (by show (v :: vs).length ≤ _; rw [sizeLine_eq, List.length_cons]; lgec_go) h
  show seqIndex? 0 (v :: vs).toArray.size = some 0
  unfold seqIndex?
  simp
end

end
section
theorem kw_Q0_0 : True := by
  k_with_none
  k_with "om" => first | decide | (with_reducible first | apply om34 <;> assumption | apply om35 <;> assumption | apply om153 <;> assumption | apply om154 <;> assumption | apply om155 <;> assumption)
  k_with "k_ne" => (refine neN ?_; (try dsimp only); first | with_reducible assumption | lgec_go)
  k_with "fold_depth" => first | ((with_reducible show wpAny _ (Around.deeper (ktrTop _ _ _ _ _ _ _ _ _ _) _) _ _ _ _); refine wp_fold4 ?_; intro A1 q0 e0) | (refine wp_fold2 ?_; intro q00 e00)
  k_with "fold_lay" => ((show wpAny _ _ _ _ _ _); first | (fail_if_success k_fold) | ((try clear qf); refine wp_fold ?_; intro qf))
  k_with "k_steps" => ((try dsimp only); (try fold_lay); repeat' (first | (k_unfold; (try dsimp only)) | (k_end; wrow_close) | (walk1; (try ((first | (with_reducible show wpAny _ _ (exec _ _) _ _ _) | (with_reducible show wpAny _ _ (execs _ _) _ _ _)); (try dsimp only); fold_lay))) | (dsimp only; walk1) | (leave1; walk_say "STEP leave1"; try dsimp only) | fail "no step"))
  k_with "k_room" => first | exact fastR (by assumption) | ktr_room | (simp only [A1]; ktr_room)
  k_with "k_units" => first | ktr_units | (simp only [A1]; ktr_units)
  k_with "k_enter" => (refine' code_defC ?k1_111 ?k2_111 ?k3_111 ?k4_111 ?k5_111 ?kA_111 ?kF_111 ?kK_111 ?k6_111 ?k7_111 ?k8_111 ?k9_111 ?kB_111 ?kD_111 ?_ ?c2_111 ?c3_111 ?c4_111; (case kA_111 => exact rfl); (case kF_111 => exact rfl); (case kK_111 => assumption); (case k1_111 => k_asm); (case k2_111 => k_asm); (case k3_111 => k_asm); (case k4_111 => k_asm); (case k5_111 => k_asm); (case k6_111 => k_is); (case k7_111 => k_is); (case k8_111 => k_room); (case k9_111 => first | exact BindsTo.of_eq rfl | exact binds_K (by k_in) rfl (by k_is) rfl rfl rfl); (case kB_111 => exact rfl); (case kD_111 => decide +kernel); (case c2_111 => exact rfl); (case c3_111 => exact rfl); (case c4_111 => exact rfl); k_whole; intro g' L' h' tk' cells' FG' F' N' Y' B' X' T' l1; (try k_lt l1); refine hideG ?_; intro G0; k_cells Y'; (dsimp only [G0]); (try clear G0); (try simp only [List.cons_append, List.nil_append] at N'); (try dsimp only); (try fold_depth))
  k_with "k_enter" => (refine' code_def ?k1_112 ?k2_112 ?k3_112 ?k4_112 ?k5_112 ?kA_112 ?kF_112 ?kK_112 ?k6_112 ?k7_112 ?k8_112 ?k9_112 ?kB_112 ?_ ?c2_112 ?c3_112 ?c4_112 ?c5_112; (case kA_112 => exact rfl); (case kF_112 => exact rfl); (case kK_112 => assumption); (case k1_112 => k_asm); (case k2_112 => k_asm); (case k3_112 => k_asm); (case k4_112 => k_asm); (case k5_112 => k_asm); (case k6_112 => k_is); (case k7_112 => k_is); (case k8_112 => k_room); (case k9_112 => first | exact BindsTo.of_eq rfl | exact binds_K (by k_in) rfl (by k_is) rfl rfl rfl); (case c5_112 => decide); (case kB_112 => exact locs rfl); (case c2_112 => exact rfl); (case c3_112 => exact rfl); (case c4_112 => exact rfl); k_whole; intro g' L' h' FG' F' N' B' X' T'; (try dsimp only); (try fold_depth))
  trivial
noncomputable abbrev tup2 (a b : Value) (k : Nat) : Obj := { cls := .type "tuple", data := .seq #[a, b] k }
noncomputable abbrev CW := Int × Num
inductive RunIn (w : World) (news : Led) : List Value → List CW → Prop where
  | nil : RunIn w news [] []
  | cons {t : Addr} {c : Int} {tk : Tok} {v : Value} {q : Num} {k : Nat} {vs : List Value} {r : List CW} : (t, tup2 (.int c tk) v k) ∈ news → NumIn w news v q → RunIn w news vs r → RunIn w news (.ref t :: vs) ((c, q) :: r)
theorem RunIn.mono {w : World} {news news' : Led} {vs : List Value} {r : List CW} (h : RunIn w news vs r) (hs : ∀ p ∈ news, p ∈ news') : RunIn w news' vs r := by
  induction h with
  | nil => exact .nil
  | cons a b _ ih => exact .cons (hs _ a) (b.mono hs) ih
theorem RunIn.length {w : World} {news : Led} {vs : List Value} {r : List CW} (h : RunIn w news vs r) : vs.length = r.length := by
  induction h with
  | nil => rfl
  | cons a b _ ih => simp [ih]
theorem RunIn.at {w : World} {news : Led} {vs : List Value} {r : List CW} (h : RunIn w news vs r) : ∀ i, i < r.length → ∃ t c tk v k q, vs[i]? = some (.ref t) ∧ r[i]? = some (c, q) ∧ (t, tup2 (.int c tk) v k) ∈ news ∧ NumIn w news v q := by
  induction h with
  | nil => intro i hi; exact absurd hi (Nat.not_lt_zero _)
  | cons a b _ ih =>
    intro i hi
    cases i with
    | zero => exact ⟨_, _, _, _, _, _, rfl, rfl, a, b⟩
    | succ i =>
      obtain ⟨t, c, tk, v, k, q, h1, h2, h3, h4⟩ := ih i (by simpa using hi)
      exact ⟨t, c, tk, v, k, q, by simpa using h1, by simpa using h2, h3, h4⟩
theorem RunIn.app {w : World} {news : Led} {vs vs' : List Value} {r r' : List CW} (h : RunIn w news vs r) (h' : RunIn w news vs' r') : RunIn w news (vs ++ vs') (r ++ r') := by
  induction h with
  | nil => exact h'
  | cons a b _ ih => exact .cons a b ih
theorem RunIn.take {w : World} {news : Led} {vs : List Value} {r : List CW} (h : RunIn w news vs r) : ∀ n, RunIn w news (vs.take n) (r.take n) := by
  induction h with
  | nil => intro n; simp only [List.take_nil]; exact .nil
  | cons a b _ ih =>
    intro n
    cases n with
    | zero => exact .nil
    | succ n => exact .cons a b (ih n)
theorem RunIn.drop {w : World} {news : Led} {vs : List Value} {r : List CW} (h : RunIn w news vs r) : ∀ n, RunIn w news (vs.drop n) (r.drop n) := by
  induction h with
  | nil => intro n; simp only [List.drop_nil]; exact .nil
  | cons a b h' ih =>
    intro n
    cases n with
    | zero => exact .cons a b h'
    | succ n => exact ih n
section
variable {prog : Program} {w : World} {A : Around} {E : Value → Shared → Prop} {s : Shared} {h₀ : Heap} {L : Addr} {news : Led}
theorem run_item {ro : Led} {value slice : PySem.Expr} {l : Addr} {vs : List Value} {r : List CW} {n : Nat} {k : Int} {u : Tok} {Q : Value → Shared → Prop}
    (N : News h₀ L s.heap news) (hm : (l, PySem.W.listOf vs.toArray n) ∈ news) (R : RunIn w ro vs r) (h0 : 0 ≤ k) (hi : k < r.length) (hz : r.length ≤ 1000)
    (h : ∀ t c tk v k' q, r[k.toNat]? = some (c, q) → (t, tup2 (.int c tk) v k') ∈ ro → NumIn w ro v q → Q (.ref t) s)
    (hs : subscripted slice false (.ref l) (.int k u) = operate [.ref l, .int k u] (getItem (.ref l) (.int k u)) := by with_unfolding_all rfl) :
    wpAny (model prog w) A (subscriptTail value slice (.ref l) (.int k u)) Q E s := by
  obtain ⟨t, c, tk, v, k', q, h1, h2, h3, h4⟩ := R.at k.toNat (by lgec_go)
  exact lst_item N hm h0 (by lgec_go) h1 (h t c tk v k' q h2 h3 h4) hs
end
section
variable {prog : Program} {w : World} {A : Around} {E : Value → Shared → Prop} {s : Shared} {h₀ : Heap} {L : Addr} {news : Led}
theorem run_last {ro : Led} {value slice : PySem.Expr} {l : Addr} {vs : List Value} {r : List CW} {n : Nat} {u : Tok} {Q : Value → Shared → Prop}
    (N : News h₀ L s.heap news) (hm : (l, PySem.W.listOf vs.toArray n) ∈ news) (R : RunIn w ro vs r) (hi : 0 < r.length) (hz : r.length ≤ 1000)
    (h : ∀ t c tk v k' q, r[r.length - 1]? = some (c, q) → (t, tup2 (.int c tk) v k') ∈ ro → NumIn w ro v q → Q (.ref t) s)
    (hs : subscripted slice false (.ref l) (.int (-1) u) = operate [.ref l, .int (-1) u] (getItem (.ref l) (.int (-1) u)) := by with_unfolding_all rfl) :
    wpAny (model prog w) A (subscriptTail value slice (.ref l) (.int (-1) u)) Q E s := by
  obtain ⟨t, c, tk, v, k', q, h1, h2, h3, h4⟩ := R.at (r.length - 1) (by lgec_go)
  have hl := lst_is N hm
  have hv := R.length
  have hsz : vs.toArray.size = r.length := by rw [List.size_toArray]; exact hv
  exact tail_any hl.typeIs slot_list_getitem.lookup (wpAny_getItem_list_neg hl (by decide) (by rw [hsz]; lgec_go) (by decide) (by rw [hsz, show ((-1 : Int) + r.length).toNat = r.length - 1 by lgec_go]; simpa using h1) (h t c tk v k' q h2 h3 h4)) hs
end
theorem sub_tail {a b : Led} {x : Addr × Obj} (h : ∀ p ∈ a, p ∈ b) : ∀ p ∈ a, p ∈ x :: b := fun p hp => .tail _ (h p hp)
theorem sub_self {a : Led} : ∀ p ∈ a, p ∈ a := fun _ h => h
theorem sub_growK {ks : List Addr} {a b c : Led} (h : GrowK ks b c) (h' : ∀ p ∈ a, p ∈ b) : ∀ p ∈ a, p ∈ c := fun p hp => h.sub p (h' p hp)
theorem sub_trans {a b c : Led} (h : ∀ p ∈ b, p ∈ c) (h' : ∀ p ∈ a, p ∈ b) : ∀ p ∈ a, p ∈ c := fun p hp => h p (h' p hp)
theorem sub_app {a b c : Led} (h1 : ∀ p ∈ a, p ∈ c) (h2 : ∀ p ∈ b, p ∈ c) : ∀ p ∈ a ++ b, p ∈ c := fun p hp => (List.mem_append.mp hp).elim (h1 p) (h2 p)
theorem sub_appL {a b c : Led} (h : ∀ p ∈ a, p ∈ b) : ∀ p ∈ a, p ∈ b ++ c := fun p hp => List.mem_append_left _ (h p hp)
theorem sub_appR {a b c : Led} (h : ∀ p ∈ a, p ∈ c) : ∀ p ∈ a, p ∈ b ++ c := fun p hp => List.mem_append_right _ (h p hp)
theorem sub_consApp {a b c : Led} {x : Addr × Obj} (h : ∀ p ∈ a, p ∈ b ++ c) : ∀ p ∈ a, p ∈ (x :: b) ++ c := fun p hp => .tail _ (h p hp)
theorem sub_nilL {c : Led} : ∀ p ∈ ([] : Led), p ∈ c := fun _ h => nomatch h
theorem sub_consL {a c : Led} {x : Addr × Obj} (h1 : x ∈ c) (h2 : ∀ p ∈ a, p ∈ c) : ∀ p ∈ x :: a, p ∈ c := List.forall_mem_cons.mpr ⟨h1, h2⟩

end
section
theorem kw_Q1_0 : True := by
  k_with_none
  k_with "om" => first | decide | (with_reducible first | apply om26 <;> assumption | apply om63 <;> assumption | apply om64 <;> assumption | apply om65 <;> assumption | apply om156 <;> assumption | apply om157 <;> assumption | apply om158 <;> assumption | apply om159 <;> assumption | apply om160 <;> assumption | apply om161 <;> assumption | apply om162 <;> assumption | apply om163 <;> assumption | apply om164 <;> assumption | apply om165 <;> assumption)
  k_with "k_ne" => (refine neN ?_; (try dsimp only); first | with_reducible assumption | lgec_go)
  k_with "fold_depth" => first | ((with_reducible show wpAny _ (Around.deeper (ktrTop _ _ _ _ _ _ _ _ _ _) _) _ _ _ _); refine wp_fold4 ?_; intro A1 q0 e0) | (refine wp_fold2 ?_; intro q00 e00)
  k_with "fold_lay" => ((show wpAny _ _ _ _ _ _); first | (fail_if_success k_fold) | ((try clear qf); refine wp_fold ?_; intro qf))
  k_with "k_steps" => ((try dsimp only); (try fold_lay); repeat' (first | (k_unfold; (try dsimp only)) | (k_end; wrow_close) | (walk1; (try ((first | (with_reducible show wpAny _ _ (exec _ _) _ _ _) | (with_reducible show wpAny _ _ (execs _ _) _ _ _)); (try dsimp only); fold_lay))) | (dsimp only; walk1) | (leave1; walk_say "STEP leave1"; try dsimp only) | fail "no step"))
  k_with "k_room" => first | exact fastR (by assumption) | ktr_room | (simp only [A1]; ktr_room)
  k_with "k_units" => first | ktr_units | (simp only [A1]; ktr_units)
  k_with "k_enter" => (refine' code_defC ?k1_118 ?k2_118 ?k3_118 ?k4_118 ?k5_118 ?kA_118 ?kF_118 ?kK_118 ?k6_118 ?k7_118 ?k8_118 ?k9_118 ?kB_118 ?kD_118 ?_ ?c2_118 ?c3_118 ?c4_118; (case kA_118 => exact rfl); (case kF_118 => exact rfl); (case kK_118 => assumption); (case k1_118 => k_asm); (case k2_118 => k_asm); (case k3_118 => k_asm); (case k4_118 => k_asm); (case k5_118 => k_asm); (case k6_118 => k_is); (case k7_118 => k_is); (case k8_118 => k_room); (case k9_118 => first | exact BindsTo.of_eq rfl | exact binds_K (by k_in) rfl (by k_is) rfl rfl rfl); (case kB_118 => exact rfl); (case kD_118 => decide +kernel); (case c2_118 => exact rfl); (case c3_118 => exact rfl); (case c4_118 => exact rfl); k_whole; intro g' L' h' tk' cells' FG' F' N' Y' B' X' T' l1; (try k_lt l1); refine hideG ?_; intro G0; k_cells Y'; (dsimp only [G0]); (try clear G0); (try simp only [List.cons_append, List.nil_append] at N'); (try dsimp only); (try fold_depth))
  k_with "k_enter" => (refine' code_def ?k1_119 ?k2_119 ?k3_119 ?k4_119 ?k5_119 ?kA_119 ?kF_119 ?kK_119 ?k6_119 ?k7_119 ?k8_119 ?k9_119 ?kB_119 ?_ ?c2_119 ?c3_119 ?c4_119 ?c5_119; (case kA_119 => exact rfl); (case kF_119 => exact rfl); (case kK_119 => assumption); (case k1_119 => k_asm); (case k2_119 => k_asm); (case k3_119 => k_asm); (case k4_119 => k_asm); (case k5_119 => k_asm); (case k6_119 => k_is); (case k7_119 => k_is); (case k8_119 => k_room); (case k9_119 => first | exact BindsTo.of_eq rfl | exact binds_K (by k_in) rfl (by k_is) rfl rfl rfl); (case c5_119 => decide); (case kB_119 => exact locs rfl); (case c2_119 => exact rfl); (case c3_119 => exact rfl); (case c4_119 => exact rfl); k_whole; intro g' L' h' FG' F' N' B' X' T'; (try dsimp only); (try fold_depth))
  k_with "tb_rel" => with_reducible first | assumption | exact sub_self | (refine sub_tail ?_; tb_rel) | (refine sub_growK (by assumption) ?_; tb_rel) | (refine sub_app ?_ ?_; (focus tb_rel); tb_rel) | (refine sub_consApp ?_; tb_rel) | (refine sub_appL ?_; tb_rel) | (refine sub_appR ?_; tb_rel)
  k_with "k_mem" => (refine sub_mem ?_ (by assumption); tb_rel)
  k_with "tb_start" => first | assumption | (refine NumIn.mono (by assumption) ?_; tb_rel)
  k_with "call ref" => ((with_reducible show wpAny _ _ (call (Value.ref 194) _) _ _ _); first | (k_dflt (refine' Calls.use ?k1_123 ?k2_123 ?k3_123 ?k4_123 ?k5_123 ?kK_123 ?C_123 ?kd_123 ?ku_123 ?_; (case k1_123 => k_asm); (case k2_123 => k_asm); (case k3_123 => k_asm); (case k4_123 => k_asm); (case k5_123 => k_asm); (case kK_123 => first | exact rfl | assumption); (case C_123 => exact same_spec _ _ _ _ _ _ (by tb_start) (by tb_start)); (case kd_123 => first | exact fastD (by assumption) (by decide) | lgec_go | (walk_say "SLOW ROOM"; ktr_room)); (case ku_123 => first | exact fastU (by assumption) (by decide) | lgec_go | (walk_say "SLOW UNITS"; ktr_units)); k_whole; intro r' n' h' tk' F' N' hr'; refine hideG ?_; intro G0; (obtain ⟨e1', e2'⟩ := hr'); subst e1'; replace e2' := Eq.symm e2'; subst e2'; (dsimp only [G0]); (try clear G0); (try k_sweep))) | refine Stop.mk ?_)
  k_with "subscriptTail" => ((with_reducible show wpAny _ _ (subscriptTail _ _ (Value.ref _) (Value.int _ _)) _ _ _); k_dflt (refine' run_item ?k1_124 ?k2_124 ?k3_124 ?k4_124 ?k5_124 ?k6_124 ?_; (case k1_124 => k_asm); (case k2_124 => k_mem); (case k3_124 => assumption); (case k4_124 => lgec_go); (case k5_124 => lgec_go); (case k6_124 => lgec_go)); (intro t' c' ct' v' k' q' hg' hm' hn'))
  k_with "exec While" => ((with_reducible show wpAny _ _ (exec (Stmt.While _ _ _ _) _) _ _ _); refine Stop.mk ?_)
  k_with "exec While Compare" => ((with_reducible show wpAny _ _ (exec (Stmt.While _ _ _ _) _) _ _ _); refine Stop.mk ?_)
  k_with "exec While BoolOp" => ((with_reducible show wpAny _ _ (exec (Stmt.While _ _ _ _) _) _ _ _); refine Stop.mk ?_)
  k_with "exec While Name" => ((with_reducible show wpAny _ _ (exec (Stmt.While _ _ _ _) _) _ _ _); refine Stop.mk ?_)
  k_with "exec While Compare cons nil" => ((with_reducible show wpAny _ _ (exec (Stmt.While _ _ _ _) _) _ _ _); refine Stop.mk ?_)
  k_with "call builtin:len" => ((with_reducible show wpAny _ _ (call (Value.builtin "len") [Value.ref _]) _ _ _); k_dflt (refine' lst_len ?k1_130 ?k2_130 ?k3_130 ?_; (case k1_130 => k_asm); (case k2_130 => k_mem); (case k3_130 => lgec_go); k_whole))
  k_with "truthy ref" => (k_dflt (refine' lst_truthy ?k1_131 ?k2_131 ?k3_131 ?_; (case k1_131 => k_asm); (case k2_131 => k_mem); (case k3_131 => lgec_go); k_whole))
  k_with "call builtin:list.append" => ((with_reducible show wpAny _ _ (call (Value.builtin _) [Value.ref _, _]) _ _ _); k_dflt (refine' lst_append ?k1_132 ?k2_132 ?k3_132 ?k4_132 ?_; (case k1_132 => k_asm); (case k2_132 => k_asm); (case k3_132 => k_upd); (case k4_132 => lgec_go); k_whole); intro h' F' N'; (try k_sweep))
  k_with "call builtin:list.extend" => ((with_reducible show wpAny _ _ (call (Value.builtin _) [Value.ref _, Value.ref _]) _ _ _); k_dflt (refine' lst_extend ?k1_133 ?k2_133 ?k3_133 ?k4_133 ?k5_133 ?_; (case k1_133 => k_asm); (case k2_133 => k_asm); (case k3_133 => k_updF); (case k4_133 => k_mem); (case k5_133 => first | (simp only [List.length_take, List.length_drop, List.length_append, List.length_cons, List.length_nil]; lgec_go) | lgec_go); k_whole); intro h' n' F' N'; (try dsimp only at N'); (try k_sweep))
  k_with "binaryOp Add" => ((with_reducible show wpAny _ _ (binaryOp Operator.Add (Value.ref _) (Value.ref _)) _ _ _); k_dflt (refine' lst_add ?k1_134 ?k2_134 ?k3_134 ?k4_134 ?k5_134 ?_; (case k1_134 => k_asm); (case k2_134 => k_asm); (case k3_134 => k_mem); (case k4_134 => k_mem); (case k5_134 => first | (simp only [List.length_cons, List.length_nil]; lgec_go) | lgec_go); k_whole); intro l' h' F' N' l1; (try k_lt l1); (try k_sweep))
  k_with "binaryOp Add ref ref" => ((with_reducible show wpAny _ _ (binaryOp Operator.Add (Value.ref _) (Value.ref _)) _ _ _); k_dflt (refine' lst_add ?k1_135 ?k2_135 ?k3_135 ?k4_135 ?k5_135 ?_; (case k1_135 => k_asm); (case k2_135 => k_asm); (case k3_135 => k_mem); (case k4_135 => k_mem); (case k5_135 => first | (simp only [List.length_cons, List.length_nil]; lgec_go) | lgec_go); k_whole); intro l' h' F' N' l1; (try k_lt l1); (try k_sweep))
  k_with "subscriptTail Name Slice ref ref" => ((with_reducible show wpAny _ _ (subscriptTail _ _ (Value.ref _) (Value.ref _)) _ _ _); k_dflt (refine' lst_slice ?k1_136 ?k2_136 ?k3_136 ?k4_136 ?k5_136 ?k6_136 ?_; (case k1_136 => k_asm); (case k2_136 => k_asm); (case k3_136 => k_mem); (case k4_136 => lgec_go); (case k5_136 => lgec_go); (case k6_136 => lgec_go); k_whole); intro l' h' F' N' l1; (try k_lt l1); (try k_sweep))
  trivial
structure AlikeAt (r : List CW) (place k : Nat) : Prop where
  pos : 1 ≤ k
  fit : place + k ≤ r.length
  same : ∀ j, j < k → ∀ a b, r[place + j]? = some a → r[place]? = some b → sameN a.2 b.2 = true
  top : ∀ a b, r[place + k]? = some a → r[place]? = some b → sameN a.2 b.2 = false
theorem sameN_refl (a : Num) : sameN a a = true := by simp [sameN]
theorem same_at {r : List CW} {i j : Nat} {c1 c2 : Int} {q1 q2 : Num} {v : Bool} (h3 : sameN q1 q2 = v) (h1 : r[i]? = some (c1, q1)) (h2 : r[j]? = some (c2, q2)) : ∀ a b, r[i]? = some a → r[j]? = some b → sameN a.2 b.2 = v := by
  intro a b ha hb
  rw [h1] at ha
  rw [h2] at hb
  cases ha; cases hb
  exact h3
theorem alike_turn {r : List CW} {place : Int} {count : Nat} {x1 x2 : CW} (h0 : 0 ≤ place) (h : ∀ j, j < count → ∀ a b, r[place.toNat + j]? = some a → r[place.toNat]? = some b → sameN a.2 b.2 = true)
    (h1 : r[(place + count).toNat]? = some x1) (h2 : r[place.toNat]? = some x2) (h3 : sameN x1.2 x2.2 = true) : ∀ j, j < count + 1 → ∀ a b, r[place.toNat + j]? = some a → r[place.toNat]? = some b → sameN a.2 b.2 = true := by
  intro j hj a b ha hb
  by_cases e : j = count
  · subst e
    rw [show (place + (j : Int)).toNat = place.toNat + j by lgec_go, ha] at h1
    rw [hb] at h2
    cases h1; cases h2
    exact h3
  · exact h j (by lgec_go) a b ha hb
theorem alike_end {r : List CW} {place : Int} {count : Nat} (h0 : 0 ≤ place) (h : ∀ j, j < count → ∀ a b, r[place.toNat + j]? = some a → r[place.toNat]? = some b → sameN a.2 b.2 = true) (hc : 1 ≤ count) (hf : place.toNat + count ≤ r.length)
    (ht : ∀ a b, r[(place + count).toNat]? = some a → r[place.toNat]? = some b → sameN a.2 b.2 = false) : AlikeAt r place.toNat count :=
  ⟨hc, hf, h, fun a b ha hb => ht a b (by rw [show (place + (count : Int)).toNat = place.toNat + count by lgec_go]; exact ha) hb⟩
theorem alike_spec (w : World) (news ro : Led) (l : Addr) (vs : List Value) (n : Nat) (r : List CW) (place : Int) (t : Tok) (hm : (l, PySem.W.listOf vs.toArray n) ∈ news) (R : RunIn w ro vs r) (hro : ∀ y ∈ ro, y ∈ news) (h0 : 0 ≤ place) (h1 : place < r.length) (hz : r.length ≤ 1000) :
    Calls w 369 8 [.ref l, .int place t] news (fun v news' => (∃ (c : Nat) (t' : Tok), v = .int c t' ∧ AlikeAt r place.toNat c) ∧ news' = news) := by
  intro mean mg mb dp un gd cn cs a ccd cl outer A₀ base h₀ L m s Q E B F X N T hk hd hu hret
  have hvl := R.length
  k_steps
  refine Stop.on ?_
  rename Fr _ _ _ _ => F1
  rename News _ _ _ news => N1
  refine While_inv2 (n₀ := r.length - 1) (fun n m news' => news = news' ∧ ∃ (count : Nat) (tc : Tok), Has m [(Str.ofString "run", .ref l), (Str.ofString "place", .int place t), (Str.ofString "count", .int count tc)] ∧ n = r.length - count ∧ 1 ≤ count ∧ place.toNat + count ≤ r.length ∧
    ∀ j, j < count → ∀ a b, r[place.toNat + j]? = some a → r[place.toNat]? = some b → sameN a.2 b.2 = true) F1 N1 ?h0 ?turn (by passes_own)
  case h0 =>
    refine ⟨rfl, 1, _, ⟨rfl, rfl, rfl, trivial⟩, ?_, by lgec_go, by lgec_go, fun j hj a b ha hb => ?_⟩
    · rfl
    · obtain rfl : j = 0 := by lgec_go
      rw [Nat.add_zero, hb] at ha
      cases ha
      exact sameN_refl _
  case turn =>
    rintro n m₁ news₁ h₁ tk₁ F2 N2 hX9
    revert N2
    obtain ⟨rfl, count, tc, hm, rfl, hc1, hc2, hc3⟩ := hX9
    intro N2
    replace F2 := pinned F2 hm
    simp only [pin] at F2
    k_steps
    · refine ⟨_, _, _, _, r.length - (count + 1), rfl, by k_asm, by k_asm, by lgec_go, rfl, count + 1, _, ⟨rfl, rfl, rfl, trivial⟩, rfl, by lgec_go, by lgec_go, alike_turn h0 hc3 (by assumption) (by assumption) (by assumption)⟩
    · exact hret _ _ _ _ (by k_asm) (by k_asm) ⟨⟨_, _, rfl, alike_end h0 hc3 hc1 hc2 (same_at (by assumption) (by assumption) (by assumption))⟩, rfl⟩
    · exact hret _ _ _ _ (by k_asm) (by k_asm) ⟨⟨_, _, rfl, alike_end h0 hc3 hc1 hc2 fun a b ha hb => by rw [List.getElem?_eq_none (by lgec_go)] at ha; cases ha⟩, rfl⟩

end
section
theorem kw_CR_0 : True := by
  k_with_none
  k_with "om" => first | decide | (with_reducible first | apply om66 <;> assumption | apply om67 <;> assumption)
  k_with "k_ne" => (refine neN ?_; (try dsimp only); first | with_reducible assumption | lgec_go)
  k_with "fold_depth" => first | ((with_reducible show wpAny _ (Around.deeper (ktrTop _ _ _ _ _ _ _ _ _ _) _) _ _ _ _); refine wp_fold4 ?_; intro A1 q0 e0) | (refine wp_fold2 ?_; intro q00 e00)
  k_with "fold_lay" => ((show wpAny _ _ _ _ _ _); first | (fail_if_success k_fold) | ((try clear qf); refine wp_fold ?_; intro qf))
  k_with "k_steps" => ((try dsimp only); (try fold_lay); repeat' (first | (k_unfold; (try dsimp only)) | (k_end; wrow_close) | (walk1; (try ((first | (with_reducible show wpAny _ _ (exec _ _) _ _ _) | (with_reducible show wpAny _ _ (execs _ _) _ _ _)); (try dsimp only); fold_lay))) | (dsimp only; walk1) | (leave1; walk_say "STEP leave1"; try dsimp only) | fail "no step"))
  k_with "k_room" => first | exact fastR (by assumption) | ktr_room | (simp only [A1]; ktr_room)
  k_with "k_units" => first | ktr_units | (simp only [A1]; ktr_units)
  k_with "k_enter" => (refine' code_defC ?k1_142 ?k2_142 ?k3_142 ?k4_142 ?k5_142 ?kA_142 ?kF_142 ?kK_142 ?k6_142 ?k7_142 ?k8_142 ?k9_142 ?kB_142 ?kD_142 ?_ ?c2_142 ?c3_142 ?c4_142; (case kA_142 => exact rfl); (case kF_142 => exact rfl); (case kK_142 => assumption); (case k1_142 => k_asm); (case k2_142 => k_asm); (case k3_142 => k_asm); (case k4_142 => k_asm); (case k5_142 => k_asm); (case k6_142 => k_is); (case k7_142 => k_is); (case k8_142 => k_room); (case k9_142 => first | exact BindsTo.of_eq rfl | exact binds_K (by k_in) rfl (by k_is) rfl rfl rfl); (case kB_142 => exact rfl); (case kD_142 => decide +kernel); (case c2_142 => exact rfl); (case c3_142 => exact rfl); (case c4_142 => exact rfl); k_whole; intro g' L' h' tk' cells' FG' F' N' Y' B' X' T' l1; (try k_lt l1); refine hideG ?_; intro G0; k_cells Y'; (dsimp only [G0]); (try clear G0); (try simp only [List.cons_append, List.nil_append] at N'); (try dsimp only); (try fold_depth))
  k_with "k_enter" => (refine' code_def ?k1_143 ?k2_143 ?k3_143 ?k4_143 ?k5_143 ?kA_143 ?kF_143 ?kK_143 ?k6_143 ?k7_143 ?k8_143 ?k9_143 ?kB_143 ?_ ?c2_143 ?c3_143 ?c4_143 ?c5_143; (case kA_143 => exact rfl); (case kF_143 => exact rfl); (case kK_143 => assumption); (case k1_143 => k_asm); (case k2_143 => k_asm); (case k3_143 => k_asm); (case k4_143 => k_asm); (case k5_143 => k_asm); (case k6_143 => k_is); (case k7_143 => k_is); (case k8_143 => k_room); (case k9_143 => first | exact BindsTo.of_eq rfl | exact binds_K (by k_in) rfl (by k_is) rfl rfl rfl); (case c5_143 => decide); (case kB_143 => exact locs rfl); (case c2_143 => exact rfl); (case c3_143 => exact rfl); (case c4_143 => exact rfl); k_whole; intro g' L' h' FG' F' N' B' X' T'; (try dsimp only); (try fold_depth))
  trivial
section
open LCg LCt LCp
variable {prog : Program} {w : World} {A : Around} {h₀ : Heap} {L : Addr} {m : Str → Option Value} {env : Env} {elt ct : PySem.Expr} {x x₂ : Str} {scope : Scope} {cl : List (Str × Addr)} {s : Shared} {S : Led → Prop} {P : Nat → Value → Prop} {Fin : List Value → Led → Prop} {news : Led}
theorem compEnd_mono {s₁ : Shared} {I C D : Addr} {oI oC oD : Obj} {R R' : Value → Led → Prop} {y : Value} {s₂ : Shared} (hR : ∀ y n, S n → R y n → R' y n) (h : LCg.CompEnd h₀ L m s₁ I oI C oC D oD S R y s₂) : LCg.CompEnd h₀ L m s₁ I oI C oC D oD S R' y s₂ := by
  (refine hideG ?_; intro G0)
  obtain ⟨h', tk, n', e, F, N, o, hS, r⟩ := h
  (dsimp only [G0]); clear G0
  exact ⟨h', tk, n', e, F, N, o, hS, hR _ _ hS r⟩
theorem comp_inv (J : Nat → List Value → Led → Prop) {n : Nat} (h0 : J 0 [] news)
    (turn : ∀ i ys news₁ v I oI C oC D m₂ h tk (E' : Value → Shared → Prop), i < n → J i ys news₁ → P i v → LCg.NsObj oC m₂ → m₂ x = some v → Fr h₀ L h m → News h₀ L h ((I, oI) :: (C, oC) :: (D, LCg.lst ys) :: news₁) → LCg.Off3 I C D news₁ → ((@Ne Nat I C) ∧ (@Ne Nat I D) ∧ (@Ne Nat C D)) →
      wpAny (model prog w) A (eval elt (compEnvC scope cl C env)) (LCg.CompEnd h₀ L m { s with heap := h, toks := tk } I oI C oC D (LCg.lst ys) S (fun y news' => J (i + 1) (ys ++ [y]) news')) E' { s with heap := h, toks := tk })
    (fin : ∀ ys news', J n ys news' → Fin ys news') : LCg.CompRest prog w A h₀ L m env elt x scope cl s S P Fin n 0 [] news := by
  have key : ∀ (j i : Nat) (ys : List Value) (news : Led), i + j = n → J i ys news → LCg.CompRest prog w A h₀ L m env elt x scope cl s S P Fin j i ys news := by
    intro j
    induction j with
    | zero => intro i ys news hi hJ; rw [Nat.add_zero] at hi; subst hi; exact LCg.CompRest.zero (fin ys news hJ)
    | succ j ih =>
      intro i ys news hi hJ
      refine LCg.CompRest.succ ?_
      intro v I oI C oC D m₂ h tk E' hv hC hx F N off ne
      exact wpAny_mono (turn i ys news v I oI C oC D m₂ h tk E' (by lgec_go) hJ hv hC hx F N off ne) (fun y s₂ hq => compEnd_mono (fun y n _ hJ' => ih (i + 1) _ _ (by lgec_go) hJ') hq) fun _ _ e => e
  exact key n 0 [] news (Nat.zero_add n) h0
theorem compP_inv (J : Nat → List Value → Led → Prop) {n : Nat} (h0 : J 0 [] news)
    (src : ∀ i ys news₁ v, i < n → J i ys news₁ → P i v → ∃ (t : Addr) (ot : Obj) (v₁ v₂ : Value) (nt : Nat), v = .ref t ∧ (t, ot) ∈ news₁ ∧ ot.cls = .type "tuple" ∧ ot.data = .seq #[v₁, v₂] nt ∧
      ∀ I oI C oC D m₂ h tk (E' : Value → Shared → Prop), LCg.NsObj oC m₂ → m₂ x = some v₁ → m₂ x₂ = some v₂ → Fr h₀ L h m → News h₀ L h ((I, oI) :: (C, oC) :: (D, LCg.lst ys) :: news₁) → LCg.Off3 I C D news₁ → ((@Ne Nat I C) ∧ (@Ne Nat I D) ∧ (@Ne Nat C D)) →
      wpAny (model prog w) A (eval elt (compEnvC scope cl C env)) (LCg.CompEnd h₀ L m { s with heap := h, toks := tk } I oI C oC D (LCg.lst ys) S (fun y news' => J (i + 1) (ys ++ [y]) news')) E' { s with heap := h, toks := tk })
    (fin : ∀ ys news', J n ys news' → Fin ys news') : LCp.CompRestP prog w A h₀ L m env elt x x₂ scope cl s S P Fin n 0 [] news := by
  have key : ∀ (j i : Nat) (ys : List Value) (news : Led), i + j = n → J i ys news → LCp.CompRestP prog w A h₀ L m env elt x x₂ scope cl s S P Fin j i ys news := by
    intro j
    induction j with
    | zero => intro i ys news hi hJ; rw [Nat.add_zero] at hi; subst hi; exact LCp.CompRestP.zero (fin ys news hJ)
    | succ j ih =>
      intro i ys news hi hJ
      refine LCp.CompRestP.succ ?_
      intro v hv
      (refine hideG ?_; intro G0)
      obtain ⟨t, ot, v₁, v₂, nt, e, hm, hc, hd, turn⟩ := src i ys news v (by lgec_go) hJ hv
      (dsimp only [G0]); clear G0
      refine ⟨t, ot, v₁, v₂, nt, e, hm, hc, hd, ?_⟩
      intro I oI C oC D m₂ h tk E' hC hx hx₂ F N off ne
      exact wpAny_mono (turn I oI C oC D m₂ h tk E' hC hx hx₂ F N off ne) (fun y s₂ hq => compEnd_mono (fun y n _ hJ' => ih (i + 1) _ _ (by lgec_go) hJ') hq) fun _ _ e => e
  exact key n 0 [] news (Nat.zero_add n) h0
theorem compT_inv (J : Nat → List Value → Led → Prop) {n : Nat} (h0 : J 0 [] news)
    (turn : ∀ i ys news₁ v I oI C oC D m₂ h tk (E' : Value → Shared → Prop), i < n → J i ys news₁ → P i v → LCg.NsObj oC m₂ → m₂ x = some v → Fr h₀ L h m → News h₀ L h ((I, oI) :: (C, oC) :: (D, LCg.lst ys) :: news₁) → LCg.Off3 I C D news₁ → ((@Ne Nat I C) ∧ (@Ne Nat I D) ∧ (@Ne Nat C D)) →
      wpAny (model prog w) A (isTrue ct (compEnvC scope cl C env) (eval ct (compEnvC scope cl C env))) (fun ok s' => if ok = true then
        wpAny (model prog w) A (eval elt (compEnvC scope cl C env)) (LCg.CompEnd h₀ L m { s with heap := h, toks := tk } I oI C oC D (LCg.lst ys) S (fun y news' => J (i + 1) (ys ++ [y]) news')) E' s'
        else LCg.CompEnd h₀ L m { s with heap := h, toks := tk } I oI C oC D (LCg.lst ys) S (fun _ news' => J (i + 1) ys news') Value.none s') E' { s with heap := h, toks := tk })
    (fin : ∀ ys news', J n ys news' → Fin ys news') : LCt.CompRestT prog w A h₀ L m env ct elt x scope cl s S P Fin n 0 [] news := by
  have key : ∀ (j i : Nat) (ys : List Value) (news : Led), i + j = n → J i ys news → LCt.CompRestT prog w A h₀ L m env ct elt x scope cl s S P Fin j i ys news := by
    intro j
    induction j with
    | zero => intro i ys news hi hJ; rw [Nat.add_zero] at hi; subst hi; exact LCt.CompRestT.zero (fin ys news hJ)
    | succ j ih =>
      intro i ys news hi hJ
      refine LCt.CompRestT.succ ?_
      intro v I oI C oC D m₂ h tk E' hv hC hx F N off ne
      refine wpAny_mono (turn i ys news v I oI C oC D m₂ h tk E' (by lgec_go) hJ hv hC hx F N off ne) (fun ok s₂ hq => ?_) fun _ _ e => e
      cases ok with
      | true =>
        simp only [if_true] at hq ⊢
        exact wpAny_mono hq (fun y s₂ hq => compEnd_mono (fun y n _ hJ' => ih (i + 1) _ _ (by lgec_go) hJ') hq) fun _ _ e => e
      | false =>
        simp only [Bool.false_eq_true, if_false] at hq ⊢
        exact compEnd_mono (fun y n _ hJ' => ih (i + 1) _ _ (by lgec_go) hJ') hq
  exact key n 0 [] news (Nat.zero_add n) h0
end
section
variable {h₀ h : Heap} {L : Addr} {new rest : Led} {x1 x2 x3 x4 x5 x6 : Addr × Obj}
theorem gro0 (N : News h₀ L h (new ++ (rest))) (G : Apart (rest) new) :
    GrowR new rest (fun rest' => News h₀ L h (rest')) [] := growG (pre := []) (pre' := []) (mid := []) N G rfl
theorem gro1 (N : News h₀ L h (new ++ (x1 :: rest))) (G : Apart (x1 :: rest) new) :
    GrowR new rest (fun rest' => News h₀ L h (x1 :: rest')) [x1.1] := growG (pre := []) (pre' := []) (mid := [x1]) N G rfl
theorem gro2 (N : News h₀ L h (new ++ (x1 :: x2 :: rest))) (G : Apart (x1 :: x2 :: rest) new) :
    GrowR new rest (fun rest' => News h₀ L h (x1 :: x2 :: rest')) [x1.1, x2.1] := growG (pre := []) (pre' := []) (mid := [x1, x2]) N G rfl
theorem gro3 (N : News h₀ L h (new ++ (x1 :: x2 :: x3 :: rest))) (G : Apart (x1 :: x2 :: x3 :: rest) new) :
    GrowR new rest (fun rest' => News h₀ L h (x1 :: x2 :: x3 :: rest')) [x1.1, x2.1, x3.1] := growG (pre := []) (pre' := []) (mid := [x1, x2, x3]) N G rfl
theorem gro4 (N : News h₀ L h (new ++ (x1 :: x2 :: x3 :: x4 :: rest))) (G : Apart (x1 :: x2 :: x3 :: x4 :: rest) new) :
    GrowR new rest (fun rest' => News h₀ L h (x1 :: x2 :: x3 :: x4 :: rest')) [x1.1, x2.1, x3.1, x4.1] := growG (pre := []) (pre' := []) (mid := [x1, x2, x3, x4]) N G rfl
theorem gro5 (N : News h₀ L h (new ++ (x1 :: x2 :: x3 :: x4 :: x5 :: rest))) (G : Apart (x1 :: x2 :: x3 :: x4 :: x5 :: rest) new) :
    GrowR new rest (fun rest' => News h₀ L h (x1 :: x2 :: x3 :: x4 :: x5 :: rest')) [x1.1, x2.1, x3.1, x4.1, x5.1] := growG (pre := []) (pre' := []) (mid := [x1, x2, x3, x4, x5]) N G rfl
theorem gro6 (N : News h₀ L h (new ++ (x1 :: x2 :: x3 :: x4 :: x5 :: x6 :: rest))) (G : Apart (x1 :: x2 :: x3 :: x4 :: x5 :: x6 :: rest) new) :
    GrowR new rest (fun rest' => News h₀ L h (x1 :: x2 :: x3 :: x4 :: x5 :: x6 :: rest')) [x1.1, x2.1, x3.1, x4.1, x5.1, x6.1] := growG (pre := []) (pre' := []) (mid := [x1, x2, x3, x4, x5, x6]) N G rfl
end
theorem off1_off {D : Addr} {l : Led} (h : LCg.Off1 D l) : ∀ y ∈ l, y.1 ≠ D := by
  induction l with
  | nil => intro _ h; exact nomatch h
  | cons x r ih =>
    intro y hy
    rcases List.mem_cons.mp hy with rfl | hy
    · exact h.1
    · exact ih h.2 y hy
theorem off3_1 {I C D : Addr} {l : Led} (h : LCg.Off3 I C D l) : ∀ y ∈ l, y.1 ≠ I := fun y hy => (h.mem y hy).1
theorem off3_2 {I C D : Addr} {l : Led} (h : LCg.Off3 I C D l) : ∀ y ∈ l, y.1 ≠ C := fun y hy => (h.mem y hy).2.1
theorem off3_3 {I C D : Addr} {l : Led} (h : LCg.Off3 I C D l) : ∀ y ∈ l, y.1 ≠ D := fun y hy => (h.mem y hy).2.2
theorem lt_off {d : Addr} {l : Led} (h : ∀ p ∈ l, p.1 < d) : ∀ y ∈ l, y.1 ≠ d := allLt_off (allLt_of h)
theorem Apart.of_lt {d : Addr} {o : Obj} {l n : Led} (h : ∀ y ∈ l, y.1 ≠ d) (hn : Apart l n) : Apart l ((d, o) :: n) := Apart.cons h hn

end
section
theorem kw_Q2_0 : True := by
  k_with_none
  k_with "om" => first | decide | (with_reducible first | apply om10 <;> assumption | apply om16 <;> assumption | apply om17 <;> assumption | apply om166 <;> assumption | apply om167 <;> assumption | apply om168 <;> assumption)
  k_with "k_ne" => (refine neN ?_; (try dsimp only); first | with_reducible assumption | lgec_go)
  k_with "fold_depth" => first | ((with_reducible show wpAny _ (Around.deeper (ktrTop _ _ _ _ _ _ _ _ _ _) _) _ _ _ _); refine wp_fold4 ?_; intro A1 q0 e0) | (refine wp_fold2 ?_; intro q00 e00)
  k_with "fold_lay" => ((show wpAny _ _ _ _ _ _); first | (fail_if_success k_fold) | ((try clear qf); refine wp_fold ?_; intro qf))
  k_with "k_steps" => ((try dsimp only); (try fold_lay); repeat' (first | (k_unfold; (try dsimp only)) | (k_end; wrow_close) | (walk1; (try ((first | (with_reducible show wpAny _ _ (exec _ _) _ _ _) | (with_reducible show wpAny _ _ (execs _ _) _ _ _)); (try dsimp only); fold_lay))) | (dsimp only; walk1) | (leave1; walk_say "STEP leave1"; try dsimp only) | fail "no step"))
  k_with "k_room" => first | exact fastR (by assumption) | ktr_room | (simp only [A1]; ktr_room)
  k_with "k_units" => first | ktr_units | (simp only [A1]; ktr_units)
  k_with "k_enter" => (refine' code_defC ?k1_149 ?k2_149 ?k3_149 ?k4_149 ?k5_149 ?kA_149 ?kF_149 ?kK_149 ?k6_149 ?k7_149 ?k8_149 ?k9_149 ?kB_149 ?kD_149 ?_ ?c2_149 ?c3_149 ?c4_149; (case kA_149 => exact rfl); (case kF_149 => exact rfl); (case kK_149 => assumption); (case k1_149 => k_asm); (case k2_149 => k_asm); (case k3_149 => k_asm); (case k4_149 => k_asm); (case k5_149 => k_asm); (case k6_149 => k_is); (case k7_149 => k_is); (case k8_149 => k_room); (case k9_149 => first | exact BindsTo.of_eq rfl | exact binds_K (by k_in) rfl (by k_is) rfl rfl rfl); (case kB_149 => exact rfl); (case kD_149 => decide +kernel); (case c2_149 => exact rfl); (case c3_149 => exact rfl); (case c4_149 => exact rfl); k_whole; intro g' L' h' tk' cells' FG' F' N' Y' B' X' T' l1; (try k_lt l1); refine hideG ?_; intro G0; k_cells Y'; (dsimp only [G0]); (try clear G0); (try simp only [List.cons_append, List.nil_append] at N'); (try dsimp only); (try fold_depth))
  k_with "k_enter" => (refine' code_def ?k1_150 ?k2_150 ?k3_150 ?k4_150 ?k5_150 ?kA_150 ?kF_150 ?kK_150 ?k6_150 ?k7_150 ?k8_150 ?k9_150 ?kB_150 ?_ ?c2_150 ?c3_150 ?c4_150 ?c5_150; (case kA_150 => exact rfl); (case kF_150 => exact rfl); (case kK_150 => assumption); (case k1_150 => k_asm); (case k2_150 => k_asm); (case k3_150 => k_asm); (case k4_150 => k_asm); (case k5_150 => k_asm); (case k6_150 => k_is); (case k7_150 => k_is); (case k8_150 => k_room); (case k9_150 => first | exact BindsTo.of_eq rfl | exact binds_K (by k_in) rfl (by k_is) rfl rfl rfl); (case c5_150 => decide); (case kB_150 => exact locs rfl); (case c2_150 => exact rfl); (case c3_150 => exact rfl); (case c4_150 => exact rfl); k_whole; intro g' L' h' FG' F' N' B' X' T'; (try dsimp only); (try fold_depth))
  k_with "klt" => skip
  k_with "k_all" => first | exact List.forall_mem_nil _ | (with_reducible refine List.forall_mem_cons.mpr ⟨?_, ?_⟩; (focus k_ne); k_all) | with_reducible assumption | with_reducible exact allLt_off (by with_reducible assumption) | with_reducible exact lt_off (by with_reducible assumption) | with_reducible exact off1_off (by with_reducible assumption) | with_reducible exact off3_1 (by with_reducible assumption) | with_reducible exact off3_2 (by with_reducible assumption) | with_reducible exact off3_3 (by with_reducible assumption) | (with_reducible refine GrowK.off (by with_reducible assumption) ?_ ?_; (focus simp only [List.mem_cons, true_or, or_true]); k_all)
  k_with "tb_rel" => with_reducible first | assumption | exact sub_self | (refine sub_tail ?_; tb_rel) | (refine sub_growK (by assumption) ?_; tb_rel) | (refine sub_app ?_ ?_; (focus tb_rel); tb_rel) | (refine sub_consApp ?_; tb_rel) | (refine sub_appL ?_; tb_rel) | (refine sub_appR ?_; tb_rel)
  k_with "k_mem" => (refine sub_mem ?_ (by assumption); tb_rel)
  k_with "tb_start" => first | assumption | (refine NumIn.mono (by assumption) ?_; tb_rel)
  k_with "call ref" => ((with_reducible show wpAny _ _ (call (Value.ref 194) _) _ _ _); first | (k_dflt (refine' Calls.use ?k1_155 ?k2_155 ?k3_155 ?k4_155 ?k5_155 ?kK_155 ?C_155 ?kd_155 ?ku_155 ?_; (case k1_155 => k_asm); (case k2_155 => k_asm); (case k3_155 => k_asm); (case k4_155 => k_asm); (case k5_155 => k_asm); (case kK_155 => first | exact rfl | assumption); (case C_155 => exact same_spec _ _ _ _ _ _ (by tb_start) (by tb_start)); (case kd_155 => first | exact fastD (by assumption) (by decide) | lgec_go | (walk_say "SLOW ROOM"; ktr_room)); (case ku_155 => first | exact fastU (by assumption) (by decide) | lgec_go | (walk_say "SLOW UNITS"; ktr_units)); k_whole; intro r' n' h' tk' F' N' hr'; refine hideG ?_; intro G0; (obtain ⟨e1', e2'⟩ := hr'); subst e1'; replace e2' := Eq.symm e2'; subst e2'; (dsimp only [G0]); (try clear G0); (try k_sweep))) | refine Stop.mk ?_)
  k_with "subscriptTail" => ((with_reducible show wpAny _ _ (subscriptTail _ _ (Value.ref _) (Value.int _ _)) _ _ _); k_dflt (refine' run_item ?k1_156 ?k2_156 ?k3_156 ?k4_156 ?k5_156 ?k6_156 ?_; (case k1_156 => k_asm); (case k2_156 => k_mem); (case k3_156 => assumption); (case k4_156 => lgec_go); (case k5_156 => lgec_go); (case k6_156 => lgec_go)); (intro t' c' ct' v' k' q' hg' hm' hn'))
  k_with "exec While" => ((with_reducible show wpAny _ _ (exec (Stmt.While _ _ _ _) _) _ _ _); refine Stop.mk ?_)
  k_with "exec While Compare" => ((with_reducible show wpAny _ _ (exec (Stmt.While _ _ _ _) _) _ _ _); refine Stop.mk ?_)
  k_with "exec While BoolOp" => ((with_reducible show wpAny _ _ (exec (Stmt.While _ _ _ _) _) _ _ _); refine Stop.mk ?_)
  k_with "exec While Name" => ((with_reducible show wpAny _ _ (exec (Stmt.While _ _ _ _) _) _ _ _); refine Stop.mk ?_)
  k_with "exec While Compare cons nil" => ((with_reducible show wpAny _ _ (exec (Stmt.While _ _ _ _) _) _ _ _); refine Stop.mk ?_)
  k_with "call builtin:len" => ((with_reducible show wpAny _ _ (call (Value.builtin "len") [Value.ref _]) _ _ _); k_dflt (refine' lst_len ?k1_162 ?k2_162 ?k3_162 ?_; (case k1_162 => k_asm); (case k2_162 => k_mem); (case k3_162 => lgec_go); k_whole))
  k_with "truthy ref" => (k_dflt (refine' lst_truthy ?k1_163 ?k2_163 ?k3_163 ?_; (case k1_163 => k_asm); (case k2_163 => k_mem); (case k3_163 => lgec_go); k_whole))
  k_with "call builtin:list.append" => ((with_reducible show wpAny _ _ (call (Value.builtin _) [Value.ref _, _]) _ _ _); k_dflt (refine' lst_append ?k1_164 ?k2_164 ?k3_164 ?k4_164 ?_; (case k1_164 => k_asm); (case k2_164 => k_asm); (case k3_164 => k_upd); (case k4_164 => lgec_go); k_whole); intro h' F' N'; (try k_sweep))
  k_with "call builtin:list.extend" => ((with_reducible show wpAny _ _ (call (Value.builtin _) [Value.ref _, Value.ref _]) _ _ _); k_dflt (refine' lst_extend ?k1_165 ?k2_165 ?k3_165 ?k4_165 ?k5_165 ?_; (case k1_165 => k_asm); (case k2_165 => k_asm); (case k3_165 => k_updF); (case k4_165 => k_mem); (case k5_165 => first | (simp only [List.length_take, List.length_drop, List.length_append, List.length_cons, List.length_nil]; lgec_go) | lgec_go); k_whole); intro h' n' F' N'; (try dsimp only at N'); (try k_sweep))
  k_with "binaryOp Add" => ((with_reducible show wpAny _ _ (binaryOp Operator.Add (Value.ref _) (Value.ref _)) _ _ _); k_dflt (refine' lst_add ?k1_166 ?k2_166 ?k3_166 ?k4_166 ?k5_166 ?_; (case k1_166 => k_asm); (case k2_166 => k_asm); (case k3_166 => k_mem); (case k4_166 => k_mem); (case k5_166 => first | (simp only [List.length_cons, List.length_nil]; lgec_go) | lgec_go); k_whole); intro l' h' F' N' l1; (try k_lt l1); (try k_sweep))
  k_with "binaryOp Add ref ref" => ((with_reducible show wpAny _ _ (binaryOp Operator.Add (Value.ref _) (Value.ref _)) _ _ _); k_dflt (refine' lst_add ?k1_167 ?k2_167 ?k3_167 ?k4_167 ?k5_167 ?_; (case k1_167 => k_asm); (case k2_167 => k_asm); (case k3_167 => k_mem); (case k4_167 => k_mem); (case k5_167 => first | (simp only [List.length_cons, List.length_nil]; lgec_go) | lgec_go); k_whole); intro l' h' F' N' l1; (try k_lt l1); (try k_sweep))
  k_with "subscriptTail Name Slice ref ref" => ((with_reducible show wpAny _ _ (subscriptTail _ _ (Value.ref _) (Value.ref _)) _ _ _); k_dflt (refine' lst_slice ?k1_168 ?k2_168 ?k3_168 ?k4_168 ?k5_168 ?k6_168 ?_; (case k1_168 => k_asm); (case k2_168 => k_asm); (case k3_168 => k_mem); (case k4_168 => lgec_go); (case k5_168 => lgec_go); (case k6_168 => lgec_go); k_whole); intro l' h' F' N' l1; (try k_lt l1); (try k_sweep))
  k_with "SrcLP" => (first | k_dflt (refine LCp.SrcLP.ledger (by rfl) (by k_asm) (by k_asm) (by k_mem) ?sz_169 ?_; (case sz_169 => rw [List.size_toArray, sizeLine_eq]; lgec_go); intro g'; refine Stop.mk ?_) | refine Stop.mk ?_)
  k_with "CompSrc" => (first | k_dflt (first | (refine LCg.CompSrc.ledger (by rfl) (by k_asm) (by k_asm) (by k_mem) ?sz_170 ?_; (case sz_170 => rw [List.size_toArray, sizeLine_eq]; lgec_go); intro g'; refine Stop.mk ?_) | (refine LCg.CompSrc.range (by rfl) (by k_asm) (by k_asm) (by assumption) (range_small (by first | decide | lgec_go) (by first | decide | lgec_go) (by lgec_go) (by lgec_go)) (by first | exact range_n0 | exact range_n) ?sz_170 ?_; (case sz_170 => rw [sizeLine_eq]; lgec_go); intro g'; refine Stop.mk ?_)) | refine Stop.mk ?_)
  k_with "CompSrcT" => (first | k_dflt (first | (refine LCt.CompSrcT.ledger (by rfl) (by k_asm) (by k_asm) (by k_mem) ?sz_171 ?_; (case sz_171 => rw [List.size_toArray, sizeLine_eq]; lgec_go); intro g'; refine Stop.mk ?_) | (refine LCt.CompSrcT.range (by rfl) (by k_asm) (by k_asm) (by assumption) (range_small (by first | decide | lgec_go) (by first | decide | lgec_go) (by lgec_go) (by lgec_go)) (by first | exact range_n0 | exact range_n) ?sz_171 ?_; (case sz_171 => rw [sizeLine_eq]; lgec_go); intro g'; refine Stop.mk ?_)) | refine Stop.mk ?_)
  trivial
inductive Row where
  | listed (c : Int) (qs : List Num)
  | span (a b : Int) (q : Num)
inductive NumsIn (w : World) (news : Led) : List Value → List Num → Prop where
  | nil : NumsIn w news [] []
  | cons {v : Value} {q : Num} {vs : List Value} {qs : List Num} : NumIn w news v q → NumsIn w news vs qs → NumsIn w news (v :: vs) (q :: qs)
theorem NumsIn.mono {w : World} {news news' : Led} {vs : List Value} {r : List Num} (h : NumsIn w news vs r) (hs : ∀ p ∈ news, p ∈ news') : NumsIn w news' vs r := by
  induction h with
  | nil => exact .nil
  | cons b _ ih => exact .cons (b.mono hs) ih
theorem NumsIn.length {w : World} {news : Led} {vs : List Value} {r : List Num} (h : NumsIn w news vs r) : vs.length = r.length := by
  induction h with
  | nil => rfl
  | cons b _ ih => simp [ih]
theorem NumsIn.snoc {w : World} {news : Led} {vs : List Value} {r : List Num} {v : Value} {q : Num} (h : NumsIn w news vs r) (hv : NumIn w news v q) : NumsIn w news (vs ++ [v]) (r ++ [q]) := by
  induction h with
  | nil => exact .cons hv .nil
  | cons b _ ih => exact .cons b ih
theorem NumsIn.at {w : World} {news : Led} {vs : List Value} {r : List Num} (h : NumsIn w news vs r) : ∀ i, i < r.length → ∃ v q, vs[i]? = some v ∧ r[i]? = some q ∧ NumIn w news v q := by
  induction h with
  | nil => intro i hi; exact absurd hi (Nat.not_lt_zero _)
  | cons b _ ih =>
    intro i hi
    cases i with
    | zero => exact ⟨_, _, rfl, rfl, b⟩
    | succ i =>
      obtain ⟨v, q, h1, h2, h4⟩ := ih i (by simpa using hi)
      exact ⟨v, q, by simpa using h1, by simpa using h2, h4⟩
inductive RowsIn (w : World) (news : Led) : List Value → List Row → Prop where
  | nil : RowsIn w news [] []
  | listed {l : Addr} {c : Int} {t : Tok} {n : Nat} {ws vs : List Value} {qs : List Num} {r : List Row} : (l, PySem.W.listOf ws.toArray n) ∈ news → NumsIn w news ws qs → RowsIn w news vs r → RowsIn w news (.int c t :: .ref l :: vs) (.listed c qs :: r)
  | span {a b : Int} {t t2 : Tok} {v : Value} {q : Num} {vs : List Value} {r : List Row} : NumIn w news v q → RowsIn w news vs r → RowsIn w news (.int a t :: .int b t2 :: v :: vs) (.span a b q :: r)
theorem RowsIn.mono {w : World} {news news' : Led} {vs : List Value} {r : List Row} (h : RowsIn w news vs r) (hs : ∀ p ∈ news, p ∈ news') : RowsIn w news' vs r := by
  induction h with
  | nil => exact .nil
  | listed a b _ ih => exact .listed (hs _ a) (b.mono hs) ih
  | span a _ ih => exact .span (a.mono hs) ih
theorem RowsIn.app {w : World} {news : Led} {vs vs' : List Value} {r r' : List Row} (h : RowsIn w news vs r) (h' : RowsIn w news vs' r') : RowsIn w news (vs ++ vs') (r ++ r') := by
  induction h with
  | nil => exact h'
  | listed a b _ ih => exact .listed a b ih
  | span a _ ih => exact .span a ih
noncomputable def listedRows : List CW → List Row
  | [] => []
  | (c, q) :: r => [.listed c (((c, q) :: r).map (·.2))]
inductive ListedR (w : World) (news ro : Led) (r : List CW) (v : Value) (news' : Led) : Prop
  | mk (d : Addr) (ws : List Value) (k : Nat) (new : Led) : v = .ref d → news' = new ++ news → Apart news new → (d, PySem.W.listOf ws.toArray k) ∈ new → RowsIn w (new ++ ro) ws (listedRows r) → ws.length ≤ 2 → ListedR w news ro r v news'
theorem listed_spec (w : World) (news ro : Led) (l : Addr) (vs : List Value) (n : Nat) (r : List CW) (hm : (l, PySem.W.listOf vs.toArray n) ∈ news) (R : RunIn w ro vs r) (hro : ∀ y ∈ ro, y ∈ news) (hz : r.length ≤ 100) :
    Calls w 374 2 [.ref l] news (ListedR w news ro r) := by
  intro mean mg mb dp un gd cn cs a ccd cl outer A₀ base h₀ L m s Q E B F X N T hk hd hu hret
  have hvl := R.length
  k_steps
  · refine Stop.on ?_
    refine compP_inv (fun i ys news₁ => news = news₁ ∧ NumsIn w ro ys ((r.take i).map (·.2))) ⟨rfl, by simp; exact .nil⟩ ?src ?fin
    case src =>
      rintro i ys news₁ v hi ⟨rfl, hys⟩ hv
      rw [List.size_toArray, hvl] at hi
      (refine hideG ?_; intro G0)
      obtain ⟨t, c, tk, v1, k, q, h1, h2, h3, h4⟩ := R.at i hi
      (dsimp only [G0]); clear G0
      have e : v = .ref t := by simpa [h1] using hv.symm
      subst e
      refine ⟨t, _, _, _, _, rfl, hro _ h3, rfl, rfl, ?_⟩
      intro I oI C oC D m₂ h tk E' hC hx hx₂ F2 N2 off ne
      k_steps
      refine LCg.CompEnd.intro (by k_asm) N2 news (fun p hp => hp) off (Or.inr ⟨_, hm, rfl, _, rfl⟩) ⟨rfl, ?_⟩
      rw [List.take_add_one, h2]
      simpa using hys.snoc h4
    case fin =>
      rintro ys news' ⟨rfl, hys⟩
      k_steps
      refine hret _ _ _ _ (by k_asm) (by k_asm) ⟨_, [.int c' ct', .ref _], _, [(_, _), (_, _)], rfl, rfl, ?_, .head _, ?_, Nat.le_refl _⟩
      · exact Apart.cons (by k_all) (Apart.cons (by k_all) Apart.nil)
      · cases r with
        | nil => cases hg'
        | cons x r =>
          cases hg'
          rw [List.size_toArray, hvl, List.take_length] at hys
          exact .listed (.tail _ (.head _)) (hys.mono fun y hy => List.mem_append_right _ hy) .nil
  · exact hret _ _ _ _ (by k_asm) (by k_asm) ⟨_, [], _, [(_, _)], rfl, rfl, Apart.cons (by k_all) Apart.nil, .head _, by
      (refine hideG ?_; intro G0)
      cases r with
      | nil =>
        (dsimp only [G0]); clear G0
        exact .nil
      | cons x r =>
        (dsimp only [G0]); clear G0
        simp at hvl; lgec_go, Nat.zero_le _⟩

end
section
theorem kw_PL1_0 : True := by
  k_with_none
  k_with "om" => first | decide | (with_reducible first | apply om6 <;> assumption | apply om36 <;> assumption | apply om68 <;> assumption | apply om69 <;> assumption | apply om70 <;> assumption | apply om71 <;> assumption | apply om169 <;> assumption | apply om170 <;> assumption | apply om171 <;> assumption | apply om172 <;> assumption | apply om173 <;> assumption | apply om174 <;> assumption | apply om175 <;> assumption | apply om176 <;> assumption | apply om177 <;> assumption | apply om178 <;> assumption | apply om179 <;> assumption | apply om180 <;> assumption | apply om181 <;> assumption | apply om182 <;> assumption)
  k_with "k_ne" => (refine neN ?_; (try dsimp only); first | with_reducible assumption | lgec_go)
  k_with "fold_depth" => first | ((with_reducible show wpAny _ (Around.deeper (ktrTop _ _ _ _ _ _ _ _ _ _) _) _ _ _ _); refine wp_fold4 ?_; intro A1 q0 e0) | (refine wp_fold2 ?_; intro q00 e00)
  k_with "fold_lay" => ((show wpAny _ _ _ _ _ _); first | (fail_if_success k_fold) | ((try clear qf); refine wp_fold ?_; intro qf))
  k_with "k_steps" => ((try dsimp only); (try fold_lay); repeat' (first | (k_unfold; (try dsimp only)) | (k_end; wrow_close) | (walk1; (try ((first | (with_reducible show wpAny _ _ (exec _ _) _ _ _) | (with_reducible show wpAny _ _ (execs _ _) _ _ _)); (try dsimp only); fold_lay))) | (dsimp only; walk1) | (leave1; walk_say "STEP leave1"; try dsimp only) | fail "no step"))
  k_with "k_room" => first | exact fastR (by assumption) | ktr_room | (simp only [A1]; ktr_room)
  k_with "k_units" => first | ktr_units | (simp only [A1]; ktr_units)
  k_with "k_enter" => (refine' code_defC ?k1_177 ?k2_177 ?k3_177 ?k4_177 ?k5_177 ?kA_177 ?kF_177 ?kK_177 ?k6_177 ?k7_177 ?k8_177 ?k9_177 ?kB_177 ?kD_177 ?_ ?c2_177 ?c3_177 ?c4_177; (case kA_177 => exact rfl); (case kF_177 => exact rfl); (case kK_177 => assumption); (case k1_177 => k_asm); (case k2_177 => k_asm); (case k3_177 => k_asm); (case k4_177 => k_asm); (case k5_177 => k_asm); (case k6_177 => k_is); (case k7_177 => k_is); (case k8_177 => k_room); (case k9_177 => first | exact BindsTo.of_eq rfl | exact binds_K (by k_in) rfl (by k_is) rfl rfl rfl); (case kB_177 => exact rfl); (case kD_177 => decide +kernel); (case c2_177 => exact rfl); (case c3_177 => exact rfl); (case c4_177 => exact rfl); k_whole; intro g' L' h' tk' cells' FG' F' N' Y' B' X' T' l1; (try k_lt l1); refine hideG ?_; intro G0; k_cells Y'; (dsimp only [G0]); (try clear G0); (try simp only [List.cons_append, List.nil_append] at N'); (try dsimp only); (try fold_depth))
  k_with "k_enter" => (refine' code_def ?k1_178 ?k2_178 ?k3_178 ?k4_178 ?k5_178 ?kA_178 ?kF_178 ?kK_178 ?k6_178 ?k7_178 ?k8_178 ?k9_178 ?kB_178 ?_ ?c2_178 ?c3_178 ?c4_178 ?c5_178; (case kA_178 => exact rfl); (case kF_178 => exact rfl); (case kK_178 => assumption); (case k1_178 => k_asm); (case k2_178 => k_asm); (case k3_178 => k_asm); (case k4_178 => k_asm); (case k5_178 => k_asm); (case k6_178 => k_is); (case k7_178 => k_is); (case k8_178 => k_room); (case k9_178 => first | exact BindsTo.of_eq rfl | exact binds_K (by k_in) rfl (by k_is) rfl rfl rfl); (case c5_178 => decide); (case kB_178 => exact locs rfl); (case c2_178 => exact rfl); (case c3_178 => exact rfl); (case c4_178 => exact rfl); k_whole; intro g' L' h' FG' F' N' B' X' T'; (try dsimp only); (try fold_depth))
  trivial
noncomputable def listedCW : Int → List Num → List CW
  | _, [] => []
  | c, q :: qs => (c, q) :: listedCW (c + 1) qs
noncomputable def spanCW : Int → Nat → Num → List CW
  | _, 0, _ => []
  | a, n + 1, q => (a, q) :: spanCW (a + 1) n q
noncomputable def expandRow : Row → List CW
  | .listed c qs => listedCW c qs
  | .span a b q => spanCW a (b - a + 1).toNat q
noncomputable def expand (rows : List Row) : List CW := rows.flatMap expandRow
inductive SameCW : List CW → List CW → Prop where
  | nil : SameCW [] []
  | cons {c : Int} {q q' : Num} {r r' : List CW} : sameN q q' = true → SameCW r r' → SameCW ((c, q) :: r) ((c, q') :: r')
theorem SameCW.refl : ∀ r : List CW, SameCW r r
  | [] => .nil
  | (_, q) :: r => .cons (sameN_refl q) (SameCW.refl r)
theorem SameCW.app {a b a' b' : List CW} (h : SameCW a b) (h' : SameCW a' b') : SameCW (a ++ a') (b ++ b') := by
  induction h with
  | nil => exact h'
  | cons e _ ih => exact .cons e ih
noncomputable def NoFour (qs : List Num) : Prop := ∀ i a b c d, qs[i]? = some a → qs[i + 1]? = some b → qs[i + 2]? = some c → qs[i + 3]? = some d → sameN b a = true → sameN c b = true → sameN d c = true → False
noncomputable def RowOk : Row → Prop
  | .listed _ qs => NoFour qs
  | .span a b _ => a ≤ b
theorem sameN_iff {a b : Num} : sameN a b = true ↔ a.1 * 10 ^ b.2 = b.1 * 10 ^ a.2 := by simp [sameN]
theorem sameN_symm {a b : Num} (h : sameN a b = true) : sameN b a = true := by rw [sameN_iff] at *; exact h.symm
theorem sameN_trans {a b c : Num} (h : sameN a b = true) (h' : sameN b c = true) : sameN a c = true := by
  rw [sameN_iff] at *
  have hp : (10 : Int) ^ b.2 ≠ 0 := Int.pow_ne_zero (by decide)
  refine Int.eq_of_mul_eq_mul_right hp ?_
  calc a.1 * 10 ^ c.2 * 10 ^ b.2 = (a.1 * 10 ^ b.2) * 10 ^ c.2 := by rw [Int.mul_assoc, Int.mul_comm (10 ^ c.2), ← Int.mul_assoc]
    _ = (b.1 * 10 ^ a.2) * 10 ^ c.2 := by rw [h]
    _ = (b.1 * 10 ^ c.2) * 10 ^ a.2 := by rw [Int.mul_assoc, Int.mul_comm (10 ^ a.2), ← Int.mul_assoc]
    _ = (c.1 * 10 ^ b.2) * 10 ^ a.2 := by rw [h']
    _ = c.1 * 10 ^ a.2 * 10 ^ b.2 := by rw [Int.mul_assoc, Int.mul_comm (10 ^ b.2), ← Int.mul_assoc]
theorem sameN_ff {a b c : Num} (h : sameN a b = true) (h' : sameN c b = false) : sameN c a = false := by
  cases e : sameN c a with
  | false => rfl
  | true => rw [sameN_trans e h] at h'; cases h'
theorem noFour_app {xs g : List Num} (hx : NoFour xs) (hg : g.length ≤ 3) (hb : ∀ a b, xs.getLast? = some a → g.head? = some b → sameN b a = false) : NoFour (xs ++ g) := by
  intro i a b c d ha hb' hc hd s1 s2 s3
  have hlen : i + 3 < (xs ++ g).length := by
    rcases Nat.lt_or_ge (i + 3) (xs ++ g).length with h | h
    · exact h
    · rw [List.getElem?_eq_none h] at hd; cases hd
  rw [List.length_append] at hlen
  have L : ∀ j, j < xs.length → (xs ++ g)[j]? = xs[j]? := fun j hj => List.getElem?_append_left hj
  have R : ∀ j, xs.length ≤ j → (xs ++ g)[j]? = g[j - xs.length]? := fun j hj => List.getElem?_append_right hj
  have bound : ∀ j u v, j + 1 = xs.length → (xs ++ g)[j]? = some u → (xs ++ g)[j + 1]? = some v → sameN v u = false := by
    intro j u v hj hu hv
    rw [L j (by lgec_go)] at hu
    rw [R (j + 1) (by lgec_go), show j + 1 - xs.length = 0 by lgec_go] at hv
    refine hb u v ?_ ?_
    · rw [List.getLast?_eq_getElem?, show xs.length - 1 = j by lgec_go]; exact hu
    · rw [List.head?_eq_getElem?]; exact hv
  by_cases h1 : i + 3 < xs.length
  · rw [L _ (by lgec_go)] at ha hb' hc hd
    exact hx i a b c d ha hb' hc hd s1 s2 s3
  · by_cases h2 : i + 1 = xs.length
    · have := bound i a b h2 ha hb'; rw [s1] at this; cases this
    · by_cases h3 : i + 1 + 1 = xs.length
      · have := bound (i + 1) b c h3 hb' hc; rw [s2] at this; cases this
      · by_cases h4 : i + 2 + 1 = xs.length
        · have := bound (i + 2) c d h4 hc hd; rw [s3] at this; cases this
        · lgec_go
noncomputable def Consec (r : List CW) : Prop := ∃ c0 : Int, ∀ (i : Nat) (c : Int) (q : Num), r[i]? = some (c, q) → c = c0 + i
theorem listedCW_eq : ∀ (r : List CW) (c0 : Int), (∀ (i : Nat) (c : Int) (q : Num), r[i]? = some (c, q) → c = c0 + i) → listedCW c0 (r.map (·.2)) = r
  | [], _, _ => rfl
  | (c, q) :: r, c0, h => by
    have e : c = c0 := by have := h 0 c q rfl; simpa using this
    subst e
    show (c, q) :: listedCW (c + 1) (r.map (·.2)) = _
    rw [listedCW_eq r (c + 1) fun i c' q' hi => by have := h (i + 1) c' q' (by simpa using hi); rw [this]; lgec_go]
theorem expand_listedRows {r : List CW} (h : Consec r) : expand (listedRows r) = r := by
  obtain ⟨c0, h⟩ := h
  cases r with
  | nil => rfl
  | cons x r =>
    obtain ⟨c, q⟩ := x
    have e : c = c0 := by have := h 0 c q rfl; simpa using this
    subst e
    show listedCW c (((c, q) :: r).map (·.2)) ++ [] = _
    rw [List.append_nil, listedCW_eq _ c h]
theorem rowOk_listedRows {r : List CW} (h : NoFour (r.map (·.2))) : ∀ row ∈ listedRows r, RowOk row := by
  cases r with
  | nil => intro _ h; exact nomatch h
  | cons x r => intro row hr; rw [List.mem_singleton.mp hr]; exact h
theorem expand_app (a b : List Row) : expand (a ++ b) = expand a ++ expand b := List.flatMap_append
theorem span_same : ∀ (g : List CW) (c0 : Int) (q : Num), (∀ (i : Nat) (c : Int) (q' : Num), g[i]? = some (c, q') → c = c0 + i ∧ sameN q' q = true) → SameCW (spanCW c0 g.length q) g
  | [], _, _, _ => .nil
  | (c, q') :: g, c0, q, h => by
    obtain ⟨e, s⟩ := h 0 c q' rfl
    have e : c = c0 := by simpa using e
    subst e
    refine .cons (sameN_symm s) (span_same g (c + 1) q fun i c' q'' hi => ?_)
    obtain ⟨a, b⟩ := h (i + 1) c' q'' (by simpa using hi)
    exact ⟨by rw [a]; lgec_go, b⟩
structure RunInv (r : List CW) (place : Nat) (rows : List Row) (lst : List CW) : Prop where
  fit : place ≤ r.length
  ok : ∀ row ∈ rows, RowOk row
  noFour : NoFour (lst.map (·.2))
  len : lst.length ≤ place
  tail : lst = (r.drop (place - lst.length)).take lst.length
  told : SameCW (expand rows ++ lst) (r.take place)
  edge : ∀ a b, lst.getLast? = some a → r[place]? = some b → sameN b.2 a.2 = false
theorem RunInv.start (r : List CW) : RunInv r 0 [] [] :=
  ⟨Nat.zero_le _, (fun _ h => nomatch h), (fun i a b c d h => by cases h), Nat.le_refl _, rfl, .nil, (fun _ _ h => by cases h)⟩
theorem consec_sub {r : List CW} (h : Consec r) (k n : Nat) : Consec ((r.drop k).take n) := by
  obtain ⟨c0, h⟩ := h
  refine ⟨c0 + k, fun i c q hi => ?_⟩
  have : r[k + i]? = some (c, q) := by
    rw [List.getElem?_take] at hi
    split at hi
    · rw [List.getElem?_drop] at hi; exact hi
    · cases hi
  rw [h _ c q this]; lgec_go
theorem sub_get {r : List CW} {k n i : Nat} {x : CW} (h : ((r.drop k).take n)[i]? = some x) : r[k + i]? = some x ∧ i < n := by
  rw [List.getElem?_take] at h
  split at h
  · rename_i hi; rw [List.getElem?_drop] at h; exact ⟨h, hi⟩
  · cases h
theorem take_add_sub (r : List CW) (p k : Nat) : r.take (p + k) = r.take p ++ (r.drop p).take k := List.take_add
theorem RunInv.short {r : List CW} {place k : Nat} {rows : List Row} {lst : List CW} (h : RunInv r place rows lst) (A : AlikeAt r place k) (hk : k < 4) : RunInv r (place + k) rows (lst ++ (r.drop place).take k) := by
  have hgl : ((r.drop place).take k).length = k := by rw [List.length_take, List.length_drop]; have := A.fit; lgec_go
  have hfit := A.fit
  refine ⟨A.fit, h.ok, ?_, ?_, ?_, ?_, ?_⟩
  · rw [List.map_append]
    refine noFour_app h.noFour (by rw [List.length_map, hgl]; lgec_go) fun a b ha hb => ?_
    rw [List.getLast?_map] at ha
    rw [List.head?_map] at hb
    cases hla : lst.getLast? with
    | none => rw [hla] at ha; cases ha
    | some a' =>
      rw [hla] at ha; cases ha
      cases hgb : ((r.drop place).take k).head? with
      | none => rw [hgb] at hb; cases hb
      | some b' =>
        rw [hgb] at hb; cases hb
        rw [List.head?_eq_getElem?] at hgb
        have := (sub_get hgb).1
        exact h.edge a' b' hla (by simpa using this)
  · rw [List.length_append, hgl]; have := h.len; lgec_go
  · rw [List.length_append, hgl, show place + k - (lst.length + k) = place - lst.length by have := h.len; lgec_go, List.take_add, List.drop_drop, show place - lst.length + lst.length = place by have := h.len; lgec_go, ← h.tail]
  · rw [← List.append_assoc, take_add_sub]
    exact h.told.app (SameCW.refl _)
  · intro a b ha hb
    have ha' : r[place + (k - 1)]? = some a := by
      rw [List.getLast?_append] at ha
      have hne : ((r.drop place).take k).getLast? = some a := by
        cases hq : ((r.drop place).take k).getLast? with
        | none =>
          rw [List.getLast?_eq_none_iff] at hq
          rw [hq] at hgl
          have := A.pos
          simp at hgl; lgec_go
        | some z => rw [hq] at ha; simpa using ha
      rw [List.getLast?_eq_getElem?, hgl] at hne
      exact (sub_get hne).1
    have hf : ∃ z, r[place]? = some z := ⟨r[place]'(by have := A.pos; lgec_go), List.getElem?_eq_getElem _⟩
    obtain ⟨z, hz⟩ := hf
    exact sameN_ff (A.same (k - 1) (by have := A.pos; lgec_go) a z ha' hz) (A.top b z hb hz)
theorem RunInv.long {r : List CW} {place k : Nat} {rows : List Row} {lst : List CW} {c1 c2 c3 : Int} {q1 q2 q3 : Num} (h : RunInv r place rows lst) (C : Consec r) (A : AlikeAt r place k) (h0 : r[((place : Nat) : Int).toNat]? = some (c1, q3)) (h2 : r[((place : Int) + k - 1).toNat]? = some (c2, q2)) (h3 : r[((place : Nat) : Int).toNat]? = some (c3, q1)) :
    RunInv r (place + k) (rows ++ listedRows lst ++ [.span c1 c2 q1]) [] := by
  have hgl : ((r.drop place).take k).length = k := by rw [List.length_take, List.length_drop]; have := A.fit; lgec_go
  rw [Int.toNat_natCast] at h0 h3
  rw [show ((place : Int) + k - 1).toNat = place + k - 1 by lgec_go] at h2
  have h1 : r[place]? = some (c1, q1) := by rw [h0] at h3 ⊢; cases h3; rfl
  refine ⟨A.fit, ?_, (fun i a b c d h => by cases h), Nat.zero_le _, by simp, ?_, (fun _ _ h => by cases h)⟩
  · intro row hr
    rcases List.mem_append.mp hr with hr | hr
    · rcases List.mem_append.mp hr with hr | hr
      · exact h.ok row hr
      · exact rowOk_listedRows h.noFour row hr
    · rw [List.mem_singleton.mp hr]
      obtain ⟨c0, C⟩ := C
      have e1 := C _ _ _ h1
      have e2 := C _ _ _ h2
      have hp := A.pos
      show c1 ≤ c2
      lgec_go
  · rw [List.append_nil, expand_app, expand_app, expand_listedRows (h.tail ▸ consec_sub C _ _), take_add_sub]
    refine h.told.app ?_
    show SameCW (spanCW c1 (c2 - c1 + 1).toNat q1 ++ []) _
    rw [List.append_nil]
    obtain ⟨c0, C⟩ := C
    have e1 := C _ _ _ h1
    have e2 := C _ _ _ h2
    have hp := A.pos
    rw [show (c2 - c1 + 1).toNat = ((r.drop place).take k).length by rw [hgl, e1, e2]; lgec_go]
    refine span_same _ _ _ fun i c q' hi => ?_
    obtain ⟨h3, h4⟩ := sub_get hi
    exact ⟨by rw [C _ _ _ h3, e1]; lgec_go, A.same i h4 _ _ h3 h1⟩
theorem RunInv.done {r : List CW} {rows : List Row} {lst : List CW} (h : RunInv r r.length rows lst) (C : Consec r) : SameCW (expand (rows ++ listedRows lst)) r ∧ ∀ row ∈ rows ++ listedRows lst, RowOk row := by
  refine ⟨?_, fun row hr => ?_⟩
  · rw [expand_app, expand_listedRows (h.tail ▸ consec_sub C _ _)]
    have := h.told
    rwa [List.take_length] at this
  · rcases List.mem_append.mp hr with hr | hr
    · exact h.ok row hr
    · exact rowOk_listedRows h.noFour row hr
theorem news_rp {h₀ h : Heap} {L : Addr} {a b li pa : Addr × Obj} {n1 n2 news : Led} (N : News h₀ L h (a :: b :: li :: pa :: (n1 ++ (n2 ++ news)))) : News h₀ L h (a :: pa :: ((b :: li :: (n1 ++ n2)) ++ news)) := fun q hq => N q (by
  simp only [List.mem_cons, List.mem_append, List.cons_append] at hq ⊢
  grind)
theorem news_rs {h₀ h : Heap} {L : Addr} {b li pa : Addr × Obj} {n2 news : Led} (N : News h₀ L h (b :: li :: pa :: (n2 ++ news))) : News h₀ L h (li :: pa :: ((b :: n2) ++ news)) := fun q hq => N q (subL [li, pa, b] [n2, news] (.c 0 (.c 1 (.a (.c 2 (.s 0)) (.s 1)))) (.c 2 (.c 0 (.c 1 (.a (.s 0) (.s 1))))) rfl q hq)
theorem news_re {h₀ h : Heap} {L : Addr} {b li pa : Addr × Obj} {n1 n2 news : Led} (N : News h₀ L h (b :: li :: pa :: (n1 ++ (n2 ++ news)))) : News h₀ L h ((b :: li :: pa :: (n1 ++ n2)) ++ news) := fun q hq => N q (subL [b, li, pa] [n1, n2, news] (.a (.c 0 (.c 1 (.c 2 (.a (.s 0) (.s 1))))) (.s 2)) (.c 0 (.c 1 (.c 2 (.a (.s 0) (.a (.s 1) (.s 2)))))) rfl q hq)
theorem off_cons {x : Addr × Obj} {r : Led} {d : Addr} (h1 : @Ne Nat x.1 d) (h2 : ∀ y ∈ r, y.1 ≠ d) : ∀ y ∈ x :: r, y.1 ≠ d := List.forall_mem_cons.mpr ⟨h1, h2⟩
theorem off_right {a b : Led} {d : Addr} (h : ∀ y ∈ a ++ b, y.1 ≠ d) : ∀ y ∈ b, y.1 ≠ d := fun y hy => h y (List.mem_append_right _ hy)
theorem off_assoc {a b c : Led} {d : Addr} (h : ∀ y ∈ a ++ (b ++ c), y.1 ≠ d) : ∀ y ∈ (a ++ b) ++ c, y.1 ≠ d := by rw [List.append_assoc]; exact h
theorem sub_l {a b ro : Led} : ∀ y ∈ a, y ∈ (b ++ a) ++ ro := fun y hy => List.mem_append_left _ (List.mem_append_right _ hy)

end
section
theorem kw_Q3_0 : True := by
  k_with_none
  k_with "om" => first | decide | (with_reducible first | apply om1 <;> assumption | apply om2 <;> assumption | apply om7 <;> assumption | apply om8 <;> assumption | apply om16 <;> assumption | apply om17 <;> assumption | apply om72 <;> assumption | apply om73 <;> assumption | apply om74 <;> assumption | apply om75 <;> assumption | apply om76 <;> assumption | apply om183 <;> assumption | apply om184 <;> assumption | apply om185 <;> assumption | apply om186 <;> assumption | apply om187 <;> assumption | apply om188 <;> assumption | apply om189 <;> assumption | apply om190 <;> assumption | apply om191 <;> assumption | apply om192 <;> assumption | apply om193 <;> assumption | apply om194 <;> assumption | apply om195 <;> assumption | apply om196 <;> assumption | apply om197 <;> assumption | apply om198 <;> assumption | apply om199 <;> assumption | apply om200 <;> assumption | apply om201 <;> assumption)
  k_with "k_ne" => (refine neN ?_; (try dsimp only); first | with_reducible assumption | lgec_go)
  k_with "fold_depth" => first | ((with_reducible show wpAny _ (Around.deeper (ktrTop _ _ _ _ _ _ _ _ _ _) _) _ _ _ _); refine wp_fold4 ?_; intro A1 q0 e0) | (refine wp_fold2 ?_; intro q00 e00)
  k_with "fold_lay" => ((show wpAny _ _ _ _ _ _); first | (fail_if_success k_fold) | ((try clear qf); refine wp_fold ?_; intro qf))
  k_with "k_steps" => ((try dsimp only); (try fold_lay); repeat' (first | (k_unfold; (try dsimp only)) | (k_end; wrow_close) | (walk1; (try ((first | (with_reducible show wpAny _ _ (exec _ _) _ _ _) | (with_reducible show wpAny _ _ (execs _ _) _ _ _)); (try dsimp only); fold_lay))) | (dsimp only; walk1) | (leave1; walk_say "STEP leave1"; try dsimp only) | fail "no step"))
  k_with "k_room" => first | exact fastR (by assumption) | ktr_room | (simp only [A1]; ktr_room)
  k_with "k_units" => first | ktr_units | (simp only [A1]; ktr_units)
  k_with "k_enter" => (refine' code_defC ?k1_184 ?k2_184 ?k3_184 ?k4_184 ?k5_184 ?kA_184 ?kF_184 ?kK_184 ?k6_184 ?k7_184 ?k8_184 ?k9_184 ?kB_184 ?kD_184 ?_ ?c2_184 ?c3_184 ?c4_184; (case kA_184 => exact rfl); (case kF_184 => exact rfl); (case kK_184 => assumption); (case k1_184 => k_asm); (case k2_184 => k_asm); (case k3_184 => k_asm); (case k4_184 => k_asm); (case k5_184 => k_asm); (case k6_184 => k_is); (case k7_184 => k_is); (case k8_184 => k_room); (case k9_184 => first | exact BindsTo.of_eq rfl | exact binds_K (by k_in) rfl (by k_is) rfl rfl rfl); (case kB_184 => exact rfl); (case kD_184 => decide +kernel); (case c2_184 => exact rfl); (case c3_184 => exact rfl); (case c4_184 => exact rfl); k_whole; intro g' L' h' tk' cells' FG' F' N' Y' B' X' T' l1; (try k_lt l1); refine hideG ?_; intro G0; k_cells Y'; (dsimp only [G0]); (try clear G0); (try simp only [List.cons_append, List.nil_append] at N'); (try dsimp only); (try fold_depth))
  k_with "k_enter" => (refine' code_def ?k1_185 ?k2_185 ?k3_185 ?k4_185 ?k5_185 ?kA_185 ?kF_185 ?kK_185 ?k6_185 ?k7_185 ?k8_185 ?k9_185 ?kB_185 ?_ ?c2_185 ?c3_185 ?c4_185 ?c5_185; (case kA_185 => exact rfl); (case kF_185 => exact rfl); (case kK_185 => assumption); (case k1_185 => k_asm); (case k2_185 => k_asm); (case k3_185 => k_asm); (case k4_185 => k_asm); (case k5_185 => k_asm); (case k6_185 => k_is); (case k7_185 => k_is); (case k8_185 => k_room); (case k9_185 => first | exact BindsTo.of_eq rfl | exact binds_K (by k_in) rfl (by k_is) rfl rfl rfl); (case c5_185 => decide); (case kB_185 => exact locs rfl); (case c2_185 => exact rfl); (case c3_185 => exact rfl); (case c4_185 => exact rfl); k_whole; intro g' L' h' FG' F' N' B' X' T'; (try dsimp only); (try fold_depth))
  k_with "klt" => skip
  k_with "k_all" => first | exact List.forall_mem_nil _ | (with_reducible refine List.forall_mem_cons.mpr ⟨?_, ?_⟩; (focus k_ne); k_all) | with_reducible assumption | with_reducible exact allLt_off (by with_reducible assumption) | with_reducible exact lt_off (by with_reducible assumption) | with_reducible exact off1_off (by with_reducible assumption) | with_reducible exact off3_1 (by with_reducible assumption) | with_reducible exact off3_2 (by with_reducible assumption) | with_reducible exact off3_3 (by with_reducible assumption) | (with_reducible refine GrowK.off (by with_reducible assumption) ?_ ?_; (focus simp only [List.mem_cons, true_or, or_true]); k_all)
  k_with "tb_rel" => with_reducible first | assumption | exact sub_self | (refine sub_tail ?_; tb_rel) | (refine sub_growK (by assumption) ?_; tb_rel) | (refine sub_app ?_ ?_; (focus tb_rel); tb_rel) | (refine sub_consApp ?_; tb_rel) | (refine sub_appL ?_; tb_rel) | (refine sub_appR ?_; tb_rel)
  k_with "k_mem" => (refine sub_mem ?_ (by assumption); tb_rel)
  k_with "tb_start" => first | assumption | (refine NumIn.mono (by assumption) ?_; tb_rel)
  k_with "call ref" => ((with_reducible show wpAny _ _ (call (Value.ref 194) _) _ _ _); first | (k_dflt (refine' Calls.use ?k1_190 ?k2_190 ?k3_190 ?k4_190 ?k5_190 ?kK_190 ?C_190 ?kd_190 ?ku_190 ?_; (case k1_190 => k_asm); (case k2_190 => k_asm); (case k3_190 => k_asm); (case k4_190 => k_asm); (case k5_190 => k_asm); (case kK_190 => first | exact rfl | assumption); (case C_190 => exact same_spec _ _ _ _ _ _ (by tb_start) (by tb_start)); (case kd_190 => first | exact fastD (by assumption) (by decide) | lgec_go | (walk_say "SLOW ROOM"; ktr_room)); (case ku_190 => first | exact fastU (by assumption) (by decide) | lgec_go | (walk_say "SLOW UNITS"; ktr_units)); k_whole; intro r' n' h' tk' F' N' hr'; refine hideG ?_; intro G0; (obtain ⟨e1', e2'⟩ := hr'); subst e1'; replace e2' := Eq.symm e2'; subst e2'; (dsimp only [G0]); (try clear G0); (try k_sweep))) | refine Stop.mk ?_)
  k_with "subscriptTail" => ((with_reducible show wpAny _ _ (subscriptTail _ _ (Value.ref _) (Value.int _ _)) _ _ _); k_dflt (refine' run_item ?k1_191 ?k2_191 ?k3_191 ?k4_191 ?k5_191 ?k6_191 ?_; (case k1_191 => k_asm); (case k2_191 => k_mem); (case k3_191 => assumption); (case k4_191 => lgec_go); (case k5_191 => lgec_go); (case k6_191 => lgec_go)); (intro t' c' ct' v' k' q' hg' hm' hn'))
  k_with "exec While" => ((with_reducible show wpAny _ _ (exec (Stmt.While _ _ _ _) _) _ _ _); refine Stop.mk ?_)
  k_with "exec While Compare" => ((with_reducible show wpAny _ _ (exec (Stmt.While _ _ _ _) _) _ _ _); refine Stop.mk ?_)
  k_with "exec While BoolOp" => ((with_reducible show wpAny _ _ (exec (Stmt.While _ _ _ _) _) _ _ _); refine Stop.mk ?_)
  k_with "exec While Name" => ((with_reducible show wpAny _ _ (exec (Stmt.While _ _ _ _) _) _ _ _); refine Stop.mk ?_)
  k_with "exec While Compare cons nil" => ((with_reducible show wpAny _ _ (exec (Stmt.While _ _ _ _) _) _ _ _); refine Stop.mk ?_)
  k_with "call builtin:len" => ((with_reducible show wpAny _ _ (call (Value.builtin "len") [Value.ref _]) _ _ _); k_dflt (refine' lst_len ?k1_197 ?k2_197 ?k3_197 ?_; (case k1_197 => k_asm); (case k2_197 => k_mem); (case k3_197 => lgec_go); k_whole))
  k_with "truthy ref" => (k_dflt (refine' lst_truthy ?k1_198 ?k2_198 ?k3_198 ?_; (case k1_198 => k_asm); (case k2_198 => k_mem); (case k3_198 => lgec_go); k_whole))
  k_with "call builtin:list.append" => ((with_reducible show wpAny _ _ (call (Value.builtin _) [Value.ref _, _]) _ _ _); k_dflt (refine' lst_append ?k1_199 ?k2_199 ?k3_199 ?k4_199 ?_; (case k1_199 => k_asm); (case k2_199 => k_asm); (case k3_199 => k_upd); (case k4_199 => lgec_go); k_whole); intro h' F' N'; (try k_sweep))
  k_with "call builtin:list.extend" => ((with_reducible show wpAny _ _ (call (Value.builtin _) [Value.ref _, Value.ref _]) _ _ _); k_dflt (refine' lst_extend ?k1_200 ?k2_200 ?k3_200 ?k4_200 ?k5_200 ?_; (case k1_200 => k_asm); (case k2_200 => k_asm); (case k3_200 => k_updF); (case k4_200 => k_mem); (case k5_200 => first | (simp only [List.length_take, List.length_drop, List.length_append, List.length_cons, List.length_nil]; lgec_go) | lgec_go); k_whole); intro h' n' F' N'; (try dsimp only at N'); (try k_sweep))
  k_with "binaryOp Add" => ((with_reducible show wpAny _ _ (binaryOp Operator.Add (Value.ref _) (Value.ref _)) _ _ _); k_dflt (refine' lst_add ?k1_201 ?k2_201 ?k3_201 ?k4_201 ?k5_201 ?_; (case k1_201 => k_asm); (case k2_201 => k_asm); (case k3_201 => k_mem); (case k4_201 => k_mem); (case k5_201 => first | (simp only [List.length_cons, List.length_nil]; lgec_go) | lgec_go); k_whole); intro l' h' F' N' l1; (try k_lt l1); (try k_sweep))
  k_with "binaryOp Add ref ref" => ((with_reducible show wpAny _ _ (binaryOp Operator.Add (Value.ref _) (Value.ref _)) _ _ _); k_dflt (refine' lst_add ?k1_202 ?k2_202 ?k3_202 ?k4_202 ?k5_202 ?_; (case k1_202 => k_asm); (case k2_202 => k_asm); (case k3_202 => k_mem); (case k4_202 => k_mem); (case k5_202 => first | (simp only [List.length_cons, List.length_nil]; lgec_go) | lgec_go); k_whole); intro l' h' F' N' l1; (try k_lt l1); (try k_sweep))
  k_with "subscriptTail Name Slice ref ref" => ((with_reducible show wpAny _ _ (subscriptTail _ _ (Value.ref _) (Value.ref _)) _ _ _); k_dflt (refine' lst_slice ?k1_203 ?k2_203 ?k3_203 ?k4_203 ?k5_203 ?k6_203 ?_; (case k1_203 => k_asm); (case k2_203 => k_asm); (case k3_203 => k_mem); (case k4_203 => lgec_go); (case k5_203 => lgec_go); (case k6_203 => lgec_go); k_whole); intro l' h' F' N' l1; (try k_lt l1); (try k_sweep))
  k_with "SrcLP" => (first | k_dflt (refine LCp.SrcLP.ledger (by rfl) (by k_asm) (by k_asm) (by k_mem) ?sz_204 ?_; (case sz_204 => rw [List.size_toArray, sizeLine_eq]; lgec_go); intro g'; refine Stop.mk ?_) | refine Stop.mk ?_)
  k_with "CompSrc" => (first | k_dflt (first | (refine LCg.CompSrc.ledger (by rfl) (by k_asm) (by k_asm) (by k_mem) ?sz_205 ?_; (case sz_205 => rw [List.size_toArray, sizeLine_eq]; lgec_go); intro g'; refine Stop.mk ?_) | (refine LCg.CompSrc.range (by rfl) (by k_asm) (by k_asm) (by assumption) (range_small (by first | decide | lgec_go) (by first | decide | lgec_go) (by lgec_go) (by lgec_go)) (by first | exact range_n0 | exact range_n) ?sz_205 ?_; (case sz_205 => rw [sizeLine_eq]; lgec_go); intro g'; refine Stop.mk ?_)) | refine Stop.mk ?_)
  k_with "CompSrcT" => (first | k_dflt (first | (refine LCt.CompSrcT.ledger (by rfl) (by k_asm) (by k_asm) (by k_mem) ?sz_206 ?_; (case sz_206 => rw [List.size_toArray, sizeLine_eq]; lgec_go); intro g'; refine Stop.mk ?_) | (refine LCt.CompSrcT.range (by rfl) (by k_asm) (by k_asm) (by assumption) (range_small (by first | decide | lgec_go) (by first | decide | lgec_go) (by lgec_go) (by lgec_go)) (by first | exact range_n0 | exact range_n) ?sz_206 ?_; (case sz_206 => rw [sizeLine_eq]; lgec_go); intro g'; refine Stop.mk ?_)) | refine Stop.mk ?_)
  k_with "call ref" => ((with_reducible show wpAny _ _ (call (Value.ref 369) _) _ _ _); first | (k_dflt (refine' Calls.use ?k1_207 ?k2_207 ?k3_207 ?k4_207 ?k5_207 ?kK_207 ?C_207 ?kd_207 ?ku_207 ?_; (case k1_207 => k_asm); (case k2_207 => k_asm); (case k3_207 => k_asm); (case k4_207 => k_asm); (case k5_207 => k_asm); (case kK_207 => first | exact rfl | assumption); (case C_207 => exact alike_spec _ _ _ _ _ _ _ _ _ (by k_mem) (by assumption) (by tb_rel) (by lgec_go) (by lgec_go) (by lgec_go)); (case kd_207 => first | exact fastD (by assumption) (by decide) | lgec_go | (walk_say "SLOW ROOM"; ktr_room)); (case ku_207 => first | exact fastU (by assumption) (by decide) | lgec_go | (walk_say "SLOW UNITS"; ktr_units)); k_whole; intro r' n' h' tk' F' N' hr'; refine hideG ?_; intro G0; (obtain ⟨⟨cnt', t', e', hAl'⟩, e2'⟩ := hr'); subst e'; replace e2' := Eq.symm e2'; subst e2'; (try simp only [Int.toNat_natCast] at hAl'); (have hAf' := AlikeAt.fit hAl'); (have hAp' := AlikeAt.pos hAl'); (dsimp only [G0]); (try clear G0); (try k_sweep))) | refine Stop.mk ?_)
  k_with "call ref" => ((with_reducible show wpAny _ _ (call (Value.ref 374) _) _ _ _); first | (k_dflt (refine' Calls.use ?k1_208 ?k2_208 ?k3_208 ?k4_208 ?k5_208 ?kK_208 ?C_208 ?kd_208 ?ku_208 ?_; (case k1_208 => k_asm); (case k2_208 => k_asm); (case k3_208 => k_asm); (case k4_208 => k_asm); (case k5_208 => k_asm); (case kK_208 => first | exact rfl | assumption); (case C_208 => exact listed_spec _ _ _ _ _ _ _ (by k_mem) (by assumption) (by tb_rel) (by lgec_go)); (case kd_208 => first | exact fastD (by assumption) (by decide) | lgec_go | (walk_say "SLOW ROOM"; ktr_room)); (case ku_208 => first | exact fastU (by assumption) (by decide) | lgec_go | (walk_say "SLOW UNITS"; ktr_units)); k_whole; intro r' n' h' tk' F' N' hr'; refine hideG ?_; intro G0; (obtain ⟨d', ws', n2', new', e', e2', hA', hd', hR', hwl'⟩ := hr'); subst e'; subst e2'; (first | (obtain ⟨rest', htl', N9', hG', hsn'⟩ := gro6 N' hA') | (obtain ⟨rest', htl', N9', hG', hsn'⟩ := gro5 N' hA') | (obtain ⟨rest', htl', N9', hG', hsn'⟩ := gro4 N' hA') | (obtain ⟨rest', htl', N9', hG', hsn'⟩ := gro3 N' hA') | (obtain ⟨rest', htl', N9', hG', hsn'⟩ := gro2 N' hA') | (obtain ⟨rest', htl', N9', hG', hsn'⟩ := gro1 N' hA') | (obtain ⟨rest', htl', N9', hG', hsn'⟩ := gro0 N' hA')); clear N'; (try dsimp only at hG'); (dsimp only [G0]); (try clear G0); (try k_sweep))) | refine Stop.mk ?_)
  trivial
inductive RunJ (w : World) (news ro : Led) (l pa : Addr) (r : List CW) (m : Str → Option Value) : Nat → Led → Prop
  | mk (place : Nat) (tp : Tok) (pvs : List Value) (pn : Nat) (li : Addr) (lvs : List Value) (ln : Nat) (rows : List Row) (lst : List CW) (tnew : Led) : Has m [(Str.ofString "run", .ref l), (Str.ofString "parts", .ref pa), (Str.ofString "listed", .ref li), (Str.ofString "place", .int place tp)] →
    Apart news tnew → @Ne Nat li pa → (∀ y ∈ tnew ++ news, y.1 ≠ li) → (∀ y ∈ tnew ++ news, y.1 ≠ pa) → (∀ y ∈ news, y.1 ≠ li) → RowsIn w (tnew ++ ro) pvs rows → RunIn w ro lvs lst → RunInv r place rows lst → pvs.length ≤ 5 * place →
    RunJ w news ro l pa r m (r.length - place) ((li, PySem.W.listOf lvs.toArray ln) :: (pa, PySem.W.listOf pvs.toArray pn) :: (tnew ++ news))
inductive RunR (w : World) (news ro : Led) (r : List CW) : Value → Led → Prop
  | mk (d : Addr) (ws : List Value) (k : Nat) (new : Led) (rows : List Row) : Apart news new → (d, PySem.W.listOf ws.toArray k) ∈ new → RowsIn w (new ++ ro) ws rows → SameCW (expand rows) r → (∀ row ∈ rows, RowOk row) → ws.length ≤ 5 * r.length + 2 → RunR w news ro r (.ref d) (new ++ news)
theorem runparts_spec (w : World) (news ro : Led) (l : Addr) (vs : List Value) (n : Nat) (r : List CW) (hm : (l, PySem.W.listOf vs.toArray n) ∈ news) (R : RunIn w ro vs r) (hro : ∀ y ∈ ro, y ∈ news) (hz : r.length ≤ 100) (C : Consec r) :
    Calls w 381 10 [.ref l] news (RunR w news ro r) := by
  intro mean mg mb dp un gd cn cs a ccd cl outer A₀ base h₀ L m s Q E B F X N T hk hd hu hret
  have hvl := R.length
  k_steps
  refine Stop.on ?_
  rename Fr _ _ _ _ => F1
  rename News _ _ _ (_ :: _ :: news) => N1
  rename_i pa _ l1a _ _ li0 _ hli0 l1b _ _ _
  refine While_inv2 (n₀ := r.length) (fun n' m news' => RunJ w news ro l pa r m n' news') F1 N1 ?h0 ?turn (by passes_own)
  case h0 =>
    exact .mk 0 _ [] _ _ [] _ [] [] [] ⟨rfl, rfl, rfl, rfl, trivial⟩ Apart.nil (by k_ne) (by k_all) (by k_all) (by k_all) .nil .nil (RunInv.start r) (Nat.le_refl _)
  case turn =>
    rintro n' m₁ news₁ h₁ tk₁ F2 N2 hX9
    revert N2
    obtain ⟨place, tp, pvs, pn, li, lvs, ln, rows, lst, tnew, hma, hAp, hne, offl, offp, offln, hRows, hRun, hInv, hpl⟩ := hX9
    intro N2
    replace F2 := pinned F2 hma
    simp only [pin] at F2
    have hll := hRun.length
    have hfit := hInv.fit
    have hlen := hInv.len
    have hro' : ∀ y ∈ ro, y ∈ tnew ++ news := fun y hy => List.mem_append_right _ (hro y hy)
    have hm' : (l, PySem.W.listOf vs.toArray n) ∈ tnew ++ news := List.mem_append_right _ hm
    generalize htl : tnew ++ news = tail at *
    k_steps
    · rename News _ _ _ (_ :: _ :: _ :: _ :: rest') => N5
      have offp5 : ∀ y ∈ rest', y.1 ≠ pa := by k_all
      rename AllLt _ rest' => hl5
      have offl5 := allLt_off hl5
      rw [htl', ← htl] at N5 offp5 offl5
      refine wstep (n' := r.length - (place + cnt')) (by k_asm) (news_rp N5) (by lgec_go) (.mk (place + cnt') _ _ _ _ [] _ (rows ++ listedRows lst ++ [.span _ _ _]) [] _ ⟨rfl, rfl, rfl, read_int_eq rfl (by lgec_go), trivial⟩
        (Apart.cons ?_ (Apart.cons offln (Apart.app (hA'.sub (fun q hq => .tail _ (.tail _ (htl ▸ List.mem_append_right _ hq))) fun y hy => hy) hAp))) (by k_ne) (off_cons (by k_ne) (off_cons (by k_ne) (off_assoc offl5))) (off_cons (by k_ne) (off_cons (by k_ne) (off_assoc offp5))) (off_right (off_right offl5))
        (((hRows.mono ?_).app (hR'.mono ?_)).app (.span (hn'.mono ?_) .nil)) .nil (hInv.long C hAl' (by assumption) (by assumption) (by assumption)) ?_)
      · exact fun q hq => allLt_off (by assumption) q (by rw [htl', ← htl]; exact List.mem_append_right _ (List.mem_append_right _ hq))
      · tb_rel
      · tb_rel
      · tb_rel
      · simp only [List.length_append, List.length_cons, List.length_nil]; lgec_go
    · rename News _ _ _ (_ :: _ :: _ :: tail) => N5
      rename AllLt _ tail => hl5
      have offl5 := allLt_off hl5
      rw [← htl] at N5 offl5 offl offp
      refine wstep (n' := r.length - (place + cnt')) (by k_asm) (news_rs N5) (by lgec_go) (.mk (place + cnt') _ _ _ _ _ _ rows (lst ++ (r.drop place).take cnt') _ ⟨rfl, rfl, rfl, read_int_eq rfl (by lgec_go), trivial⟩
        (Apart.cons (off_right offl5) hAp) hne (off_cons (by k_ne) offl) (off_cons (by k_ne) offp) offln (hRows.mono ?_) (hRun.app ?_) (hInv.short hAl' (by lgec_go)) (by lgec_go))
      · tb_rel
      · have := (R.drop place).take cnt'
        rw [show ((place : Int) + cnt').toNat - ((place : Nat) : Int).toNat = cnt' by lgec_go, Int.toNat_natCast]
        exact this
    · obtain rfl : place = r.length := by lgec_go
      rename News _ _ _ (_ :: _ :: _ :: rest') => N5
      have offl5 := allLt_off l1
      rw [htl', ← htl] at N5 offl5
      have hdn := hInv.done C
      exact hret _ _ _ _ (by k_asm) (news_re N5) (.mk _ (pvs ++ ws') _ (_ :: _ :: _) (rows ++ listedRows lst) (Apart.cons (off_right (off_right offl5)) (Apart.cons offln (Apart.cons (lt_off l1a) (Apart.app (hA'.sub (fun q hq => .tail _ (.tail _ (htl ▸ List.mem_append_right _ hq))) fun y hy => hy) hAp)))) (.head _)
        ((hRows.mono (by tb_rel)).app (hR'.mono (by tb_rel))) hdn.1 hdn.2 (by rw [List.length_append]; lgec_go))

end
section
theorem kw_DS_0 : True := by
  k_with_none
  k_with "om" => first | decide | (with_reducible first | apply om202 <;> assumption)
  k_with "k_ne" => (refine neN ?_; (try dsimp only); first | with_reducible assumption | lgec_go)
  k_with "fold_depth" => first | ((with_reducible show wpAny _ (Around.deeper (ktrTop _ _ _ _ _ _ _ _ _ _) _) _ _ _ _); refine wp_fold4 ?_; intro A1 q0 e0) | (refine wp_fold2 ?_; intro q00 e00)
  k_with "fold_lay" => ((show wpAny _ _ _ _ _ _); first | (fail_if_success k_fold) | ((try clear qf); refine wp_fold ?_; intro qf))
  k_with "k_steps" => ((try dsimp only); (try fold_lay); repeat' (first | (k_unfold; (try dsimp only)) | (k_end; wrow_close) | (walk1; (try ((first | (with_reducible show wpAny _ _ (exec _ _) _ _ _) | (with_reducible show wpAny _ _ (execs _ _) _ _ _)); (try dsimp only); fold_lay))) | (dsimp only; walk1) | (leave1; walk_say "STEP leave1"; try dsimp only) | fail "no step"))
  k_with "k_room" => first | exact fastR (by assumption) | ktr_room | (simp only [A1]; ktr_room)
  k_with "k_units" => first | ktr_units | (simp only [A1]; ktr_units)
  k_with "k_enter" => (refine' code_defC ?k1_214 ?k2_214 ?k3_214 ?k4_214 ?k5_214 ?kA_214 ?kF_214 ?kK_214 ?k6_214 ?k7_214 ?k8_214 ?k9_214 ?kB_214 ?kD_214 ?_ ?c2_214 ?c3_214 ?c4_214; (case kA_214 => exact rfl); (case kF_214 => exact rfl); (case kK_214 => assumption); (case k1_214 => k_asm); (case k2_214 => k_asm); (case k3_214 => k_asm); (case k4_214 => k_asm); (case k5_214 => k_asm); (case k6_214 => k_is); (case k7_214 => k_is); (case k8_214 => k_room); (case k9_214 => first | exact BindsTo.of_eq rfl | exact binds_K (by k_in) rfl (by k_is) rfl rfl rfl); (case kB_214 => exact rfl); (case kD_214 => decide +kernel); (case c2_214 => exact rfl); (case c3_214 => exact rfl); (case c4_214 => exact rfl); k_whole; intro g' L' h' tk' cells' FG' F' N' Y' B' X' T' l1; (try k_lt l1); refine hideG ?_; intro G0; k_cells Y'; (dsimp only [G0]); (try clear G0); (try simp only [List.cons_append, List.nil_append] at N'); (try dsimp only); (try fold_depth))
  k_with "k_enter" => (refine' code_def ?k1_215 ?k2_215 ?k3_215 ?k4_215 ?k5_215 ?kA_215 ?kF_215 ?kK_215 ?k6_215 ?k7_215 ?k8_215 ?k9_215 ?kB_215 ?_ ?c2_215 ?c3_215 ?c4_215 ?c5_215; (case kA_215 => exact rfl); (case kF_215 => exact rfl); (case kK_215 => assumption); (case k1_215 => k_asm); (case k2_215 => k_asm); (case k3_215 => k_asm); (case k4_215 => k_asm); (case k5_215 => k_asm); (case k6_215 => k_is); (case k7_215 => k_is); (case k8_215 => k_room); (case k9_215 => first | exact BindsTo.of_eq rfl | exact binds_K (by k_in) rfl (by k_is) rfl rfl rfl); (case c5_215 => decide); (case kB_215 => exact locs rfl); (case c2_215 => exact rfl); (case c3_215 => exact rfl); (case c4_215 => exact rfl); k_whole; intro g' L' h' FG' F' N' B' X' T'; (try dsimp only); (try fold_depth))
  trivial
section
variable {prog : Program} {w : World} {A : Around} {E : Value → Shared → Prop} {s : Shared} {h₀ : Heap} {L d : Addr} {m : Str → Option Value} {news : Led} {o : Obj} {kvs : List (Int × Value)}
theorem intsAre_all : ∀ {vs : List Value} {ns : List Int}, vs.length = ns.length → (∀ (j : Nat) (v : Value), vs[j]? = some v → ∃ (k : Int) (t : Tok), ns[j]? = some k ∧ v = Value.int k t) → IntsAre vs ns
  | [], [], _, _ => .nil
  | [], _ :: _, h, _ => by simp at h
  | _ :: _, [], h, _ => by simp at h
  | v :: vs, n :: ns, h, hv => by
    (refine hideG ?_; intro G0)
    obtain ⟨k, t, h1, rfl⟩ := hv 0 v rfl
    (dsimp only [G0]); clear G0
    have e : n = k := by simpa using h1
    subst e
    exact .cons n t (intsAre_all (by simpa using h) fun j u hu => by
      (refine hideG ?_; intro G0)
      obtain ⟨k, t, h1, h2⟩ := hv (j + 1) u (by simpa using hu)
      (dsimp only [G0]); clear G0
      exact ⟨k, t, by simpa using h1, h2⟩)
theorem sorted_is {ns' ns : List Int} (hp : ns'.Perm ns) (h1 : ns'.Pairwise (· ≤ ·)) (h2 : ns.Pairwise (· < ·)) : ns' = ns :=
  List.Perm.eq_of_pairwise (fun _ _ _ _ a b => Int.le_antisymm a b) h1 (h2.imp fun h => Int.le_of_lt h) hp
theorem dict_sorted {Q : Value → Shared → Prop} (hh : A.handled = none) (F : Fr h₀ L s.heap m) (N : News h₀ L s.heap news) (hm : (d, o) ∈ news) (hd : o.IsDictOf (PySem.intKind prog w) kvs) (lo : (d == sysModules) = false) (hr : Rising kvs) (hz : kvs.length < 64)
    (h : ∀ D h' tk vs n', Fr h₀ L h' m → News h₀ L h' ((D, PySem.W.listOf vs.toArray n') :: news) → (∀ p ∈ news, p.1 < D) → IntsAre vs (kvs.map (·.1)) → Q (.ref D) { s with heap := h', toks := tk }) :
    wpAny (model prog w) A (call (.builtin "sorted") [.ref d]) Q E s := by
  obtain ⟨ep, hat⟩ := (kda_dict N hm hd).dictAt
  refine kdu_sorted (kdl_dict (knd := PySem.intKind prog w) (kvs := kvs) (ep := ep) lo) hh F N hat (by rw [sizeLine_eq]; lgec_go) fun D h' tk vs F' N' l1 hl hv => ?_
  have hI : IntsAre vs (kvs.map (·.1)) := intsAre_all (by rw [hl, List.length_map]) fun j v e => by
    (refine hideG ?_; intro G0)
    obtain ⟨k, x, hx, hk⟩ := hv j v e
    (dsimp only [G0]); clear G0
    have : ∃ t : Tok, v = Value.int k t := by
      cases v with
      | int a t => simp [PySem.intKind, Value.isInt] at hk; exact ⟨t, by rw [hk]⟩
      | _ => simp [PySem.intKind, Value.isInt] at hk
    obtain ⟨t, e⟩ := this
    exact ⟨k, t, by rw [List.getElem?_map, hx]; rfl, e⟩
  have z := N' (D, PySem.W.listOf vs.toArray 0) (.head _)
  refine wpAny_call_entry PyProof.Rows.slot_list_sort ⟨_, z.1, rfl⟩ PyProof.Rows.entry_list_sort (list_sort_tree (n := 0) (vs := vs) z.1 hI (by rw [hl]; exact hz) fun out ns' hI' hp hP => ⟨.none, rfl, ?_⟩) (PyProof.Rows.args_list_sort _)
  have e := sorted_is hp hP hr
  subst e
  obtain ⟨e', he'⟩ := sortedHeap_at (vs := vs) (out := out) z.1
  have old : ∀ b ob, b ≠ D → h'.get? b = some ob → (sortedHeap h' D vs out).get? b = some ob := fun b ob hb e => by rw [sortedHeap_old hb (Heap.lt_size e)]; exact e
  have hL : L ≠ D := Ne.symm z.2.1
  refine h D (sortedHeap h' D vs out) tk out.toList e' ⟨F'.ns.at' fun o e => old _ o hL e, fun b ob e => old b ob (fun q => by rw [q, z.2.2] at e; cases e) (F'.keep b ob e), F'.above⟩ (fun p hp => ?_) l1 hI'
  rcases List.mem_cons.mp hp with rfl | hp
  · exact ⟨by rw [he'], z.2⟩
  · exact ⟨old _ _ (Nat.ne_of_lt (l1 p hp)) (N' p (.tail _ hp)).1, (N' p (.tail _ hp)).2⟩
end
section
variable {prog : Program} {w : World} {A : Around} {E : Value → Shared → Prop} {s : Shared} {env : Env} {h₀ : Heap} {x : Str} {body : List Stmt} {Q : Flow → Shared → Prop}
theorem loop_list {l : Addr} {vs : List Value} {n : Nat} {m₀ : Str → Option Value} {news : Led} (J : Nat → (Str → Option Value) → Led → Prop)
    (hh : A.handled = none) (F : Fr h₀ env.locals s.heap m₀) (N : News h₀ env.locals s.heap news) (hm : (l, PySem.W.listOf vs.toArray n) ∈ news) (h0 : J 0 m₀ news) (hJl : ∀ i m news, J i m news → (l, PySem.W.listOf vs.toArray n) ∈ news)
    (turn : ∀ i v m₁ news₁ I oI h tk, vs[i]? = some v → J i m₁ news₁ → (∀ q ∈ news₁, q.1 ≠ I) → (∀ q ∈ news, q.1 < I) → Fr h₀ env.locals h (fun y => if y = x then some v else m₁ y) → News h₀ env.locals h ((I, oI) :: news₁) →
      wpAny (model prog w) A (execs body env) (TurnJ h₀ env.locals I oI (J (i + 1)) { s with heap := h, toks := tk } Q) E { s with heap := h, toks := tk })
    (done : ∀ m₁ news₁ h tk, J vs.length m₁ news₁ → Fr h₀ env.locals h m₁ → News h₀ env.locals h news₁ → Q .next { s with heap := h, toks := tk }) :
    wpAny (model prog w) A (pyIter (.ref l)) (fun it s₂ => LoopAtV prog w A h₀ env x body Q E it s₂) E s := by
  have hl : s.heap.IsList l vs.toArray := ⟨_, (N _ hm).1, rfl, _, rfl⟩
  have hlt : l < s.heap.objs.size := Heap.lt_size (N _ hm).1
  refine wpAny_pyIter_list hl ?_
  have up : ∀ b o, s.heap.get? b = some o → (s.heap.push { cls := .type "list_iterator", data := .fields #[.ref l, .int 0 0] }).get? b = some o := fun b o e => Heap.get?_push_of_some _ e
  have hI₀ : h₀.get? s.heap.objs.size = none := next_is_new F
  have hl₀ : h₀.get? l = none := (N _ hm).2.2
  generalize hIs : s.heap.objs.size = I at *
  have hLI : env.locals ≠ I := fun e => absurd F.ns.lt (by rw [hIs]; exact e ▸ Nat.lt_irrefl _)
  have hNlt : ∀ q ∈ news, q.1 < I := fun q hq => hIs ▸ Heap.lt_size (N q hq).1
  have hli : l ≠ I := Nat.ne_of_lt hlt
  refine ⟨I, [I, l], [I], vs.toArray.size, _, _, m₀, news, J, rfl, Walks.list hh I l hli vs.toArray, ?_, ?_, ?_, ⟨⟨_, hIs ▸ Heap.get?_push_size _ rfl, rfl, rfl⟩, hl.push _⟩, F.keeps up, N.grown up, h0, ?_, ?_⟩
  · intro hmm
    rcases List.mem_cons.mp hmm with e | hmm
    · exact hLI e
    · exact (N _ hm).2.1 (List.mem_singleton.mp hmm).symm
  · intro b hb
    rw [List.mem_singleton.mp hb]
    exact hI₀
  · intro p hp hI
    exact Nat.ne_of_lt (hNlt p hp) (List.mem_singleton.mp hI)
  · rintro i v m₁ news₁ s₁ own ⟨hh', tk', rfl⟩ hi hP hJ hoff hsub hget hall hst F₁ N₁
    have hP' : vs[i]? = some v := by simpa using hP
    obtain ⟨oI, hst', _⟩ := hst.1
    have hown := hall I (.head _) hI₀ _ hst'
    have hoff' : ∀ q ∈ news₁, q.1 ≠ I := fun q hq e => hoff q hq (List.mem_singleton.mpr e)
    refine wpAny_mono (turn i v m₁ news₁ I oI hh' tk' hP' hJ hoff' hNlt F₁ (fun p hp => ?_)) (fun f s₂ p => ?_) fun _ _ e => e
    · rcases List.mem_cons.mp hp with rfl | hp
      · exact N₁ _ (List.mem_append_left _ hown)
      · exact N₁ _ (List.mem_append_right _ hp)
    have hlo : hh'.get? l = some (PySem.W.listOf vs.toArray n) := (N₁ _ (List.mem_append_right _ (hJl _ _ _ hJ))).1
    have fin : (∃ h' tk m' news', s₂ = { s with heap := h', toks := tk } ∧ Fr h₀ env.locals h' m' ∧ News h₀ env.locals h' ((I, oI) :: news') ∧ (∀ q ∈ news', q.1 ≠ I) ∧ J (i + 1) m' news') →
        LoopStepU h₀ env.locals [I] own (J (i + 1)) { s with heap := hh', toks := tk' } .next s₂ := by
      rintro ⟨h', tk, m', news', e, F', N', ho, hm'⟩
      refine ⟨rfl, h', tk, m', news', e, F', fun p hp => ?_, fun p hp hI => ho p hp (List.mem_singleton.mp hI), hm'⟩
      rcases List.mem_append.mp hp with hp | hp
      · have h2 := hget p hp
        rcases List.mem_cons.mp (hsub p hp) with h1 | h1
        · rw [h1] at h2
          have h3 : hh'.get? I = some p.2 := h2
          rw [hst'] at h3
          have : p = (I, oI) := Prod.ext h1 (Option.some.inj h3).symm
          rw [this]
          exact N' _ (.head _)
        · have h1 := List.mem_singleton.mp h1
          rw [h1] at h2
          have h3 : hh'.get? l = some p.2 := h2
          rw [hlo] at h3
          have : p = (l, PySem.W.listOf vs.toArray n) := Prod.ext h1 (Option.some.inj h3).symm
          rw [this]
          exact N' _ (.tail _ (hJl _ _ _ hm'))
      · exact N' _ (.tail _ hp)
    cases f with
    | ret v => exact .ret p
    | brk => exact .brk p
    | next => exact .next (fin p)
    | cont => exact .cont (fin p)
  · rintro h' tk m' news' F' N' _ hJ
    rw [List.size_toArray] at hJ
    exact done m' news' h' tk hJ F' N'
end

end
section
theorem kw_PL2_0 : True := by
  k_with_none
  k_with "om" => first | decide | (with_reducible first | apply om203 <;> assumption | apply om204 <;> assumption)
  k_with "k_ne" => (refine neN ?_; (try dsimp only); first | with_reducible assumption | lgec_go)
  k_with "fold_depth" => first | ((with_reducible show wpAny _ (Around.deeper (ktrTop _ _ _ _ _ _ _ _ _ _) _) _ _ _ _); refine wp_fold4 ?_; intro A1 q0 e0) | (refine wp_fold2 ?_; intro q00 e00)
  k_with "fold_lay" => ((show wpAny _ _ _ _ _ _); first | (fail_if_success k_fold) | ((try clear qf); refine wp_fold ?_; intro qf))
  k_with "k_steps" => ((try dsimp only); (try fold_lay); repeat' (first | (k_unfold; (try dsimp only)) | (k_end; wrow_close) | (walk1; (try ((first | (with_reducible show wpAny _ _ (exec _ _) _ _ _) | (with_reducible show wpAny _ _ (execs _ _) _ _ _)); (try dsimp only); fold_lay))) | (dsimp only; walk1) | (leave1; walk_say "STEP leave1"; try dsimp only) | fail "no step"))
  k_with "k_room" => first | exact fastR (by assumption) | ktr_room | (simp only [A1]; ktr_room)
  k_with "k_units" => first | ktr_units | (simp only [A1]; ktr_units)
  k_with "k_enter" => (refine' code_defC ?k1_221 ?k2_221 ?k3_221 ?k4_221 ?k5_221 ?kA_221 ?kF_221 ?kK_221 ?k6_221 ?k7_221 ?k8_221 ?k9_221 ?kB_221 ?kD_221 ?_ ?c2_221 ?c3_221 ?c4_221; (case kA_221 => exact rfl); (case kF_221 => exact rfl); (case kK_221 => assumption); (case k1_221 => k_asm); (case k2_221 => k_asm); (case k3_221 => k_asm); (case k4_221 => k_asm); (case k5_221 => k_asm); (case k6_221 => k_is); (case k7_221 => k_is); (case k8_221 => k_room); (case k9_221 => first | exact BindsTo.of_eq rfl | exact binds_K (by k_in) rfl (by k_is) rfl rfl rfl); (case kB_221 => exact rfl); (case kD_221 => decide +kernel); (case c2_221 => exact rfl); (case c3_221 => exact rfl); (case c4_221 => exact rfl); k_whole; intro g' L' h' tk' cells' FG' F' N' Y' B' X' T' l1; (try k_lt l1); refine hideG ?_; intro G0; k_cells Y'; (dsimp only [G0]); (try clear G0); (try simp only [List.cons_append, List.nil_append] at N'); (try dsimp only); (try fold_depth))
  k_with "k_enter" => (refine' code_def ?k1_222 ?k2_222 ?k3_222 ?k4_222 ?k5_222 ?kA_222 ?kF_222 ?kK_222 ?k6_222 ?k7_222 ?k8_222 ?k9_222 ?kB_222 ?_ ?c2_222 ?c3_222 ?c4_222 ?c5_222; (case kA_222 => exact rfl); (case kF_222 => exact rfl); (case kK_222 => assumption); (case k1_222 => k_asm); (case k2_222 => k_asm); (case k3_222 => k_asm); (case k4_222 => k_asm); (case k5_222 => k_asm); (case k6_222 => k_is); (case k7_222 => k_is); (case k8_222 => k_room); (case k9_222 => first | exact BindsTo.of_eq rfl | exact binds_K (by k_in) rfl (by k_is) rfl rfl rfl); (case c5_222 => decide); (case kB_222 => exact locs rfl); (case c2_222 => exact rfl); (case c3_222 => exact rfl); (case c4_222 => exact rfl); k_whole; intro g' L' h' FG' F' N' B' X' T'; (try dsimp only); (try fold_depth))
  trivial
inductive KvIn (w : World) (ro : Led) : List (Int × Value) → List CW → Prop where
  | nil : KvIn w ro [] []
  | cons {c : Int} {v : Value} {q : Num} {kvs : List (Int × Value)} {kn : List CW} : NumIn w ro v q → KvIn w ro kvs kn → KvIn w ro ((c, v) :: kvs) ((c, q) :: kn)
theorem KvIn.mono {w : World} {news news' : Led} {vs : List (Int × Value)} {r : List CW} (h : KvIn w news vs r) (hs : ∀ p ∈ news, p ∈ news') : KvIn w news' vs r := by
  induction h with
  | nil => exact .nil
  | cons b _ ih => exact .cons (b.mono hs) ih
theorem KvIn.length {w : World} {news : Led} {vs : List (Int × Value)} {r : List CW} (h : KvIn w news vs r) : vs.length = r.length := by
  induction h with
  | nil => rfl
  | cons b _ ih => simp [ih]
theorem KvIn.keys {w : World} {news : Led} {vs : List (Int × Value)} {r : List CW} (h : KvIn w news vs r) : vs.map (·.1) = r.map (·.1) := by
  induction h with
  | nil => rfl
  | cons b _ ih => simp [ih]
theorem KvIn.at {w : World} {news : Led} {vs : List (Int × Value)} {r : List CW} (h : KvIn w news vs r) : ∀ i, i < r.length → ∃ c v q, vs[i]? = some (c, v) ∧ r[i]? = some (c, q) ∧ NumIn w news v q := by
  induction h with
  | nil => intro i hi; exact absurd hi (Nat.not_lt_zero _)
  | cons b _ ih =>
    intro i hi
    cases i with
    | zero => exact ⟨_, _, _, rfl, rfl, b⟩
    | succ i =>
      obtain ⟨c, v, q, h1, h2, h4⟩ := ih i (by simpa using hi)
      exact ⟨c, v, q, by simpa using h1, by simpa using h2, h4⟩
theorem kv_of {w : World} {news : Led} : ∀ {kvs : List (Int × Value)}, (∀ kv ∈ kvs, ∃ q, NumIn w news kv.2 q) → ∃ kn, KvIn w news kvs kn
  | [], _ => ⟨[], .nil⟩
  | (c, v) :: r, h => by
    obtain ⟨q, hq⟩ := h (c, v) (.head _)
    obtain ⟨kn, hk⟩ := kv_of (kvs := r) fun kv hkv => h kv (.tail _ hkv)
    exact ⟨(c, q) :: kn, .cons hq hk⟩
theorem WidthsIn.kv {w : World} {news : Led} {o : Obj} {kvs : List (Int × Value)} (W : WidthsIn w news o kvs) : ∃ kn, KvIn w news kvs kn := kv_of fun kv hkv => (W.nums kv hkv).2.2
theorem rising_nodup {kvs : List (Int × Value)} (h : Rising kvs) : (kvs.map (·.1)).Nodup := h.imp fun h => Int.ne_of_lt h
noncomputable def wanted (kn : List CW) (qd : Num) : List CW := kn.filter fun x => !sameN x.2 qd
theorem wanted_skip {kn : List CW} {qd : Num} {i : Nat} {c : Int} {q : Num} (h : kn[i]? = some (c, q)) (hs : sameN q qd = true) : wanted (kn.take (i + 1)) qd = wanted (kn.take i) qd := by
  unfold wanted
  rw [List.take_add_one, h, List.filter_append]
  simp [hs]
theorem wanted_take {kn : List CW} {qd : Num} {i : Nat} {c : Int} {q : Num} (h : kn[i]? = some (c, q)) (hs : sameN q qd = false) : wanted (kn.take (i + 1)) qd = wanted (kn.take i) qd ++ [(c, q)] := by
  unfold wanted
  rw [List.take_add_one, h, List.filter_append]
  simp [hs]
structure WrInv (kn : List CW) (qd : Num) (i : Nat) (rows : List Row) (r : List CW) : Prop where
  ok : ∀ row ∈ rows, RowOk row
  con : Consec r
  told : SameCW (expand rows ++ r) (wanted (kn.take i) qd)
theorem consec_nil : Consec [] := ⟨0, fun i c q h => by cases h⟩
theorem consec_one (x : CW) : Consec [x] := ⟨x.1, fun i c q h => by
  cases i with
  | zero => cases h; simp
  | succ i => cases h⟩
theorem WrInv.start (kn : List CW) (qd : Num) : WrInv kn qd 0 [] [] := ⟨(fun _ h => nomatch h), consec_nil, .nil⟩
theorem WrInv.skip {kn : List CW} {qd : Num} {i : Nat} {rows : List Row} {r : List CW} {c : Int} {q : Num} (h : WrInv kn qd i rows r) (hi : kn[i]? = some (c, q)) (hs : sameN q qd = true) : WrInv kn qd (i + 1) rows r :=
  ⟨h.ok, h.con, by rw [wanted_skip hi hs]; exact h.told⟩
theorem consec_snoc {r : List CW} {c c' : Int} {q q' : Num} (h : Consec r) (hl : r[r.length - 1]? = some (c', q')) (e : c' = c - 1) : Consec (r ++ [(c, q)]) := by
  obtain ⟨c0, h⟩ := h
  refine ⟨c0, fun i a b hi => ?_⟩
  rcases Nat.lt_or_ge i r.length with hlt | hge
  · rw [List.getElem?_append_left hlt] at hi; exact h i a b hi
  · rw [List.getElem?_append_right hge] at hi
    have : i - r.length = 0 := by
      rcases Nat.eq_zero_or_pos (i - r.length) with h | h
      · exact h
      · rw [List.getElem?_eq_none (by simp; lgec_go)] at hi; cases hi
    rw [this] at hi
    cases hi
    have hr : r.length ≠ 0 := fun q => by rw [List.eq_nil_of_length_eq_zero q] at hl; cases hl
    have := h _ _ _ hl
    lgec_go
theorem WrInv.more {kn : List CW} {qd : Num} {i : Nat} {rows : List Row} {r : List CW} {c : Int} {q : Num} (h : WrInv kn qd i rows r) (hi : kn[i]? = some (c, q)) (hs : sameN q qd = false)
    (hr : r = [] ∨ ∃ c' q', r[r.length - 1]? = some (c', q') ∧ c' = c - 1) : WrInv kn qd (i + 1) rows (r ++ [(c, q)]) := by
  refine ⟨h.ok, ?_, ?_⟩
  · rcases hr with rfl | ⟨c', q', h1, h2⟩
    · exact consec_one _
    · exact consec_snoc h.con h1 h2
  · rw [wanted_take hi hs, ← List.append_assoc]
    exact h.told.app (SameCW.refl _)
theorem SameCW.trans {a b c : List CW} (h : SameCW a b) (h' : SameCW b c) : SameCW a c := by
  induction h generalizing c with
  | nil => cases h'; exact .nil
  | cons e _ ih =>
    cases h' with
    | cons e' h' => exact .cons (sameN_trans e e') (ih h')
theorem WrInv.flush {kn : List CW} {qd : Num} {i : Nat} {rows rows' : List Row} {r : List CW} {c : Int} {q : Num} (h : WrInv kn qd i rows r) (hi : kn[i]? = some (c, q)) (hs : sameN q qd = false)
    (h1 : SameCW (expand rows') r) (h2 : ∀ row ∈ rows', RowOk row) : WrInv kn qd (i + 1) (rows ++ rows') [(c, q)] := by
  refine ⟨fun row hr => (List.mem_append.mp hr).elim (h.ok row) (h2 row), consec_one _, ?_⟩
  rw [wanted_take hi hs, expand_app]
  exact (((SameCW.refl _).app h1).trans h.told).app (SameCW.refl _)
theorem WrInv.done {kn : List CW} {qd : Num} {rows rows' : List Row} {r : List CW} (h : WrInv kn qd kn.length rows r) (h1 : SameCW (expand rows') r) (h2 : ∀ row ∈ rows', RowOk row) :
    SameCW (expand (rows ++ rows')) (wanted kn qd) ∧ ∀ row ∈ rows ++ rows', RowOk row := by
  refine ⟨?_, fun row hr => (List.mem_append.mp hr).elim (h.ok row) (h2 row)⟩
  have := h.told
  rw [List.take_length] at this
  rw [expand_app]
  exact ((SameCW.refl _).app h1).trans this
theorem RunIn.snoc {w : World} {ro : Led} {vs : List Value} {r : List CW} {t : Addr} {c : Int} {tk : Tok} {v : Value} {q : Num} {k : Nat} (h : RunIn w ro vs r) (hm : (t, tup2 (.int c tk) v k) ∈ ro) (hn : NumIn w ro v q) : RunIn w ro (vs ++ [.ref t]) (r ++ [(c, q)]) :=
  h.app (.cons hm hn .nil)
section
variable {prog : Program} {w : World} {A : Around} {E : Value → Shared → Prop} {s : Shared} {h₀ : Heap} {L d : Addr} {news : Led} {o : Obj} {kvs : List (Int × Value)} {c : Int} {v : Value}
theorem dict_item {value slice : PySem.Expr} {t : Tok} {Q : Value → Shared → Prop} (N : News h₀ L s.heap news) (hm : (d, o) ∈ news) (hd : o.IsDictOf (PySem.intKind prog w) kvs) (hl : valueAt kvs c = some v) (h : Q v { s with toks := s.toks + 1 })
    (hs : subscripted slice false (.ref d) (.int c t) = operate [.ref d, .int c t] (getItem (.ref d) (.int c t)) := by with_unfolding_all rfl) (hg : ∀ r, letTemporaryGo value (.ref d) r = pure () := by intro _; with_unfolding_all rfl) :
    wpAny (model prog w) A (subscriptTail value slice (.ref d) (.int c t)) Q E s := kda_item N hm hd (intKind_is prog w c t) hl h hs hg
end
theorem off_app {a b : Led} {d : Addr} (h1 : ∀ y ∈ a, y.1 ≠ d) (h2 : ∀ y ∈ b, y.1 ≠ d) : ∀ y ∈ a ++ b, y.1 ≠ d := fun y hy => (List.mem_append.mp hy).elim (h1 y) (h2 y)
theorem off_sub {a b : Led} {d : Addr} (h1 : ∀ y ∈ a, y.1 ≠ d) (h2 : ∀ y ∈ b, y ∈ a) : ∀ y ∈ b, y.1 ≠ d := fun y hy => h1 y (h2 y hy)
theorem Apart.off {old new : Led} {d : Addr} {o : Obj} (h : Apart old new) (hm : (d, o) ∈ old) : ∀ y ∈ new, y.1 ≠ d := fun y hy => h _ hm y hy
theorem news_wf {h₀ h : Heap} {L : Addr} {D3 l3 I ru pa : Addr × Obj} {n1 n2 base : Led} (N : News h₀ L h (D3 :: l3 :: I :: ru :: pa :: (n1 ++ (n2 ++ base)))) : News h₀ L h (I :: l3 :: pa :: ((D3 :: ru :: (n1 ++ n2)) ++ base)) := fun q hq => N q (by
  simp only [List.mem_cons, List.mem_append, List.cons_append] at hq ⊢
  grind)
theorem news_wm {h₀ h : Heap} {L : Addr} {D3 I ru pa : Addr × Obj} {n2 base : Led} (N : News h₀ L h (D3 :: I :: ru :: pa :: (n2 ++ base))) : News h₀ L h (I :: ru :: pa :: ((D3 :: n2) ++ base)) := fun q hq => N q (subL [I, ru, pa, D3] [n2, base] (.c 0 (.c 1 (.c 2 (.a (.c 3 (.s 0)) (.s 1))))) (.c 3 (.c 0 (.c 1 (.c 2 (.a (.s 0) (.s 1)))))) rfl q hq)
theorem news_we {h₀ h : Heap} {L : Addr} {l ru pa D : Addr × Obj} {n1 n2 news : Led} (N : News h₀ L h (l :: ru :: pa :: (n1 ++ (n2 ++ D :: news)))) : News h₀ L h ((l :: ru :: pa :: D :: (n1 ++ n2)) ++ news) := fun q hq => N q (subL [l, ru, pa, D] [n1, n2, news] (.a (.c 0 (.c 1 (.c 2 (.c 3 (.a (.s 0) (.s 1)))))) (.s 2)) (.c 0 (.c 1 (.c 2 (.a (.s 0) (.a (.s 1) (.c 3 (.s 2))))))) rfl q hq)

end
section
theorem kw_Q4_0 : True := by
  k_with_none
  k_with "om" => first | decide | (with_reducible first | apply om1 <;> assumption | apply om2 <;> assumption | apply om8 <;> assumption | apply om26 <;> assumption | apply om77 <;> assumption | apply om78 <;> assumption | apply om79 <;> assumption | apply om80 <;> assumption | apply om81 <;> assumption | apply om82 <;> assumption | apply om205 <;> assumption | apply om206 <;> assumption | apply om207 <;> assumption | apply om208 <;> assumption | apply om209 <;> assumption | apply om210 <;> assumption | apply om211 <;> assumption | apply om212 <;> assumption | apply om213 <;> assumption | apply om214 <;> assumption | apply om215 <;> assumption | apply om216 <;> assumption | apply om217 <;> assumption | apply om218 <;> assumption | apply om219 <;> assumption | apply om220 <;> assumption)
  k_with "k_ne" => (refine neN ?_; (try dsimp only); first | with_reducible assumption | lgec_go)
  k_with "fold_depth" => first | ((with_reducible show wpAny _ (Around.deeper (ktrTop _ _ _ _ _ _ _ _ _ _) _) _ _ _ _); refine wp_fold4 ?_; intro A1 q0 e0) | (refine wp_fold2 ?_; intro q00 e00)
  k_with "fold_lay" => ((show wpAny _ _ _ _ _ _); first | (fail_if_success k_fold) | ((try clear qf); refine wp_fold ?_; intro qf))
  k_with "k_steps" => ((try dsimp only); (try fold_lay); repeat' (first | (k_unfold; (try dsimp only)) | (k_end; wrow_close) | (walk1; (try ((first | (with_reducible show wpAny _ _ (exec _ _) _ _ _) | (with_reducible show wpAny _ _ (execs _ _) _ _ _)); (try dsimp only); fold_lay))) | (dsimp only; walk1) | (leave1; walk_say "STEP leave1"; try dsimp only) | fail "no step"))
  k_with "k_room" => first | exact fastR (by assumption) | ktr_room | (simp only [A1]; ktr_room)
  k_with "k_units" => first | ktr_units | (simp only [A1]; ktr_units)
  k_with "k_enter" => (refine' code_defC ?k1_228 ?k2_228 ?k3_228 ?k4_228 ?k5_228 ?kA_228 ?kF_228 ?kK_228 ?k6_228 ?k7_228 ?k8_228 ?k9_228 ?kB_228 ?kD_228 ?_ ?c2_228 ?c3_228 ?c4_228; (case kA_228 => exact rfl); (case kF_228 => exact rfl); (case kK_228 => assumption); (case k1_228 => k_asm); (case k2_228 => k_asm); (case k3_228 => k_asm); (case k4_228 => k_asm); (case k5_228 => k_asm); (case k6_228 => k_is); (case k7_228 => k_is); (case k8_228 => k_room); (case k9_228 => first | exact BindsTo.of_eq rfl | exact binds_K (by k_in) rfl (by k_is) rfl rfl rfl); (case kB_228 => exact rfl); (case kD_228 => decide +kernel); (case c2_228 => exact rfl); (case c3_228 => exact rfl); (case c4_228 => exact rfl); k_whole; intro g' L' h' tk' cells' FG' F' N' Y' B' X' T' l1; (try k_lt l1); refine hideG ?_; intro G0; k_cells Y'; (dsimp only [G0]); (try clear G0); (try simp only [List.cons_append, List.nil_append] at N'); (try dsimp only); (try fold_depth))
  k_with "k_enter" => (refine' code_def ?k1_229 ?k2_229 ?k3_229 ?k4_229 ?k5_229 ?kA_229 ?kF_229 ?kK_229 ?k6_229 ?k7_229 ?k8_229 ?k9_229 ?kB_229 ?_ ?c2_229 ?c3_229 ?c4_229 ?c5_229; (case kA_229 => exact rfl); (case kF_229 => exact rfl); (case kK_229 => assumption); (case k1_229 => k_asm); (case k2_229 => k_asm); (case k3_229 => k_asm); (case k4_229 => k_asm); (case k5_229 => k_asm); (case k6_229 => k_is); (case k7_229 => k_is); (case k8_229 => k_room); (case k9_229 => first | exact BindsTo.of_eq rfl | exact binds_K (by k_in) rfl (by k_is) rfl rfl rfl); (case c5_229 => decide); (case kB_229 => exact locs rfl); (case c2_229 => exact rfl); (case c3_229 => exact rfl); (case c4_229 => exact rfl); k_whole; intro g' L' h' FG' F' N' B' X' T'; (try dsimp only); (try fold_depth))
  k_with "klt" => skip
  k_with "k_all" => first | exact List.forall_mem_nil _ | (with_reducible refine List.forall_mem_cons.mpr ⟨?_, ?_⟩; (focus k_ne); k_all) | with_reducible assumption | with_reducible exact allLt_off (by with_reducible assumption) | with_reducible exact lt_off (by with_reducible assumption) | with_reducible exact off1_off (by with_reducible assumption) | with_reducible exact off3_1 (by with_reducible assumption) | with_reducible exact off3_2 (by with_reducible assumption) | with_reducible exact off3_3 (by with_reducible assumption) | (with_reducible refine GrowK.off (by with_reducible assumption) ?_ ?_; (focus simp only [List.mem_cons, true_or, or_true]); k_all)
  k_with "tb_rel" => with_reducible first | assumption | exact sub_self | (refine sub_tail ?_; tb_rel) | (refine sub_growK (by assumption) ?_; tb_rel) | (refine sub_app ?_ ?_; (focus tb_rel); tb_rel) | (refine sub_consApp ?_; tb_rel) | (refine sub_appL ?_; tb_rel) | (refine sub_appR ?_; tb_rel)
  k_with "k_mem" => (refine sub_mem ?_ (by assumption); tb_rel)
  k_with "tb_start" => first | assumption | (refine NumIn.mono (by assumption) ?_; tb_rel)
  k_with "call ref" => ((with_reducible show wpAny _ _ (call (Value.ref 194) _) _ _ _); first | (k_dflt (refine' Calls.use ?k1_234 ?k2_234 ?k3_234 ?k4_234 ?k5_234 ?kK_234 ?C_234 ?kd_234 ?ku_234 ?_; (case k1_234 => k_asm); (case k2_234 => k_asm); (case k3_234 => k_asm); (case k4_234 => k_asm); (case k5_234 => k_asm); (case kK_234 => first | exact rfl | assumption); (case C_234 => exact same_spec _ _ _ _ _ _ (by tb_start) (by tb_start)); (case kd_234 => first | exact fastD (by assumption) (by decide) | lgec_go | (walk_say "SLOW ROOM"; ktr_room)); (case ku_234 => first | exact fastU (by assumption) (by decide) | lgec_go | (walk_say "SLOW UNITS"; ktr_units)); k_whole; intro r' n' h' tk' F' N' hr'; refine hideG ?_; intro G0; (obtain ⟨e1', e2'⟩ := hr'); subst e1'; replace e2' := Eq.symm e2'; subst e2'; (dsimp only [G0]); (try clear G0); (try k_sweep))) | refine Stop.mk ?_)
  k_with "subscriptTail" => ((with_reducible show wpAny _ _ (subscriptTail _ _ (Value.ref _) (Value.int _ _)) _ _ _); k_dflt (refine' run_item ?k1_235 ?k2_235 ?k3_235 ?k4_235 ?k5_235 ?k6_235 ?_; (case k1_235 => k_asm); (case k2_235 => k_mem); (case k3_235 => assumption); (case k4_235 => lgec_go); (case k5_235 => lgec_go); (case k6_235 => lgec_go)); (intro t' c' ct' v' k' q' hg' hm' hn'))
  k_with "exec While" => ((with_reducible show wpAny _ _ (exec (Stmt.While _ _ _ _) _) _ _ _); refine Stop.mk ?_)
  k_with "exec While Compare" => ((with_reducible show wpAny _ _ (exec (Stmt.While _ _ _ _) _) _ _ _); refine Stop.mk ?_)
  k_with "exec While BoolOp" => ((with_reducible show wpAny _ _ (exec (Stmt.While _ _ _ _) _) _ _ _); refine Stop.mk ?_)
  k_with "exec While Name" => ((with_reducible show wpAny _ _ (exec (Stmt.While _ _ _ _) _) _ _ _); refine Stop.mk ?_)
  k_with "exec While Compare cons nil" => ((with_reducible show wpAny _ _ (exec (Stmt.While _ _ _ _) _) _ _ _); refine Stop.mk ?_)
  k_with "call builtin:len" => ((with_reducible show wpAny _ _ (call (Value.builtin "len") [Value.ref _]) _ _ _); k_dflt (refine' lst_len ?k1_241 ?k2_241 ?k3_241 ?_; (case k1_241 => k_asm); (case k2_241 => k_mem); (case k3_241 => lgec_go); k_whole))
  k_with "truthy ref" => (k_dflt (refine' lst_truthy ?k1_242 ?k2_242 ?k3_242 ?_; (case k1_242 => k_asm); (case k2_242 => k_mem); (case k3_242 => lgec_go); k_whole))
  k_with "call builtin:list.append" => ((with_reducible show wpAny _ _ (call (Value.builtin _) [Value.ref _, _]) _ _ _); k_dflt (refine' lst_append ?k1_243 ?k2_243 ?k3_243 ?k4_243 ?_; (case k1_243 => k_asm); (case k2_243 => k_asm); (case k3_243 => k_upd); (case k4_243 => lgec_go); k_whole); intro h' F' N'; (try k_sweep))
  k_with "call builtin:list.extend" => ((with_reducible show wpAny _ _ (call (Value.builtin _) [Value.ref _, Value.ref _]) _ _ _); k_dflt (refine' lst_extend ?k1_244 ?k2_244 ?k3_244 ?k4_244 ?k5_244 ?_; (case k1_244 => k_asm); (case k2_244 => k_asm); (case k3_244 => k_updF); (case k4_244 => k_mem); (case k5_244 => first | (simp only [List.length_take, List.length_drop, List.length_append, List.length_cons, List.length_nil]; lgec_go) | lgec_go); k_whole); intro h' n' F' N'; (try dsimp only at N'); (try k_sweep))
  k_with "binaryOp Add" => ((with_reducible show wpAny _ _ (binaryOp Operator.Add (Value.ref _) (Value.ref _)) _ _ _); k_dflt (refine' lst_add ?k1_245 ?k2_245 ?k3_245 ?k4_245 ?k5_245 ?_; (case k1_245 => k_asm); (case k2_245 => k_asm); (case k3_245 => k_mem); (case k4_245 => k_mem); (case k5_245 => first | (simp only [List.length_cons, List.length_nil]; lgec_go) | lgec_go); k_whole); intro l' h' F' N' l1; (try k_lt l1); (try k_sweep))
  k_with "binaryOp Add ref ref" => ((with_reducible show wpAny _ _ (binaryOp Operator.Add (Value.ref _) (Value.ref _)) _ _ _); k_dflt (refine' lst_add ?k1_246 ?k2_246 ?k3_246 ?k4_246 ?k5_246 ?_; (case k1_246 => k_asm); (case k2_246 => k_asm); (case k3_246 => k_mem); (case k4_246 => k_mem); (case k5_246 => first | (simp only [List.length_cons, List.length_nil]; lgec_go) | lgec_go); k_whole); intro l' h' F' N' l1; (try k_lt l1); (try k_sweep))
  k_with "subscriptTail Name Slice ref ref" => ((with_reducible show wpAny _ _ (subscriptTail _ _ (Value.ref _) (Value.ref _)) _ _ _); k_dflt (refine' lst_slice ?k1_247 ?k2_247 ?k3_247 ?k4_247 ?k5_247 ?k6_247 ?_; (case k1_247 => k_asm); (case k2_247 => k_asm); (case k3_247 => k_mem); (case k4_247 => lgec_go); (case k5_247 => lgec_go); (case k6_247 => lgec_go); k_whole); intro l' h' F' N' l1; (try k_lt l1); (try k_sweep))
  k_with "SrcLP" => (first | k_dflt (refine LCp.SrcLP.ledger (by rfl) (by k_asm) (by k_asm) (by k_mem) ?sz_248 ?_; (case sz_248 => rw [List.size_toArray, sizeLine_eq]; lgec_go); intro g'; refine Stop.mk ?_) | refine Stop.mk ?_)
  k_with "CompSrc" => (first | k_dflt (first | (refine LCg.CompSrc.ledger (by rfl) (by k_asm) (by k_asm) (by k_mem) ?sz_249 ?_; (case sz_249 => rw [List.size_toArray, sizeLine_eq]; lgec_go); intro g'; refine Stop.mk ?_) | (refine LCg.CompSrc.range (by rfl) (by k_asm) (by k_asm) (by assumption) (range_small (by first | decide | lgec_go) (by first | decide | lgec_go) (by lgec_go) (by lgec_go)) (by first | exact range_n0 | exact range_n) ?sz_249 ?_; (case sz_249 => rw [sizeLine_eq]; lgec_go); intro g'; refine Stop.mk ?_)) | refine Stop.mk ?_)
  k_with "CompSrcT" => (first | k_dflt (first | (refine LCt.CompSrcT.ledger (by rfl) (by k_asm) (by k_asm) (by k_mem) ?sz_250 ?_; (case sz_250 => rw [List.size_toArray, sizeLine_eq]; lgec_go); intro g'; refine Stop.mk ?_) | (refine LCt.CompSrcT.range (by rfl) (by k_asm) (by k_asm) (by assumption) (range_small (by first | decide | lgec_go) (by first | decide | lgec_go) (by lgec_go) (by lgec_go)) (by first | exact range_n0 | exact range_n) ?sz_250 ?_; (case sz_250 => rw [sizeLine_eq]; lgec_go); intro g'; refine Stop.mk ?_)) | refine Stop.mk ?_)
  k_with "call ref" => ((with_reducible show wpAny _ _ (call (Value.ref 369) _) _ _ _); first | (k_dflt (refine' Calls.use ?k1_251 ?k2_251 ?k3_251 ?k4_251 ?k5_251 ?kK_251 ?C_251 ?kd_251 ?ku_251 ?_; (case k1_251 => k_asm); (case k2_251 => k_asm); (case k3_251 => k_asm); (case k4_251 => k_asm); (case k5_251 => k_asm); (case kK_251 => first | exact rfl | assumption); (case C_251 => exact alike_spec _ _ _ _ _ _ _ _ _ (by k_mem) (by assumption) (by tb_rel) (by lgec_go) (by lgec_go) (by lgec_go)); (case kd_251 => first | exact fastD (by assumption) (by decide) | lgec_go | (walk_say "SLOW ROOM"; ktr_room)); (case ku_251 => first | exact fastU (by assumption) (by decide) | lgec_go | (walk_say "SLOW UNITS"; ktr_units)); k_whole; intro r' n' h' tk' F' N' hr'; refine hideG ?_; intro G0; (obtain ⟨⟨cnt', t', e', hAl'⟩, e2'⟩ := hr'); subst e'; replace e2' := Eq.symm e2'; subst e2'; (try simp only [Int.toNat_natCast] at hAl'); (have hAf' := AlikeAt.fit hAl'); (have hAp' := AlikeAt.pos hAl'); (dsimp only [G0]); (try clear G0); (try k_sweep))) | refine Stop.mk ?_)
  k_with "call ref" => ((with_reducible show wpAny _ _ (call (Value.ref 374) _) _ _ _); first | (k_dflt (refine' Calls.use ?k1_252 ?k2_252 ?k3_252 ?k4_252 ?k5_252 ?kK_252 ?C_252 ?kd_252 ?ku_252 ?_; (case k1_252 => k_asm); (case k2_252 => k_asm); (case k3_252 => k_asm); (case k4_252 => k_asm); (case k5_252 => k_asm); (case kK_252 => first | exact rfl | assumption); (case C_252 => exact listed_spec _ _ _ _ _ _ _ (by k_mem) (by assumption) (by tb_rel) (by lgec_go)); (case kd_252 => first | exact fastD (by assumption) (by decide) | lgec_go | (walk_say "SLOW ROOM"; ktr_room)); (case ku_252 => first | exact fastU (by assumption) (by decide) | lgec_go | (walk_say "SLOW UNITS"; ktr_units)); k_whole; intro r' n' h' tk' F' N' hr'; refine hideG ?_; intro G0; (obtain ⟨d', ws', n2', new', e', e2', hA', hd', hR', hwl'⟩ := hr'); subst e'; subst e2'; (first | (obtain ⟨rest', htl', N9', hG', hsn'⟩ := gro6 N' hA') | (obtain ⟨rest', htl', N9', hG', hsn'⟩ := gro5 N' hA') | (obtain ⟨rest', htl', N9', hG', hsn'⟩ := gro4 N' hA') | (obtain ⟨rest', htl', N9', hG', hsn'⟩ := gro3 N' hA') | (obtain ⟨rest', htl', N9', hG', hsn'⟩ := gro2 N' hA') | (obtain ⟨rest', htl', N9', hG', hsn'⟩ := gro1 N' hA') | (obtain ⟨rest', htl', N9', hG', hsn'⟩ := gro0 N' hA')); clear N'; (try dsimp only at hG'); (dsimp only [G0]); (try clear G0); (try k_sweep))) | refine Stop.mk ?_)
  k_with "call ref" => ((with_reducible show wpAny _ _ (call (Value.ref 381) _) _ _ _); first | (k_dflt (refine' Calls.use ?k1_253 ?k2_253 ?k3_253 ?k4_253 ?k5_253 ?kK_253 ?C_253 ?kd_253 ?ku_253 ?_; (case k1_253 => k_asm); (case k2_253 => k_asm); (case k3_253 => k_asm); (case k4_253 => k_asm); (case k5_253 => k_asm); (case kK_253 => first | exact rfl | assumption); (case C_253 => exact runparts_spec _ _ _ _ _ _ _ (by k_mem) (by assumption) (by tb_rel) (by lgec_go) (by assumption)); (case kd_253 => first | exact fastD (by assumption) (by decide) | lgec_go | (walk_say "SLOW ROOM"; ktr_room)); (case ku_253 => first | exact fastU (by assumption) (by decide) | lgec_go | (walk_say "SLOW UNITS"; ktr_units)); k_whole; intro r' n' h' tk' F' N' hr'; refine hideG ?_; intro G0; (obtain ⟨d', ws', n2', new', rows', hA', hd', hR', hS', hO', hwl'⟩ := hr'); (first | (obtain ⟨rest', htl', N9', hG', hsn'⟩ := gro6 N' hA') | (obtain ⟨rest', htl', N9', hG', hsn'⟩ := gro5 N' hA') | (obtain ⟨rest', htl', N9', hG', hsn'⟩ := gro4 N' hA') | (obtain ⟨rest', htl', N9', hG', hsn'⟩ := gro3 N' hA') | (obtain ⟨rest', htl', N9', hG', hsn'⟩ := gro2 N' hA') | (obtain ⟨rest', htl', N9', hG', hsn'⟩ := gro1 N' hA') | (obtain ⟨rest', htl', N9', hG', hsn'⟩ := gro0 N' hA')); clear N'; (try dsimp only at hG'); (dsimp only [G0]); (try clear G0); (try k_sweep))) | refine Stop.mk ?_)
  k_with "call builtin:sorted" => ((with_reducible show wpAny _ _ (call (Value.builtin "sorted") [Value.ref _]) _ _ _); k_dflt (refine' dict_sorted ?k0_254 ?k1_254 ?k2_254 ?k3_254 ?k4_254 ?k5_254 ?k6_254 ?k7_254 ?_; (case k0_254 => rfl); (case k1_254 => k_asm); (case k2_254 => k_asm); (case k3_254 => k_mem); (case k4_254 => assumption); (case k5_254 => assumption); (case k6_254 => assumption); (case k7_254 => lgec_go); k_whole); intro D' h' tk' svs' sn' F' N' l1 hI'; (have hsl' := IntsAre.length hI'); (simp only [List.length_map] at hsl'); (try k_lt l1); (try k_sweep))
  k_with "subscriptTail" => ((with_reducible show wpAny _ _ (subscriptTail _ _ (Value.ref _) (Value.int _ _)) _ _ _); k_dflt (refine' dict_item ?k1_255 ?k2_255 ?k3_255 ?k4_255 ?_; (case k1_255 => k_asm); (case k2_255 => k_mem); (case k3_255 => assumption); (case k4_255 => assumption)))
  k_with "subscriptTail" => ((with_reducible show wpAny _ _ (subscriptTail _ _ (Value.ref _) (Value.int (-1) _)) _ _ _); k_dflt (refine' run_last ?k1_256 ?k2_256 ?k3_256 ?k4_256 ?k5_256 ?_; (case k1_256 => k_asm); (case k2_256 => k_mem); (case k3_256 => assumption); (case k4_256 => lgec_go); (case k5_256 => lgec_go)); (intro t' c' ct' v' k' q' hg' hm' hn'))
  trivial
local macro_rules | `(tactic| walk_at "pyIter ref") => `(tactic| ((with_reducible show wpAny _ _ (pyIter (Value.ref _)) (fun it s₂ => LoopAtV _ _ _ _ _ _ _ _ _ it s₂) _ _); refine Stop.mk ?_))
inductive WrJ (w : World) (news nd ro : Led) (d : Addr) (dv : Value) (pa : Addr) (kn : List CW) (qd : Num) (i : Nat) (m : Str → Option Value) : Led → Prop
  | mk (pvs : List Value) (pn : Nat) (ru : Addr) (lvs : List Value) (ln : Nat) (rows : List Row) (r : List CW) (tnew : Led) :
    Has m [(Str.ofString "widths", .ref d), (Str.ofString "default", dv), (Str.ofString "parts", .ref pa), (Str.ofString "run", .ref ru)] →
    Apart news tnew → @Ne Nat ru pa → (∀ y ∈ tnew ++ nd, y.1 ≠ ru) → (∀ y ∈ tnew ++ nd, y.1 ≠ pa) → RowsIn w (tnew ++ ro) pvs rows → RunIn w (tnew ++ ro) lvs r → WrInv kn qd i rows r → pvs.length + 7 * r.length ≤ 7 * i → r.length ≤ i →
    WrJ w news nd ro d dv pa kn qd i m ((ru, PySem.W.listOf lvs.toArray ln) :: (pa, PySem.W.listOf pvs.toArray pn) :: (tnew ++ nd))
inductive WrR (w : World) (news ro : Led) (kn : List CW) (qd : Num) : Value → Led → Prop
  | mk (dd : Addr) (ws : List Value) (k : Nat) (new : Led) (rows : List Row) : Apart news new → (dd, PySem.W.listOf ws.toArray k) ∈ new → RowsIn w (new ++ ro) ws rows → SameCW (expand rows) (wanted kn qd) → (∀ row ∈ rows, RowOk row) → ws.length ≤ 1000 → WrR w news ro kn qd (.ref dd) (new ++ news)
theorem written_spec (w : World) (news ro : Led) (d : Addr) (o : Obj) (kvs : List (Int × Value)) (kn : List CW) (dv : Value) (qd : Num) (hm : (d, o) ∈ news) (hd1 : o.IsDictOf (PySem.intKind PySem.Challenge.rw_nn0211_01.row.prog w) kvs) (lo : (d == sysModules) = false) (hr1 : Rising kvs) (hz : kvs.length ≤ 30)
    (hK : KvIn w ro kvs kn) (hro : ∀ y ∈ ro, y ∈ news) (hq : NumIn w ro dv qd) (hcb : ∀ kv ∈ kvs, 0 ≤ kv.1 ∧ kv.1 < 10000) :
    Calls w 388 14 [.ref d, dv] news (WrR w news ro kn qd) := by
  intro mean mg mb dp un gd cn cs a ccd cl outer A₀ base h₀ L m s Q E B F X N T hk hd hu hret
  have hkl := hK.length
  k_steps
  refine Stop.on ?_
  rename_i pa _ l1a _ _ ru0 _ hpr l1b _ hrD hpD
  refine loop_list (WrJ w news ((D', PySem.W.listOf svs'.toArray sn') :: news) ro d dv pa kn qd)
    rfl F' (rot1 N') (.tail _ (.tail _ (.head _))) ?h0 ?hJl ?turn ?done
  case h0 =>
    exact .mk [] _ _ [] _ [] [] [] ⟨rfl, rfl, rfl, rfl, trivial⟩ Apart.nil (by k_ne) (by k_all) (by k_all) .nil .nil (WrInv.start kn qd) (Nat.zero_le _) (Nat.zero_le _)
  case hJl => 
    rintro i m news' ⟨pvs, pn, ru, lvs, ln, rows, r, tnew, hma⟩
    exact .tail _ (.tail _ (List.mem_append_right _ (.head _)))
  case turn =>
    rintro i v m₁ news₁ I oI h tk hv ⟨pvs, pn, ru, lvs, ln, rows, r, tnew, hma, hAp, hne, offr, offp, hRows, hRun, hInv, hpl, hrl⟩ offI ltI F2 N2
    replace F2 := pinned1 F2 hma
    simp only [pin] at F2
    simp only [List.forall_mem_cons] at offI
    (refine hideG ?_; intro G0)
    obtain ⟨jr, jp, offI⟩ := offI
    (dsimp only [G0]); clear G0
    replace jr := neN jr
    replace jp := neN jp
    (refine hideG ?_; intro G0)
    obtain ⟨c, t, rfl, hc⟩ := IntsAre.at hI' i v hv
    (dsimp only [G0]); clear G0
    have hil : i < kn.length := by
      rw [← hkl]
      rcases Nat.lt_or_ge i kvs.length with h | h
      · exact h
      · rw [List.getElem?_eq_none (by simpa using h)] at hc; cases hc
    (refine hideG ?_; intro G0)
    obtain ⟨c2, v1, q, hk1, hk2, hk3⟩ := hK.at i hil
    (dsimp only [G0]); clear G0
    rw [List.getElem?_map, hk1] at hc
    obtain rfl : c2 = c := by simpa using hc
    have hval := valueAt_of_get (rising_nodup hr1) hk1
    have hcb' := hcb _ (List.mem_of_getElem? hk1)
    have hll := hRun.length
    have hCon := hInv.con
    have hro2 : ∀ y ∈ tnew ++ ro, y ∈ tnew ++ (D', PySem.W.listOf svs'.toArray sn') :: news := sub_app (sub_appL sub_self) (sub_appR (sub_tail hro))
    have hro1 : ∀ y ∈ ro, y ∈ tnew ++ (D', PySem.W.listOf svs'.toArray sn') :: news := sub_appR (sub_tail hro)
    have hm1 : (d, o) ∈ tnew ++ (D', PySem.W.listOf svs'.toArray sn') :: news := List.mem_append_right _ (.tail _ hm)
    have hnt : ∀ y ∈ news, y ∈ tnew ++ (D', PySem.W.listOf svs'.toArray sn') :: news := sub_appR (sub_tail sub_self)
    generalize htl : tnew ++ (D', PySem.W.listOf svs'.toArray sn') :: news = tail at *
    generalize hr2 : tnew ++ ro = ro2 at *
    k_steps
    · subst htl hr2
      exact TurnJ.step (Q := q0) (by k_asm) (by k_asm) (by k_all) (.mk pvs pn ru lvs ln rows r tnew ⟨rfl, rfl, rfl, rfl, trivial⟩ hAp hne offr offp hRows hRun (hInv.skip hk2 (by assumption)) (by lgec_go) (by lgec_go))
    · rename News _ _ _ (_ :: _ :: _ :: _ :: _ :: rest') => N5
      rename_i l3 _ hI3 hr3 hp3 hl3 _ _ D3 _ hD1 hD2 hD3 hD4 hD5
      have o1 := allLt_off hl3
      have o2 := off_sub (allLt_off hD5) (fun y hy => hG'.sub y (hnt y hy))
      have o3 : ∀ y ∈ rest', y.1 ≠ pa := by k_all
      have o4 := off_sub offr hnt
      have o5 : ∀ y ∈ rest', y.1 ≠ I := by k_all
      have a1 := hA'.sub (fun q hq => .tail _ (.tail _ (.tail _ (hnt q hq)))) (fun y hy => hy)
      subst htl hr2 htl'
      exact TurnJ.step (by k_asm) (news_wf N5) (off_cons (by k_ne) (off_cons (by k_ne) (off_cons (by k_ne) (off_cons (by k_ne) (off_assoc o5))))) (.mk _ _ _ [_] _ (rows ++ rows') [(c2, q)] _ ⟨rfl, rfl, rfl, rfl, trivial⟩ (Apart.cons o2 (Apart.cons o4 (Apart.app a1 hAp))) (by k_ne) (off_cons (by k_ne) (off_cons (by k_ne) (off_assoc o1))) (off_cons (by k_ne) (off_cons (by k_ne) (off_assoc o3))) ((hRows.mono (by tb_rel)).app (hR'.mono (by tb_rel))) (.cons (.head _) (hk3.mono (by tb_rel)) .nil) (hInv.flush hk2 (by assumption) hS' hO') (by rw [List.length_append, List.length_singleton]; lgec_go) (by rw [List.length_singleton]; lgec_go))
    · rename News _ _ _ (_ :: _ :: _ :: _ :: tail) => N5
      rename_i D3 _ hD2 hD3 hD4 hD5
      have o2 := off_sub (allLt_off hD5) hnt
      subst htl hr2
      exact TurnJ.step (by k_asm) (news_wm N5) (off_cons (by k_ne) (off_cons (by k_ne) (off_cons (by k_ne) offI))) (.mk _ _ _ _ _ rows (r ++ [(c2, q)]) _ ⟨rfl, rfl, rfl, rfl, trivial⟩ (Apart.cons o2 hAp) hne (off_cons (by k_ne) offr) (off_cons (by k_ne) offp) (hRows.mono (by tb_rel)) ((hRun.mono (by tb_rel)).snoc (.head _) (hk3.mono (by tb_rel))) (hInv.more hk2 (by assumption) (.inr ⟨_, _, hg', by lgec_go⟩)) (by rw [List.length_append, List.length_singleton]; lgec_go) (by rw [List.length_append, List.length_singleton]; lgec_go))
    · rename News _ _ _ (_ :: _ :: _ :: _ :: tail) => N5
      rename_i D3 _ hD2 hD3 hD4 hD5
      have o2 := off_sub (allLt_off hD5) hnt
      subst htl hr2
      exact TurnJ.step (by k_asm) (news_wm N5) (off_cons (by k_ne) (off_cons (by k_ne) (off_cons (by k_ne) offI))) (.mk _ _ _ _ _ rows (r ++ [(c2, q)]) _ ⟨rfl, rfl, rfl, rfl, trivial⟩ (Apart.cons o2 hAp) hne (off_cons (by k_ne) offr) (off_cons (by k_ne) offp) (hRows.mono (by tb_rel)) ((hRun.mono (by tb_rel)).snoc (.head _) (hk3.mono (by tb_rel))) (hInv.more hk2 (by assumption) (.inl (List.eq_nil_of_length_eq_zero (by lgec_go)))) (by rw [List.length_append, List.length_singleton]; lgec_go) (by rw [List.length_append, List.length_singleton]; lgec_go))
  case done =>
    have ltD : ∀ p ∈ news, p.1 < D' := fun p hp => allLt_lt l1 p hp
    rintro m₁ news₁ h tk ⟨pvs, pn, ru, lvs, ln, rows, r, tnew, hma, hAp, hne, offr, offp, hRows, hRun, hInv, hpl, hrl⟩ F2 N2
    replace F2 := pinned F2 hma
    simp only [pin] at F2
    have hsv : svs'.length = kn.length := by rw [hI'.length, List.length_map, hkl]
    have hll := hRun.length
    have hCon := hInv.con
    have hro2 : ∀ y ∈ tnew ++ ro, y ∈ tnew ++ (D', PySem.W.listOf svs'.toArray sn') :: news := sub_app (sub_appL sub_self) (sub_appR (sub_tail hro))
    have hnt : ∀ y ∈ news, y ∈ tnew ++ (D', PySem.W.listOf svs'.toArray sn') :: news := sub_appR (sub_tail sub_self)
    generalize htl : tnew ++ (D', PySem.W.listOf svs'.toArray sn') :: news = tail at *
    generalize hr2 : tnew ++ ro = ro2 at *
    k_steps
    have o1 := off_sub (allLt_off l1) (fun y hy => hG'.sub y (hnt y hy))
    have o2 := off_sub offr hnt
    have o3 := off_sub offp hnt
    have o4 : ∀ y ∈ news, y.1 ≠ D' := lt_off ltD
    have a1 := hA'.sub (fun q hq => .tail _ (.tail _ (hnt q hq))) (fun y hy => hy)
    rename News h₀ L _ _ => N6
    subst htl hr2 htl'
    have hInv' := hInv
    rw [hsv] at hInv' hrl hpl
    have hdn := hInv'.done hS' hO'
    exact hret _ _ _ _ (by k_asm) (news_we N6) (.mk _ (pvs ++ ws') _ (_ :: _ :: _ :: _ :: _) (rows ++ rows') (Apart.cons o1 (Apart.cons o2 (Apart.cons o3 (Apart.cons o4 (Apart.app a1 hAp))))) (.head _) ((hRows.mono (by tb_rel)).app (hR'.mono (by tb_rel))) hdn.1 hdn.2 (by rw [List.length_append]; lgec_go))

end
section
theorem kw_PL3_0 : True := by
  k_with_none
  k_with "om" => first | decide | (with_reducible first | apply om6 <;> assumption | apply om26 <;> assumption | apply om34 <;> assumption | apply om35 <;> assumption | apply om36 <;> assumption | apply om65 <;> assumption | apply om68 <;> assumption | apply om71 <;> assumption | apply om77 <;> assumption | apply om83 <;> assumption | apply om221 <;> assumption | apply om223 <;> assumption | apply om224 <;> assumption | apply om225 <;> assumption | apply om226 <;> assumption | apply om227 <;> assumption | apply om228 <;> assumption | apply om229 <;> assumption | apply om230 <;> assumption | apply om231 <;> assumption | apply om232 <;> assumption | apply om233 <;> assumption | apply om235 <;> assumption | apply om236 <;> assumption | apply om237 <;> assumption | apply om238 <;> assumption | apply om239 <;> assumption | apply om240 <;> assumption | apply om241 <;> assumption)
  k_with "k_ne" => (refine neN ?_; (try dsimp only); first | with_reducible assumption | lgec_go)
  k_with "fold_depth" => first | ((with_reducible show wpAny _ (Around.deeper (ktrTop _ _ _ _ _ _ _ _ _ _) _) _ _ _ _); refine wp_fold4 ?_; intro A1 q0 e0) | (refine wp_fold2 ?_; intro q00 e00)
  k_with "fold_lay" => ((show wpAny _ _ _ _ _ _); first | (fail_if_success k_fold) | ((try clear qf); refine wp_fold ?_; intro qf))
  k_with "k_steps" => ((try dsimp only); (try fold_lay); repeat' (first | (k_unfold; (try dsimp only)) | (k_end; wrow_close) | (walk1; (try ((first | (with_reducible show wpAny _ _ (exec _ _) _ _ _) | (with_reducible show wpAny _ _ (execs _ _) _ _ _)); (try dsimp only); fold_lay))) | (dsimp only; walk1) | (leave1; walk_say "STEP leave1"; try dsimp only) | fail "no step"))
  k_with "k_room" => first | exact fastR (by assumption) | ktr_room | (simp only [A1]; ktr_room)
  k_with "k_units" => first | ktr_units | (simp only [A1]; ktr_units)
  k_with "k_enter" => (refine' code_defC ?k1_262 ?k2_262 ?k3_262 ?k4_262 ?k5_262 ?kA_262 ?kF_262 ?kK_262 ?k6_262 ?k7_262 ?k8_262 ?k9_262 ?kB_262 ?kD_262 ?_ ?c2_262 ?c3_262 ?c4_262; (case kA_262 => exact rfl); (case kF_262 => exact rfl); (case kK_262 => assumption); (case k1_262 => k_asm); (case k2_262 => k_asm); (case k3_262 => k_asm); (case k4_262 => k_asm); (case k5_262 => k_asm); (case k6_262 => k_is); (case k7_262 => k_is); (case k8_262 => k_room); (case k9_262 => first | exact BindsTo.of_eq rfl | exact binds_K (by k_in) rfl (by k_is) rfl rfl rfl); (case kB_262 => exact rfl); (case kD_262 => decide +kernel); (case c2_262 => exact rfl); (case c3_262 => exact rfl); (case c4_262 => exact rfl); k_whole; intro g' L' h' tk' cells' FG' F' N' Y' B' X' T' l1; (try k_lt l1); refine hideG ?_; intro G0; k_cells Y'; (dsimp only [G0]); (try clear G0); (try simp only [List.cons_append, List.nil_append] at N'); (try dsimp only); (try fold_depth))
  k_with "k_enter" => (refine' code_def ?k1_263 ?k2_263 ?k3_263 ?k4_263 ?k5_263 ?kA_263 ?kF_263 ?kK_263 ?k6_263 ?k7_263 ?k8_263 ?k9_263 ?kB_263 ?_ ?c2_263 ?c3_263 ?c4_263 ?c5_263; (case kA_263 => exact rfl); (case kF_263 => exact rfl); (case kK_263 => assumption); (case k1_263 => k_asm); (case k2_263 => k_asm); (case k3_263 => k_asm); (case k4_263 => k_asm); (case k5_263 => k_asm); (case k6_263 => k_is); (case k7_263 => k_is); (case k8_263 => k_room); (case k9_263 => first | exact BindsTo.of_eq rfl | exact binds_K (by k_in) rfl (by k_is) rfl rfl rfl); (case c5_263 => decide); (case kB_263 => exact locs rfl); (case c2_263 => exact rfl); (case c3_263 => exact rfl); (case c4_263 => exact rfl); k_whole; intro g' L' h' FG' F' N' B' X' T'; (try dsimp only); (try fold_depth))
  trivial
structure OpInv (qs : List Num) (i ar : Nat) : Prop where
  le : ar ≤ i
  le3 : ar ≤ 3
  pos : 0 < i → 1 ≤ ar
  run : ∀ j, i + 1 ≤ j + ar → j < i → ∀ a b, qs[j]? = some a → qs[j - 1]? = some b → sameN a b = true
theorem OpInv.start (qs : List Num) : OpInv qs 0 0 := ⟨Nat.le_refl _, Nat.zero_le _, (fun h => absurd h (Nat.lt_irrefl _)), fun j _ h => absurd h (Nat.not_lt_zero _)⟩
theorem OpInv.reset {qs : List Num} {i ar : Nat} (_h : OpInv qs i ar) : OpInv qs (i + 1) 1 := ⟨by lgec_go, by lgec_go, fun _ => Nat.le_refl _, fun j h1 h2 => by lgec_go⟩
theorem OpInv.more {qs : List Num} {i ar : Nat} {x y : Num} (h : OpInv qs i ar) (hn : NoFour qs) (hi : 0 < i) (hx : qs[i]? = some x) (hy : qs[i - 1]? = some y) (hs : sameN x y = true) : OpInv qs (i + 1) (ar + 1) := by
  have hle := h.le
  have hpos := h.pos hi
  have hl : i < qs.length := by
    rcases Nat.lt_or_ge i qs.length with h | h
    · exact h
    · rw [List.getElem?_eq_none h] at hx; cases hx
  have run : ∀ j, i + 1 ≤ j + ar → j < i + 1 → ∀ a b, qs[j]? = some a → qs[j - 1]? = some b → sameN a b = true := by
    intro j h1 h2 a b ha hb
    by_cases e : j = i
    · subst e
      rw [hx] at ha; rw [hy] at hb
      cases ha; cases hb
      exact hs
    · exact h.run j h1 (by lgec_go) a b ha hb
  refine ⟨by lgec_go, ?_, fun _ => by lgec_go, fun j h1 h2 => run j (by lgec_go) h2⟩
  rcases Nat.lt_or_ge ar 3 with h3 | h3
  · lgec_go
  · exfalso
    have h3' : ar = 3 := Nat.le_antisymm h.le3 h3
    subst h3'
    obtain ⟨k, rfl⟩ : ∃ k, i = k + 3 := ⟨i - 3, by lgec_go⟩
    have g : ∀ j, j < qs.length → ∃ z, qs[j]? = some z := fun j hj => ⟨_, List.getElem?_eq_getElem hj⟩
    obtain ⟨a, ha⟩ := g k (by lgec_go)
    obtain ⟨b, hb⟩ := g (k + 1) (by lgec_go)
    obtain ⟨c, hc⟩ := g (k + 2) (by lgec_go)
    exact hn k a b c x ha hb hc hx (run (k + 1) (by lgec_go) (by lgec_go) b a hb ha) (run (k + 2) (by lgec_go) (by lgec_go) c b hc hb) (run (k + 3) (by lgec_go) (by lgec_go) x c hx hc)
theorem listedCW_take : ∀ (qs : List Num) (c : Int) (i : Nat) (q : Num), qs[i]? = some q → listedCW c (qs.take (i + 1)) = listedCW c (qs.take i) ++ [(c + i, q)]
  | [], _, _, _, h => by cases h
  | x :: qs, c, 0, q, h => by cases h; simp [listedCW]
  | x :: qs, c, i + 1, q, h => by
    show (c, x) :: listedCW (c + 1) (qs.take (i + 1)) = (c, x) :: (listedCW (c + 1) (qs.take i) ++ [(c + ((i + 1 : Nat) : Int), q)])
    rw [listedCW_take qs (c + 1) i q (by simpa using h)]
    have : c + 1 + (i : Int) = c + ((i + 1 : Nat) : Int) := by lgec_go
    rw [this]
theorem spanCW_snoc : ∀ (n : Nat) (a : Int) (q : Num), spanCW a (n + 1) q = spanCW a n q ++ [(a + n, q)]
  | 0, a, q => by simp [spanCW]
  | n + 1, a, q => by
    show (a, q) :: spanCW (a + 1) (n + 1) q = (a, q) :: (spanCW (a + 1) n q ++ [(a + ((n + 1 : Nat) : Int), q)])
    rw [spanCW_snoc n (a + 1) q]
    have : a + 1 + (n : Int) = a + ((n + 1 : Nat) : Int) := by lgec_go
    rw [this]
theorem listedCW_length : ∀ (qs : List Num) (c : Int), (listedCW c qs).length = qs.length
  | [], _ => rfl
  | _ :: qs, c => by simp [listedCW, listedCW_length qs]
theorem spanCW_length : ∀ (n : Nat) (c : Int) (q : Num), (spanCW c n q).length = n
  | 0, _, _ => rfl
  | n + 1, c, q => by simp [spanCW, spanCW_length n]
theorem RowsIn.length_le {w : World} {news : Led} {vs : List Value} {r : List Row} (h : RowsIn w news vs r) : vs.length ≤ 3 * r.length := by
  induction h with
  | nil => exact Nat.le_refl _
  | listed a b _ ih => simp only [List.length_cons]; lgec_go
  | span a _ ih => simp only [List.length_cons]; lgec_go
section
variable {prog : Program} {w : World} {A : Around} {E : Value → Shared → Prop} {s : Shared} {h₀ : Heap} {L : Addr} {news : Led}
theorem nums_item {ro : Led} {value slice : PySem.Expr} {l : Addr} {vs : List Value} {qs : List Num} {n : Nat} {k : Int} {u : Tok} {Q : Value → Shared → Prop}
    (N : News h₀ L s.heap news) (hm : (l, PySem.W.listOf vs.toArray n) ∈ news) (R : NumsIn w ro vs qs) (h0 : 0 ≤ k) (hi : k < qs.length) (hz : qs.length ≤ 1000)
    (h : ∀ v q, qs[k.toNat]? = some q → NumIn w ro v q → Q v s)
    (hs : subscripted slice false (.ref l) (.int k u) = operate [.ref l, .int k u] (getItem (.ref l) (.int k u)) := by with_unfolding_all rfl) :
    wpAny (model prog w) A (subscriptTail value slice (.ref l) (.int k u)) Q E s := by
  obtain ⟨v, q, h1, h2, h3⟩ := R.at k.toNat (by lgec_go)
  exact lst_item N hm h0 (by lgec_go) h1 (h v q h2 h3) hs
end
theorem mem_expand {r : Row} {rows : List Row} {x : CW} (h : r ∈ rows) (hx : x ∈ expandRow r) : x ∈ expand rows := List.mem_flatMap.mpr ⟨r, h, hx⟩
theorem expand_cons (r : Row) (rows : List Row) : expand (r :: rows) = expandRow r ++ expand rows := rfl
theorem spanCW_mem : ∀ (n : Nat) (a : Int) (q : Num) (i : Nat), i < n → (a + i, q) ∈ spanCW a n q
  | 0, _, _, _, h => absurd h (Nat.not_lt_zero _)
  | n + 1, a, q, 0, _ => by simp [spanCW]
  | n + 1, a, q, i + 1, h => by
    have := spanCW_mem n (a + 1) q i (by lgec_go)
    show (a + ((i + 1 : Nat) : Int), q) ∈ (a, q) :: spanCW (a + 1) n q
    rw [show a + ((i + 1 : Nat) : Int) = a + 1 + (i : Int) by lgec_go]
    exact .tail _ this
theorem span_bounds {a b : Int} {q : Num} (h : a ≤ b) (hb : ∀ x ∈ expandRow (.span a b q), 0 ≤ x.1 ∧ x.1 < 10000) : 0 ≤ a ∧ b < 10000 := by
  have h1 := hb _ (spanCW_mem (b - a + 1).toNat a q 0 (by lgec_go))
  have h2 := hb _ (spanCW_mem (b - a + 1).toNat a q (b - a).toNat (by lgec_go))
  constructor
  · have : (0 : Int) ≤ a + ((0 : Nat) : Int) := h1.1
    lgec_go
  · have : a + (((b - a).toNat : Nat) : Int) < 10000 := h2.2
    lgec_go
noncomputable abbrev dm : Obj := PySem.W.listOf #[] 0
theorem off3_mk {I C D : Addr} {l : Led} (h1 : ∀ p ∈ l, p.1 ≠ I) (h2 : ∀ p ∈ l, p.1 ≠ C) (h3 : ∀ p ∈ l, p.1 ≠ D) : LCg.Off3 I C D l := LCg.Off3.of fun p hp => ⟨h1 p hp, h2 p hp, h3 p hp⟩
theorem comp_sub0 {T I C D : Addr × Obj} {r : Led} : ∀ p ∈ I :: C :: D :: T :: r, p ∈ T :: I :: C :: D :: r := subL [I, C, D, T] [r] (.c 0 (.c 1 (.c 2 (.c 3 (.s 0))))) (.c 3 (.c 0 (.c 1 (.c 2 (.s 0))))) rfl
theorem comp_sub5 {T I C D a b c d e : Addr × Obj} {r : Led} : ∀ p ∈ I :: C :: D :: a :: b :: c :: d :: e :: T :: r, p ∈ T :: I :: C :: D :: a :: b :: c :: d :: e :: r := subL [I, C, D, a, b, c, d, e, T] [r] (.c 0 (.c 1 (.c 2 (.c 3 (.c 4 (.c 5 (.c 6 (.c 7 (.c 8 (.s 0)))))))))) (.c 8 (.c 0 (.c 1 (.c 2 (.c 3 (.c 4 (.c 5 (.c 6 (.c 7 (.s 0)))))))))) rfl
section
variable {prog : Program} {w : World} {A : Around} {E : Value → Shared → Prop} {s : Shared} {env : Env} {h₀ : Heap} {x : Str} {body : List Stmt} {Q : Flow → Shared → Prop}
theorem loop_rangeC {r : Addr} {a₀ b₀ : Int} {t₀ u₀ v₀ : Tok} {n : Nat} {m₀ : Str → Option Value} {news : Led} (J : Nat → (Str → Option Value) → Prop)
    (hh : A.handled = none) (hr : IsRange s.heap r a₀ b₀ 1 t₀ u₀ v₀) (hsmall : Builtin.Range.small a₀ b₀ 1 = true) (hn : Builtin.Range.rangeSize a₀ b₀ 1 = (n : Int)) (F : Fr h₀ env.locals s.heap m₀) (N : News h₀ env.locals s.heap news) (h0 : J 0 m₀)
    (turn : ∀ i t m₁ I oI h tk, i < n → J i m₁ → (∀ q ∈ news, q.1 ≠ I) → Fr h₀ env.locals h (fun y => if y = x then some (.int (a₀ + (i : Int)) t) else m₁ y) → News h₀ env.locals h ((I, oI) :: news) →
      wpAny (model prog w) A (execs body env) (TurnJ h₀ env.locals I oI (fun m news' => J (i + 1) m ∧ news' = news) { s with heap := h, toks := tk } Q) E { s with heap := h, toks := tk })
    (done : ∀ m₁ h tk, J n m₁ → Fr h₀ env.locals h m₁ → News h₀ env.locals h news → Q .next { s with heap := h, toks := tk }) :
    wpAny (model prog w) A (pyIter (.ref r)) (fun it s₂ => LoopAtV prog w A h₀ env x body Q E it s₂) E s :=
  loop_range (J := fun i m news' => J i m ∧ news' = news) hh hr hsmall hn F N ⟨h0, rfl⟩ (fun i t m₁ news₁ I oI h tk hi hJ off _ F₁ N₁ => by
    obtain ⟨hJ, e9⟩ := hJ
    replace e9 := Eq.symm e9
    subst e9
    exact turn i t m₁ I oI h tk hi hJ off F₁ N₁) fun m₁ news₁ h tk hJ F₁ N₁ => by
    obtain ⟨hJ, e9⟩ := hJ
    replace e9 := Eq.symm e9
    subst e9
    exact done m₁ h tk hJ F₁ N₁
end
theorem OpInv.more' {qs : List Num} {i ar : Nat} {x y : Num} (h : OpInv qs i ar) (hn : NoFour qs) (hi : (0 : Int) < 0 + (i : Int)) (hx : qs[((0 : Int) + (i : Int)).toNat]? = some x) (hy : qs[((0 : Int) + (i : Int) - 1).toNat]? = some y) (hs : sameN x y = true) : OpInv qs (i + 1) (ar + 1) :=
  h.more hn (by lgec_go) (by rw [show i = ((0 : Int) + (i : Int)).toNat by lgec_go]; exact hx) (by rw [show i - 1 = ((0 : Int) + (i : Int) - 1).toNat by lgec_go]; exact hy) hs
theorem news_op {h₀ h : Heap} {L : Addr} {D2 a b c d e : Addr × Obj} {n1 n2 news : Led} (N : News h₀ L h (D2 :: a :: b :: c :: d :: e :: (n1 ++ (n2 ++ news)))) : News h₀ L h (a :: b :: c :: d :: e :: ((D2 :: (n1 ++ n2)) ++ news)) := fun q hq => N q (by
  simp only [List.mem_cons, List.mem_append, List.cons_append] at hq ⊢
  grind)
theorem told_step {told x r all : List CW} (h : told ++ (x ++ r) = all) : (told ++ x) ++ r = all := by rw [List.append_assoc]; exact h
theorem news_oe {h₀ h : Heap} {L : Addr} {T a b c d e : Addr × Obj} {n2 news : Led} (N : News h₀ L h (T :: a :: b :: c :: d :: e :: (n2 ++ news))) : News h₀ L h ((T :: a :: b :: c :: d :: e :: n2) ++ news) := N
theorem expandRow_span {a b : Int} {q : Num} : expandRow (.span a b q) = spanCW a (b + 1 - a).toNat q := by
  show spanCW a (b - a + 1).toNat q = _
  rw [show b - a + 1 = b + 1 - a by lgec_go]

end
section
theorem kw_Q5_0 : True := by
  k_with_none
  k_with "om" => first | decide | (with_reducible first | apply om1 <;> assumption | apply om2 <;> assumption | apply om5 <;> assumption | apply om9 <;> assumption | apply om11 <;> assumption | apply om12 <;> assumption | apply om16 <;> assumption | apply om17 <;> assumption | apply om18 <;> assumption | apply om19 <;> assumption | apply om27 <;> assumption | apply om37 <;> assumption | apply om38 <;> assumption | apply om39 <;> assumption | apply om40 <;> assumption | apply om41 <;> assumption | apply om42 <;> assumption | apply om76 <;> assumption | apply om84 <;> assumption | apply om85 <;> assumption | apply om86 <;> assumption | apply om87 <;> assumption | apply om88 <;> assumption | apply om89 <;> assumption | apply om90 <;> assumption | apply om242 <;> assumption | apply om243 <;> assumption | apply om244 <;> assumption | apply om245 <;> assumption | apply om246 <;> assumption | apply om247 <;> assumption | apply om248 <;> assumption | apply om249 <;> assumption | apply om250 <;> assumption | apply om251 <;> assumption | apply om252 <;> assumption | apply om253 <;> assumption | apply om254 <;> assumption | apply om255 <;> assumption | apply om256 <;> assumption | apply om257 <;> assumption | apply om258 <;> assumption | apply om259 <;> assumption | apply om260 <;> assumption | apply om261 <;> assumption | apply om262 <;> assumption | apply om263 <;> assumption | apply om264 <;> assumption | apply om265 <;> assumption | apply om266 <;> assumption | apply om267 <;> assumption | apply om268 <;> assumption | apply om269 <;> assumption | apply om270 <;> assumption)
  k_with "k_ne" => (refine neN ?_; (try dsimp only); first | with_reducible assumption | lgec_go)
  k_with "fold_depth" => first | ((with_reducible show wpAny _ (Around.deeper (ktrTop _ _ _ _ _ _ _ _ _ _) _) _ _ _ _); refine wp_fold4 ?_; intro A1 q0 e0) | (refine wp_fold2 ?_; intro q00 e00)
  k_with "fold_lay" => ((show wpAny _ _ _ _ _ _); first | (fail_if_success k_fold) | ((try clear qf); refine wp_fold ?_; intro qf))
  k_with "k_steps" => ((try dsimp only); (try fold_lay); repeat' (first | (k_unfold; (try dsimp only)) | (k_end; wrow_close) | (walk1; (try ((first | (with_reducible show wpAny _ _ (exec _ _) _ _ _) | (with_reducible show wpAny _ _ (execs _ _) _ _ _)); (try dsimp only); fold_lay))) | (dsimp only; walk1) | (leave1; walk_say "STEP leave1"; try dsimp only) | fail "no step"))
  k_with "k_room" => first | exact fastR (by assumption) | ktr_room | (simp only [A1]; ktr_room)
  k_with "k_units" => first | ktr_units | (simp only [A1]; ktr_units)
  k_with "k_enter" => (refine' code_defC ?k1_269 ?k2_269 ?k3_269 ?k4_269 ?k5_269 ?kA_269 ?kF_269 ?kK_269 ?k6_269 ?k7_269 ?k8_269 ?k9_269 ?kB_269 ?kD_269 ?_ ?c2_269 ?c3_269 ?c4_269; (case kA_269 => exact rfl); (case kF_269 => exact rfl); (case kK_269 => assumption); (case k1_269 => k_asm); (case k2_269 => k_asm); (case k3_269 => k_asm); (case k4_269 => k_asm); (case k5_269 => k_asm); (case k6_269 => k_is); (case k7_269 => k_is); (case k8_269 => k_room); (case k9_269 => first | exact BindsTo.of_eq rfl | exact binds_K (by k_in) rfl (by k_is) rfl rfl rfl); (case kB_269 => exact rfl); (case kD_269 => decide +kernel); (case c2_269 => exact rfl); (case c3_269 => exact rfl); (case c4_269 => exact rfl); k_whole; intro g' L' h' tk' cells' FG' F' N' Y' B' X' T' l1; (try k_lt l1); refine hideG ?_; intro G0; k_cells Y'; (dsimp only [G0]); (try clear G0); (try simp only [List.cons_append, List.nil_append] at N'); (try dsimp only); (try fold_depth))
  k_with "k_enter" => (refine' code_def ?k1_270 ?k2_270 ?k3_270 ?k4_270 ?k5_270 ?kA_270 ?kF_270 ?kK_270 ?k6_270 ?k7_270 ?k8_270 ?k9_270 ?kB_270 ?_ ?c2_270 ?c3_270 ?c4_270 ?c5_270; (case kA_270 => exact rfl); (case kF_270 => exact rfl); (case kK_270 => assumption); (case k1_270 => k_asm); (case k2_270 => k_asm); (case k3_270 => k_asm); (case k4_270 => k_asm); (case k5_270 => k_asm); (case k6_270 => k_is); (case k7_270 => k_is); (case k8_270 => k_room); (case k9_270 => first | exact BindsTo.of_eq rfl | exact binds_K (by k_in) rfl (by k_is) rfl rfl rfl); (case c5_270 => decide); (case kB_270 => exact locs rfl); (case c2_270 => exact rfl); (case c3_270 => exact rfl); (case c4_270 => exact rfl); k_whole; intro g' L' h' FG' F' N' B' X' T'; (try dsimp only); (try fold_depth))
  k_with "klt" => skip
  k_with "k_all" => first | exact List.forall_mem_nil _ | (with_reducible refine List.forall_mem_cons.mpr ⟨?_, ?_⟩; (focus k_ne); k_all) | with_reducible assumption | with_reducible exact allLt_off (by with_reducible assumption) | with_reducible exact lt_off (by with_reducible assumption) | with_reducible exact off1_off (by with_reducible assumption) | with_reducible exact off3_1 (by with_reducible assumption) | with_reducible exact off3_2 (by with_reducible assumption) | with_reducible exact off3_3 (by with_reducible assumption) | (with_reducible refine GrowK.off (by with_reducible assumption) ?_ ?_; (focus simp only [List.mem_cons, true_or, or_true]); k_all)
  k_with "tb_rel" => with_reducible first | assumption | exact sub_self | (refine sub_tail ?_; tb_rel) | (refine sub_growK (by assumption) ?_; tb_rel) | (refine sub_app ?_ ?_; (focus tb_rel); tb_rel) | (refine sub_consApp ?_; tb_rel) | (refine sub_appL ?_; tb_rel) | (refine sub_appR ?_; tb_rel)
  k_with "k_mem" => (refine sub_mem ?_ (by assumption); tb_rel)
  k_with "tb_start" => first | assumption | (refine NumIn.mono (by assumption) ?_; tb_rel)
  k_with "call ref" => ((with_reducible show wpAny _ _ (call (Value.ref 194) _) _ _ _); first | (k_dflt (refine' Calls.use ?k1_275 ?k2_275 ?k3_275 ?k4_275 ?k5_275 ?kK_275 ?C_275 ?kd_275 ?ku_275 ?_; (case k1_275 => k_asm); (case k2_275 => k_asm); (case k3_275 => k_asm); (case k4_275 => k_asm); (case k5_275 => k_asm); (case kK_275 => first | exact rfl | assumption); (case C_275 => exact same_spec _ _ _ _ _ _ (by tb_start) (by tb_start)); (case kd_275 => first | exact fastD (by assumption) (by decide) | lgec_go | (walk_say "SLOW ROOM"; ktr_room)); (case ku_275 => first | exact fastU (by assumption) (by decide) | lgec_go | (walk_say "SLOW UNITS"; ktr_units)); k_whole; intro r' n' h' tk' F' N' hr'; refine hideG ?_; intro G0; (obtain ⟨e1', e2'⟩ := hr'); subst e1'; replace e2' := Eq.symm e2'; subst e2'; (dsimp only [G0]); (try clear G0); (try k_sweep))) | refine Stop.mk ?_)
  k_with "exec While" => ((with_reducible show wpAny _ _ (exec (Stmt.While _ _ _ _) _) _ _ _); refine Stop.mk ?_)
  k_with "exec While Compare" => ((with_reducible show wpAny _ _ (exec (Stmt.While _ _ _ _) _) _ _ _); refine Stop.mk ?_)
  k_with "exec While BoolOp" => ((with_reducible show wpAny _ _ (exec (Stmt.While _ _ _ _) _) _ _ _); refine Stop.mk ?_)
  k_with "exec While Name" => ((with_reducible show wpAny _ _ (exec (Stmt.While _ _ _ _) _) _ _ _); refine Stop.mk ?_)
  k_with "exec While Compare cons nil" => ((with_reducible show wpAny _ _ (exec (Stmt.While _ _ _ _) _) _ _ _); refine Stop.mk ?_)
  k_with "call builtin:len" => ((with_reducible show wpAny _ _ (call (Value.builtin "len") [Value.ref _]) _ _ _); k_dflt (refine' lst_len ?k1_281 ?k2_281 ?k3_281 ?_; (case k1_281 => k_asm); (case k2_281 => k_mem); (case k3_281 => lgec_go); k_whole))
  k_with "truthy ref" => (k_dflt (refine' lst_truthy ?k1_282 ?k2_282 ?k3_282 ?_; (case k1_282 => k_asm); (case k2_282 => k_mem); (case k3_282 => lgec_go); k_whole))
  k_with "call builtin:list.append" => ((with_reducible show wpAny _ _ (call (Value.builtin _) [Value.ref _, _]) _ _ _); k_dflt (refine' lst_append ?k1_283 ?k2_283 ?k3_283 ?k4_283 ?_; (case k1_283 => k_asm); (case k2_283 => k_asm); (case k3_283 => k_upd); (case k4_283 => lgec_go); k_whole); intro h' F' N'; (try k_sweep))
  k_with "call builtin:list.extend" => ((with_reducible show wpAny _ _ (call (Value.builtin _) [Value.ref _, Value.ref _]) _ _ _); k_dflt (refine' lst_extend ?k1_284 ?k2_284 ?k3_284 ?k4_284 ?k5_284 ?_; (case k1_284 => k_asm); (case k2_284 => k_asm); (case k3_284 => k_updF); (case k4_284 => k_mem); (case k5_284 => first | (simp only [List.length_take, List.length_drop, List.length_append, List.length_cons, List.length_nil]; lgec_go) | lgec_go); k_whole); intro h' n' F' N'; (try dsimp only at N'); (try k_sweep))
  k_with "binaryOp Add" => ((with_reducible show wpAny _ _ (binaryOp Operator.Add (Value.ref _) (Value.ref _)) _ _ _); k_dflt (refine' lst_add ?k1_285 ?k2_285 ?k3_285 ?k4_285 ?k5_285 ?_; (case k1_285 => k_asm); (case k2_285 => k_asm); (case k3_285 => k_mem); (case k4_285 => k_mem); (case k5_285 => first | (simp only [List.length_cons, List.length_nil]; lgec_go) | lgec_go); k_whole); intro l' h' F' N' l1; (try k_lt l1); (try k_sweep))
  k_with "binaryOp Add ref ref" => ((with_reducible show wpAny _ _ (binaryOp Operator.Add (Value.ref _) (Value.ref _)) _ _ _); k_dflt (refine' lst_add ?k1_286 ?k2_286 ?k3_286 ?k4_286 ?k5_286 ?_; (case k1_286 => k_asm); (case k2_286 => k_asm); (case k3_286 => k_mem); (case k4_286 => k_mem); (case k5_286 => first | (simp only [List.length_cons, List.length_nil]; lgec_go) | lgec_go); k_whole); intro l' h' F' N' l1; (try k_lt l1); (try k_sweep))
  k_with "subscriptTail Name Slice ref ref" => ((with_reducible show wpAny _ _ (subscriptTail _ _ (Value.ref _) (Value.ref _)) _ _ _); k_dflt (refine' lst_slice ?k1_287 ?k2_287 ?k3_287 ?k4_287 ?k5_287 ?k6_287 ?_; (case k1_287 => k_asm); (case k2_287 => k_asm); (case k3_287 => k_mem); (case k4_287 => lgec_go); (case k5_287 => lgec_go); (case k6_287 => lgec_go); k_whole); intro l' h' F' N' l1; (try k_lt l1); (try k_sweep))
  k_with "SrcLP" => (first | k_dflt (refine LCp.SrcLP.ledger (by rfl) (by k_asm) (by k_asm) (by k_mem) ?sz_288 ?_; (case sz_288 => rw [List.size_toArray, sizeLine_eq]; lgec_go); intro g'; refine Stop.mk ?_) | refine Stop.mk ?_)
  k_with "CompSrc" => (first | k_dflt (first | (refine LCg.CompSrc.ledger (by rfl) (by k_asm) (by k_asm) (by k_mem) ?sz_289 ?_; (case sz_289 => rw [List.size_toArray, sizeLine_eq]; lgec_go); intro g'; refine Stop.mk ?_) | (refine LCg.CompSrc.range (by rfl) (by k_asm) (by k_asm) (by assumption) (range_small (by first | decide | lgec_go) (by first | decide | lgec_go) (by lgec_go) (by lgec_go)) (by first | exact range_n0 | exact range_n) ?sz_289 ?_; (case sz_289 => rw [sizeLine_eq]; lgec_go); intro g'; refine Stop.mk ?_)) | refine Stop.mk ?_)
  k_with "CompSrcT" => (first | k_dflt (first | (refine LCt.CompSrcT.ledger (by rfl) (by k_asm) (by k_asm) (by k_mem) ?sz_290 ?_; (case sz_290 => rw [List.size_toArray, sizeLine_eq]; lgec_go); intro g'; refine Stop.mk ?_) | (refine LCt.CompSrcT.range (by rfl) (by k_asm) (by k_asm) (by assumption) (range_small (by first | decide | lgec_go) (by first | decide | lgec_go) (by lgec_go) (by lgec_go)) (by first | exact range_n0 | exact range_n) ?sz_290 ?_; (case sz_290 => rw [sizeLine_eq]; lgec_go); intro g'; refine Stop.mk ?_)) | refine Stop.mk ?_)
  k_with "call ref" => ((with_reducible show wpAny _ _ (call (Value.ref 381) _) _ _ _); first | (k_dflt (refine' Calls.use ?k1_291 ?k2_291 ?k3_291 ?k4_291 ?k5_291 ?kK_291 ?C_291 ?kd_291 ?ku_291 ?_; (case k1_291 => k_asm); (case k2_291 => k_asm); (case k3_291 => k_asm); (case k4_291 => k_asm); (case k5_291 => k_asm); (case kK_291 => first | exact rfl | assumption); (case C_291 => exact runparts_spec _ _ _ _ _ _ _ (by k_mem) (by assumption) (by tb_rel) (by lgec_go) (by assumption)); (case kd_291 => first | exact fastD (by assumption) (by decide) | lgec_go | (walk_say "SLOW ROOM"; ktr_room)); (case ku_291 => first | exact fastU (by assumption) (by decide) | lgec_go | (walk_say "SLOW UNITS"; ktr_units)); k_whole; intro r' n' h' tk' F' N' hr'; refine hideG ?_; intro G0; (obtain ⟨d', ws', n2', new', rows', hA', hd', hR', hS', hO', hwl'⟩ := hr'); (first | (obtain ⟨rest', htl', N9', hG', hsn'⟩ := gro6 N' hA') | (obtain ⟨rest', htl', N9', hG', hsn'⟩ := gro5 N' hA') | (obtain ⟨rest', htl', N9', hG', hsn'⟩ := gro4 N' hA') | (obtain ⟨rest', htl', N9', hG', hsn'⟩ := gro3 N' hA') | (obtain ⟨rest', htl', N9', hG', hsn'⟩ := gro2 N' hA') | (obtain ⟨rest', htl', N9', hG', hsn'⟩ := gro1 N' hA') | (obtain ⟨rest', htl', N9', hG', hsn'⟩ := gro0 N' hA')); clear N'; (try dsimp only at hG'); (dsimp only [G0]); (try clear G0); (try k_sweep))) | refine Stop.mk ?_)
  k_with "call builtin:sorted" => ((with_reducible show wpAny _ _ (call (Value.builtin "sorted") [Value.ref _]) _ _ _); k_dflt (refine' dict_sorted ?k0_292 ?k1_292 ?k2_292 ?k3_292 ?k4_292 ?k5_292 ?k6_292 ?k7_292 ?_; (case k0_292 => rfl); (case k1_292 => k_asm); (case k2_292 => k_asm); (case k3_292 => k_mem); (case k4_292 => assumption); (case k5_292 => assumption); (case k6_292 => assumption); (case k7_292 => lgec_go); k_whole); intro D' h' tk' svs' sn' F' N' l1 hI'; (have hsl' := IntsAre.length hI'); (simp only [List.length_map] at hsl'); (try k_lt l1); (try k_sweep))
  k_with "subscriptTail" => ((with_reducible show wpAny _ _ (subscriptTail _ _ (Value.ref _) (Value.int _ _)) _ _ _); k_dflt (refine' dict_item ?k1_293 ?k2_293 ?k3_293 ?k4_293 ?_; (case k1_293 => k_asm); (case k2_293 => k_mem); (case k3_293 => assumption); (case k4_293 => assumption)))
  k_with "subscriptTail" => ((with_reducible show wpAny _ _ (subscriptTail _ _ (Value.ref _) (Value.int (-1) _)) _ _ _); k_dflt (refine' run_last ?k1_294 ?k2_294 ?k3_294 ?k4_294 ?k5_294 ?_; (case k1_294 => k_asm); (case k2_294 => k_mem); (case k3_294 => assumption); (case k4_294 => lgec_go); (case k5_294 => lgec_go)); (intro t' c' ct' v' k' q' hg' hm' hn'))
  trivial
local macro_rules | `(tactic| walk_at "pyIter ref") => `(tactic| ((with_reducible show wpAny _ _ (pyIter (Value.ref _)) (fun it s₂ => LoopAtV _ _ _ _ _ _ _ _ _ it s₂) _ _); refine Stop.mk ?_))
theorem kw_Q5_1 : True := by
  k_with "call builtin:list.pop" => ((with_reducible show wpAny _ _ (call (Value.builtin _) [Value.ref _, Value.int _ _]) _ _ _); k_dflt (refine' lst_pop0 ?k1_295 ?k2_295 ?k3_295 ?k4_295 ?_; (case k1_295 => k_asm); (case k2_295 => k_asm); (case k3_295 => k_upd); (case k4_295 => first | lgec_go | (simp only [List.length_cons] at *; lgec_go)); k_whole); intro h' F' N'; (try k_sweep))
  k_with "call type:list" => ((with_reducible show wpAny _ _ (call (Value.type _) [Value.ref _]) _ _ _); k_dflt (refine' lst_copy ?k1_296 ?k2_296 ?k3_296 ?k4_296 ?_; (case k1_296 => k_asm); (case k2_296 => k_asm); (case k3_296 => k_mem); (case k4_296 => lgec_go); k_whole); intro D' c' h' F' N' l1; (try k_lt l1); (try k_sweep))
  k_with "subscriptTail" => ((with_reducible show wpAny _ _ (subscriptTail _ _ (Value.ref _) (Value.int _ _)) _ _ _); k_dflt (refine' nums_item ?k1_297 ?k2_297 ?k3_297 ?k4_297 ?k5_297 ?k6_297 ?_; (case k1_297 => k_asm); (case k2_297 => k_mem); (case k3_297 => assumption); (case k4_297 => lgec_go); (case k5_297 => lgec_go); (case k6_297 => lgec_go)); (intro v' q' hg' hn'))
  k_with "eval ListComp" => (first | ((with_reducible show wpAny _ _ (eval (PySem.Expr.ListComp _ [PySem.Comprehension.mk (PySem.Expr.Tuple _ _ _) _ [_] _] _ _) _) _ _ _); refine Stop.mk ?_) | (lct_look; k_dflt (refine LCt.ListComp_T (F₀ := by k_asm) (by with_unfolding_all rfl) (by decide) (by rfl) (by decide) (by rfl) ?_); k_dflt lct_toSrc) | (lcp_look; k_dflt (refine LCp.ListComp_P (F₀ := by k_asm) (by with_unfolding_all rfl) (by decide) (by rfl) (by decide) (by rfl) (by rfl) (by decide) ?_); k_dflt lcp_toSrc) | ((first | lcg_look | lcf_look); k_dflt (refine LCg.ListComp_U (F₀ := by k_asm) (by with_unfolding_all rfl) (by decide) (by rfl) (by decide) (by rfl) ?_); k_dflt lcg_toSrc) | refine Stop.mk ?_)
  k_with "exec Assign cons ListComp" => (first | (lct_look; k_dflt (refine LCt.Assign_ListComp_T (F₀ := by k_asm) (by rfl) (by with_unfolding_all rfl) (by with_unfolding_all rfl) (by decide) (by rfl) (by decide) (by rfl) (by rfl) (by rfl) ?_); k_dflt lct_toSrc) | (lcp_look; k_dflt (refine LCp.Assign_ListComp_P (F₀ := by k_asm) (by rfl) (by with_unfolding_all rfl) (by with_unfolding_all rfl) (by decide) (by rfl) (by decide) (by rfl) (by rfl) (by decide) (by rfl) (by rfl) ?_); k_dflt lcp_toSrc) | ((first | lcg_look | lcf_look); k_dflt (refine LCg.Assign_ListComp_U (F₀ := by k_asm) (by rfl) (by with_unfolding_all rfl) (by with_unfolding_all rfl) (by decide) (by rfl) (by decide) (by rfl) (by rfl) (by rfl) ?_); k_dflt lcg_toSrc))
  trivial
inductive OpJ (w : World) (news ro : Led) (D pa L : Addr) (all : List Row) (m : Str → Option Value) : Nat → Led → Prop
  | mk (rr : List Row) (told : List CW) (lvs : List Value) (ln : Nat) (pvs : List Value) (pn : Nat) (lg : Int) (tg : Tok) (x1 x2 x3 : Obj) (u1 u2 u3 : Option Value) (tnew : Led) :
    Has m [(Str.ofString "pairs", .ref pa), (Str.ofString "longest", .int lg tg), (Str.ofString "left", .ref D)] → x1.data = .cell u1 → x2.data = .cell u2 → x3.data = .cell u3 → Apart [(D, dm), (pa, dm), (L + 1 + 1 + 1, dm), (L + 1 + 1, dm), (L + 1, dm)] (tnew ++ news) → Apart news tnew →
    RowsIn w ro lvs rr → RunIn w (tnew ++ ro) pvs told → told ++ expand rr = expand all → (∀ row ∈ rr, row ∈ all) → 0 ≤ lg → lg ≤ 3 → lvs.length ≤ 1000 →
    OpJ w news ro D pa L all m rr.length ((D, PySem.W.listOf lvs.toArray ln) :: (pa, PySem.W.listOf pvs.toArray pn) :: (L + 1 + 1 + 1, x1) :: (L + 1 + 1, x2) :: (L + 1, x3) :: (tnew ++ news))
inductive OpR (w : World) (news ro : Led) (rows : List Row) : Value → Led → Prop
  | mk (t pr : Addr) (pvs : List Value) (pn : Nat) (lg : Int) (tk : Tok) (k : Nat) (new : Led) : Apart news new → (t, tup2 (.ref pr) (.int lg tk) k) ∈ new → (pr, PySem.W.listOf pvs.toArray pn) ∈ new → RunIn w (new ++ ro) pvs (expand rows) → lg ≤ 3 → OpR w news ro rows (.ref t) (new ++ news)
inductive OpC (w : World) (news ro tail : Led) (D pa L : Addr) (o1 o2 o3 o4 o5 : Obj) (told : List CW) (ys : List Value) : Led → Prop
  | mk (cnew : Led) : Apart [(D, dm), (pa, dm), (L + 1 + 1 + 1, dm), (L + 1 + 1, dm), (L + 1, dm)] cnew → Apart news cnew → RunIn w (cnew ++ ro) ys told → OpC w news ro tail D pa L o1 o2 o3 o4 o5 told ys ((D, o1) :: (pa, o2) :: (L + 1 + 1 + 1, o3) :: (L + 1 + 1, o4) :: (L + 1, o5) :: (cnew ++ tail))
inductive OpK (D pa : Addr) (qs : List Num) (k : Nat) (m : Str → Option Value) : Prop
  | mk (ar : Nat) (ta : Tok) (lg2 : Int) (tg2 : Tok) : Has m [(Str.ofString "pairs", .ref pa), (Str.ofString "longest", .int lg2 tg2), (Str.ofString "left", .ref D), (Str.ofString "alike_row", .int ar ta)] → OpInv qs k ar → 0 ≤ lg2 → lg2 ≤ 3 → OpK D pa qs k m
theorem opened_spec (w : World) (news ro : Led) (l : Addr) (vs : List Value) (n : Nat) (rows : List Row) (hm : (l, PySem.W.listOf vs.toArray n) ∈ news) (R : RowsIn w ro vs rows) (hro : ∀ y ∈ ro, y ∈ news) (hz : vs.length ≤ 1000)
    (hok : ∀ row ∈ rows, RowOk row) (hlen : (expand rows).length ≤ 100) (hb : ∀ x ∈ expand rows, 0 ≤ x.1 ∧ x.1 < 10000) :
    Calls w 419 10 [.ref l] news (OpR w news ro rows) := by
  intro mean mg mb dp un gd cn cs a ccd cl outer A₀ base h₀ L m s Q E B F X N T hk hd hu hret
  k_steps
  refine Stop.on ?_
  rename_i lL c1 c2 c3 dc1 dc2 dc3 pa _ hp1 hp2 hp3 hpn _ _ _ _ hD1 hD2 hD3 hD4 _ F1 N1
  refine While_inv2 (n₀ := rows.length) (fun n' m news' => OpJ w news ro D' pa L' rows m n' news') F1 N1 ?h0 ?turn (by passes_own)
  case h0 =>
    exact .mk rows [] _ _ [] _ _ _ _ _ _ _ _ _ [] ⟨rfl, rfl, rfl, trivial⟩ dc1 dc2 dc3 (by
      intro q hq y hy
      simp only [List.mem_cons, List.not_mem_nil, or_false] at hq
      have h1 : @LT.lt Nat _ y.1 L' := lL y hy
      have h2 := allLt_lt hpn y hy
      have h3 := allLt_lt l1 y hy
      rcases hq with rfl | rfl | rfl | rfl | rfl
      · exact Nat.ne_of_lt h3
      · exact Nat.ne_of_lt h2
      · show @Ne Nat y.1 (L' + 1 + 1 + 1); lgec_go
      · show @Ne Nat y.1 (L' + 1 + 1); lgec_go
      · show @Ne Nat y.1 (L' + 1); lgec_go) Apart.nil R .nil rfl (fun _ h => h) (Int.le_refl _) (by decide) hz
  case turn =>
    rintro n' m₁ news₁ h₁ tk₁ F2 N2 hX9
    revert N2
    obtain ⟨rr, told, lvs, ln, pvs, pn, lg, tg, x1, x2, x3, u1, u2, u3, tnew, hma, dx1, dx2, dx3, hAh, hAp, hR, hRun, htold, hsub, hlg0, hlg3, hlz⟩ := hX9
    intro N2
    replace F2 := pinned F2 hma
    simp only [pin] at F2
    have hro1 : ∀ y ∈ ro, y ∈ tnew ++ news := sub_appR hro
    have hro2 : ∀ y ∈ tnew ++ ro, y ∈ tnew ++ news := sub_app (sub_appL sub_self) (sub_appR hro)
    have hnt : ∀ y ∈ news, y ∈ tnew ++ news := sub_appR sub_self
    have hrr2 : ∀ y ∈ ro, y ∈ tnew ++ ro := sub_appR sub_self
    have oD := Apart.off hAh (.head _)
    have oP := Apart.off hAh (.tail _ (.head _))
    have o3 := Apart.off hAh (.tail _ (.tail _ (.head _)))
    have o2 := Apart.off hAh (.tail _ (.tail _ (.tail _ (.head _))))
    have o1 := Apart.off hAh (.tail _ (.tail _ (.tail _ (.tail _ (.head _)))))
    have hrl := hRun.length
    have htl0 : told.length ≤ 100 := by have := congrArg List.length htold; rw [List.length_append] at this; lgec_go
    generalize htl : tnew ++ news = tail at *
    generalize hr2 : tnew ++ ro = ro2 at *
    (refine hideG ?_; intro G0)
    cases hR with
    | nil =>
      (dsimp only [G0]); clear G0
      k_steps
      rename News h₀ L _ _ => N6
      rename AllLt _ tail => hlT
      have oT := off_sub (allLt_off hlT) hnt
      try clear hlT
      try clear hro1
      try clear hro2
      try clear hnt
      try clear hrr2
      try clear oD
      try clear oP
      try clear o3
      try clear o2
      try clear o1
      try clear hbs
      subst htl hr2
      have htd : told = expand rows := by rw [← htold]; exact (List.append_nil told).symm
      rw [htd] at hRun
      exact hret _ _ _ _ (by k_asm) (news_oe N6) (.mk _ pa pvs _ lg _ _ (_ :: _ :: _ :: _ :: _ :: _ :: _) (Apart.cons oT (Apart.cons (allLt_off l1) (Apart.cons (allLt_off hpn) (Apart.cons (fun q hq => Nat.ne_of_lt (Nat.lt_of_lt_of_le (lL q hq) (by lgec_go))) (Apart.cons (fun q hq => Nat.ne_of_lt (Nat.lt_of_lt_of_le (lL q hq) (by lgec_go))) (Apart.cons (fun q hq => Nat.ne_of_lt (Nat.lt_of_lt_of_le (lL q hq) (by lgec_go))) hAp)))))) (.head _) (.tail _ (.tail _ (.head _))) (hRun.mono (by tb_rel)) hlg3)
    | listed hml hqs hR' =>
      (dsimp only [G0]); clear G0
      rename_i l2 c t n2 ws vs' qs r'
      have hcons : 0 < (Value.int c t :: Value.ref l2 :: vs').length := Nat.succ_pos _
      have hml1 := hro1 _ hml
      have hql := hqs.length
      have hqz : qs.length ≤ 100 := by
        have h1 := congrArg List.length htold
        rw [expand_cons, List.length_append, List.length_append] at h1
        have h2 : (expandRow (.listed c qs)).length = qs.length := listedCW_length qs c
        lgec_go
      k_steps
      refine Stop.on ?_
      rename_i oA dA _ _ oB _ _ dB _ _ _ _ _ _ _ _ _ N3 _
      refine comp_inv (fun i ys news₁ => OpC w news ro2 tail D' pa L' (PySem.W.listOf vs'.toArray (ln + 1 + 1)) (PySem.W.listOf pvs.toArray pn) x1 oB oA (listedCW c (qs.take i)) ys news₁) (.mk [] Apart.nil Apart.nil .nil) ?turn1 ?fin1
      case turn1 =>
        rintro i ys news₁ v I oI C oC D m₂ h tk E' hi ⟨cnew, hc1, hc2, hc3⟩ ⟨tv, rfl⟩ hC hx F2 N2 off ne
        (refine hideG ?_; intro G0)
        obtain ⟨ne1, ne2, ne3⟩ := ne
        (dsimp only [G0]); clear G0
        simp only [LCg.Off3] at off
        (refine hideG ?_; intro G0)
        obtain ⟨⟨oa1, oa2, oa3⟩, ⟨ob1, ob2, ob3⟩, ⟨oc1, oc2, oc3⟩, ⟨od1, od2, od3⟩, ⟨oe1, oe2, oe3⟩, off⟩ := off
        (dsimp only [G0]); clear G0
        rw [hql] at hi
        have ht2 : ∀ y ∈ tail, y ∈ cnew ++ tail := sub_appR sub_self
        have hro3 : ∀ y ∈ ro, y ∈ cnew ++ tail := sub_appR hro1
        generalize htl2 : cnew ++ tail = tail2 at *
        k_steps
        rename News _ _ _ (_ :: _ :: _ :: _ :: _ :: _ :: _ :: _ :: _ :: tail2) => N5
        rename AllLt _ tail2 => hl5
        have hg2 : qs[i]? = some q' := by simpa using hg'
        have e : c + (0 + (i : Int)) = c + i := by lgec_go
        refine LCg.CompEnd.intro (by k_asm) N5 (_ :: _ :: _ :: _ :: _ :: _ :: tail2) comp_sub5 (off3_mk (by k_all) (by k_all) (by k_all)) trivial (htl2 ▸ .mk ((_, _) :: cnew) (Apart.cons (by k_all) hc1) (Apart.cons (off_sub (allLt_off hl5) fun y hy => ht2 y (hnt y hy)) hc2) ?_)
        rw [listedCW_take qs c i q' hg2, ← e]
        exact (hc3.mono (by tb_rel)).snoc (.head _) (hn'.mono (by tb_rel))
      case fin1 =>
        rintro ys news' ⟨cnew, hc1, hc2, hc3⟩
        have ht2 : ∀ y ∈ tail, y ∈ cnew ++ tail := sub_appR sub_self
        have hro3 : ∀ y ∈ ro, y ∈ cnew ++ tail := sub_appR hro1
        have oD' := off_app (Apart.off hc1 (.head _)) oD
        have oP' := off_app (Apart.off hc1 (.tail _ (.head _))) oP
        have o3' := off_app (Apart.off hc1 (.tail _ (.tail _ (.head _)))) o3
        have o2' := off_app (Apart.off hc1 (.tail _ (.tail _ (.tail _ (.head _))))) o2
        have o1' := off_app (Apart.off hc1 (.tail _ (.tail _ (.tail _ (.tail _ (.head _)))))) o1
        have hcl := hc3.length
        rw [hql, List.take_of_length_le (by lgec_go), listedCW_length] at hcl
        generalize htl2 : cnew ++ tail = tail2 at *
        k_steps
        refine Stop.on ?_
        rename_i hr3 F3 N3 _
        have hrow := hok _ (hsub _ (.head _))
        refine loop_rangeC (J := OpK D' pa qs) rfl hr3 (range_small (by decide) (by decide) (by lgec_go) (by lgec_go)) range_n0 F3 N3 ?h3 ?turn3 ?done3
        case h3 => exact .mk 0 _ lg tg ⟨rfl, rfl, rfl, rfl, trivial⟩ (OpInv.start qs) hlg0 hlg3
        case turn3 =>
          rintro k tk m₁ I oI h tk2 hk ⟨ar, ta, lg2, tg2, hma, hOp, hl0, hl3⟩ offI F2 N2
          replace F2 := pinned1 F2 hma
          simp only [pin] at F2
          k_steps
          · have hOp' := hOp.more' hrow (by assumption) (by assumption) (by assumption) (by assumption)
            have h3 := hOp'.le3
            exact ⟨_, _, _, _, rfl, by k_asm, by k_asm, offI, .mk (ar + 1) _ _ _ ⟨rfl, rfl, rfl, read_int_eq rfl (by lgec_go), trivial⟩ hOp' (by split <;> lgec_go) (by split <;> lgec_go), rfl⟩
          · exact ⟨_, _, _, _, rfl, by k_asm, by k_asm, offI, .mk 1 _ _ _ ⟨rfl, rfl, rfl, rfl, trivial⟩ hOp.reset (by split <;> lgec_go) (by split <;> lgec_go), rfl⟩
          · exact ⟨_, _, _, _, rfl, by k_asm, by k_asm, offI, .mk 1 _ _ _ ⟨rfl, rfl, rfl, rfl, trivial⟩ hOp.reset (by split <;> lgec_go) (by split <;> lgec_go), rfl⟩
        case done3 =>
          rintro m₁ h tk ⟨ar, ta, lg2, tg2, hma, hOp, hl0, hl3⟩ F2 N2
          replace F2 := pinned F2 hma
          simp only [pin] at F2
          k_steps
          (refine hideG ?_; intro G0)
          obtain ⟨ho1, ho2, ho3, ho4, ho5, ho6⟩ := (by assumption : @Ne Nat D' _ ∧ @Ne Nat pa _ ∧ @Ne Nat (L' + 1 + 1 + 1) _ ∧ @Ne Nat (L' + 1 + 1) _ ∧ @Ne Nat (L' + 1) _ ∧ LCg.Off1 _ tail2)
          (dsimp only [G0]); clear G0
          have oN := off_sub (off1_off ho6) (fun y hy => ht2 y (hnt y hy))
          try clear ho6
          try clear ht2
          try clear hnt
          try clear hro1
          try clear hro2
          try clear hrr2
          try clear oD'
          try clear oP'
          try clear o3'
          try clear o2'
          try clear o1'
          try clear oD
          try clear oP
          try clear o3
          try clear o2
          try clear o1
          try clear hro3
          try clear hml1
          try clear hml
          try clear hcl
          try clear hrl
          subst htl2 htl hr2
          rw [hql, List.take_of_length_le (by lgec_go)] at hc3
          exact wstep (n' := r'.length) (by k_asm) (news_op N2) (Nat.lt_succ_self _) (.mk r' (told ++ listedCW c qs) vs' _ (pvs ++ ys) _ lg2 _ x1 oB oA _ _ _ _ ⟨rfl, rfl, rfl, trivial⟩ dx1 dB dA (Apart.app (Apart.cons (List.forall_mem_cons.mpr ⟨ho1, List.forall_mem_cons.mpr ⟨ho2, List.forall_mem_cons.mpr ⟨ho3, List.forall_mem_cons.mpr ⟨ho4, List.forall_mem_cons.mpr ⟨ho5, List.forall_mem_nil _⟩⟩⟩⟩⟩) (Apart.app hc1 (hAh.sub (fun q hq => hq) fun y hy => List.mem_append_left _ hy))) (hAh.sub (fun q hq => hq) fun y hy => List.mem_append_right _ hy)) (Apart.cons oN (Apart.app hc2 hAp)) hR' ((hRun.mono (by tb_rel)).app (hc3.mono (by tb_rel))) (told_step htold) (fun row hr => hsub row (.tail _ hr)) hl0 hl3 (by simp only [List.length_cons] at hlz; lgec_go))
    | span hn hR' =>
      (dsimp only [G0]); clear G0
      rename_i ra rb t t2 v q vs' r'
      have hcons : 0 < (Value.int ra t :: Value.int rb t2 :: v :: vs').length := Nat.succ_pos _
      have hrow : ra ≤ rb := hok _ (hsub _ (.head _))
      obtain ⟨hra, hrb⟩ := span_bounds hrow fun x hx => hb x (mem_expand (hsub _ (.head _)) hx)
      have hqz : (rb + 1 - ra).toNat ≤ 100 := by
        have h1 := congrArg List.length htold
        rw [expand_cons, List.length_append, List.length_append] at h1
        have h2 : (expandRow (.span ra rb q)).length = (rb - ra + 1).toNat := spanCW_length _ _ _
        lgec_go
      k_steps
      refine Stop.on ?_
      rename_i oA dA _ _ _ oB dB _ _ _ _ oC _ _ dC _ _ _ _ _ _ _ N3 _
      refine comp_inv (fun i ys news₁ => OpC w news ro2 tail D' pa L' (PySem.W.listOf vs'.toArray (ln + 1 + 1 + 1)) (PySem.W.listOf pvs.toArray pn) oC oB oA (spanCW ra i q) ys news₁) (.mk [] Apart.nil Apart.nil .nil) ?turn2 ?fin2
      case turn2 =>
        rintro i ys news₁ v I oI C oC D m₂ h tk E' hi ⟨cnew, hc1, hc2, hc3⟩ ⟨tv, rfl⟩ hC hx F2 N2 off ne
        (refine hideG ?_; intro G0)
        obtain ⟨ne1, ne2, ne3⟩ := ne
        (dsimp only [G0]); clear G0
        simp only [LCg.Off3] at off
        (refine hideG ?_; intro G0)
        obtain ⟨⟨oa1, oa2, oa3⟩, ⟨ob1, ob2, ob3⟩, ⟨oc1, oc2, oc3⟩, ⟨od1, od2, od3⟩, ⟨oe1, oe2, oe3⟩, off⟩ := off
        (dsimp only [G0]); clear G0
        have ht2 : ∀ y ∈ tail, y ∈ cnew ++ tail := sub_appR sub_self
        generalize htl2 : cnew ++ tail = tail2 at *
        k_steps
        rename News _ _ _ (_ :: _ :: _ :: _ :: _ :: _ :: _ :: _ :: _ :: tail2) => N5
        rename AllLt _ tail2 => hl5
        refine LCg.CompEnd.intro (by k_asm) N5 (_ :: _ :: _ :: _ :: _ :: _ :: tail2) comp_sub5 (off3_mk (by k_all) (by k_all) (by k_all)) trivial (htl2 ▸ .mk ((_, _) :: cnew) (Apart.cons (by k_all) hc1) (Apart.cons (off_sub (allLt_off hl5) fun y hy => ht2 y (hnt y hy)) hc2) ?_)
        rw [spanCW_snoc]
        exact (hc3.mono (by tb_rel)).snoc (.head _) (hn.mono (by tb_rel))
      case fin2 =>
        rintro ys news' ⟨cnew, hc1, hc2, hc3⟩
        have ht2 : ∀ y ∈ tail, y ∈ cnew ++ tail := sub_appR sub_self
        have oP' := off_app (Apart.off hc1 (.tail _ (.head _))) oP
        have hcl := hc3.length
        rw [spanCW_length] at hcl
        generalize htl2 : cnew ++ tail = tail2 at *
        k_steps
        (refine hideG ?_; intro G0)
        obtain ⟨ho1, ho2, ho3, ho4, ho5, ho6⟩ := (by assumption : @Ne Nat D' _ ∧ @Ne Nat pa _ ∧ @Ne Nat (L' + 1 + 1 + 1) _ ∧ @Ne Nat (L' + 1 + 1) _ ∧ @Ne Nat (L' + 1) _ ∧ LCg.Off1 _ tail2)
        (dsimp only [G0]); clear G0
        have oN := off_sub (off1_off ho6) (fun y hy => ht2 y (hnt y hy))
        rename News _ _ _ (_ :: _ :: _ :: _ :: _ :: _ :: tail2) => N5
        try clear ho6
        try clear ht2
        try clear hnt
        try clear hro1
        try clear hro2
        try clear hrr2
        try clear oD'
        try clear oP'
        try clear o3'
        try clear o2'
        try clear o1'
        try clear oD
        try clear oP
        try clear o3
        try clear o2
        try clear o1
        try clear hro3
        try clear hml1
        try clear hml
        try clear hcl
        try clear hrl
        subst htl2 htl hr2
        rw [← expandRow_span] at hc3
        exact wstep (n' := r'.length) (by k_asm) (news_op N5) (Nat.lt_succ_self _) (.mk r' (told ++ expandRow (.span ra rb q)) vs' _ (pvs ++ ys) _ lg _ oC oB oA _ _ _ _ ⟨rfl, rfl, rfl, trivial⟩ dC dB dA (Apart.app (Apart.cons (List.forall_mem_cons.mpr ⟨ho1, List.forall_mem_cons.mpr ⟨ho2, List.forall_mem_cons.mpr ⟨ho3, List.forall_mem_cons.mpr ⟨ho4, List.forall_mem_cons.mpr ⟨ho5, List.forall_mem_nil _⟩⟩⟩⟩⟩) (Apart.app (hc1.mono (fun q hq => ⟨q, hq, rfl⟩) fun y hy => hy) (hAh.sub (fun q hq => hq) fun y hy => List.mem_append_left _ hy))) (hAh.sub (fun q hq => hq) fun y hy => List.mem_append_right _ hy)) (Apart.cons oN (Apart.app hc2 hAp)) hR' ((hRun.mono (by tb_rel)).app (hc3.mono (by tb_rel))) (told_step htold) (fun row hr => hsub row (.tail _ hr)) hlg0 hlg3 (by simp only [List.length_cons] at hlz; lgec_go))

end
section
theorem kw_CC_0 : True := by
  k_with_none
  k_with "om" => first | decide | (with_reducible first | apply om28 <;> assumption)
  k_with "k_ne" => (refine neN ?_; (try dsimp only); first | with_reducible assumption | lgec_go)
  k_with "fold_depth" => first | ((with_reducible show wpAny _ (Around.deeper (ktrTop _ _ _ _ _ _ _ _ _ _) _) _ _ _ _); refine wp_fold4 ?_; intro A1 q0 e0) | (refine wp_fold2 ?_; intro q00 e00)
  k_with "fold_lay" => ((show wpAny _ _ _ _ _ _); first | (fail_if_success k_fold) | ((try clear qf); refine wp_fold ?_; intro qf))
  k_with "k_steps" => ((try dsimp only); (try fold_lay); repeat' (first | (k_unfold; (try dsimp only)) | (k_end; wrow_close) | (walk1; (try ((first | (with_reducible show wpAny _ _ (exec _ _) _ _ _) | (with_reducible show wpAny _ _ (execs _ _) _ _ _)); (try dsimp only); fold_lay))) | (dsimp only; walk1) | (leave1; walk_say "STEP leave1"; try dsimp only) | fail "no step"))
  k_with "k_room" => first | exact fastR (by assumption) | ktr_room | (simp only [A1]; ktr_room)
  k_with "k_units" => first | ktr_units | (simp only [A1]; ktr_units)
  k_with "k_enter" => (refine' code_defC ?k1_305 ?k2_305 ?k3_305 ?k4_305 ?k5_305 ?kA_305 ?kF_305 ?kK_305 ?k6_305 ?k7_305 ?k8_305 ?k9_305 ?kB_305 ?kD_305 ?_ ?c2_305 ?c3_305 ?c4_305; (case kA_305 => exact rfl); (case kF_305 => exact rfl); (case kK_305 => assumption); (case k1_305 => k_asm); (case k2_305 => k_asm); (case k3_305 => k_asm); (case k4_305 => k_asm); (case k5_305 => k_asm); (case k6_305 => k_is); (case k7_305 => k_is); (case k8_305 => k_room); (case k9_305 => first | exact BindsTo.of_eq rfl | exact binds_K (by k_in) rfl (by k_is) rfl rfl rfl); (case kB_305 => exact rfl); (case kD_305 => decide +kernel); (case c2_305 => exact rfl); (case c3_305 => exact rfl); (case c4_305 => exact rfl); k_whole; intro g' L' h' tk' cells' FG' F' N' Y' B' X' T' l1; (try k_lt l1); refine hideG ?_; intro G0; k_cells Y'; (dsimp only [G0]); (try clear G0); (try simp only [List.cons_append, List.nil_append] at N'); (try dsimp only); (try fold_depth))
  k_with "k_enter" => (refine' code_def ?k1_306 ?k2_306 ?k3_306 ?k4_306 ?k5_306 ?kA_306 ?kF_306 ?kK_306 ?k6_306 ?k7_306 ?k8_306 ?k9_306 ?kB_306 ?_ ?c2_306 ?c3_306 ?c4_306 ?c5_306; (case kA_306 => exact rfl); (case kF_306 => exact rfl); (case kK_306 => assumption); (case k1_306 => k_asm); (case k2_306 => k_asm); (case k3_306 => k_asm); (case k4_306 => k_asm); (case k5_306 => k_asm); (case k6_306 => k_is); (case k7_306 => k_is); (case k8_306 => k_room); (case k9_306 => first | exact BindsTo.of_eq rfl | exact binds_K (by k_in) rfl (by k_is) rfl rfl rfl); (case c5_306 => decide); (case kB_306 => exact locs rfl); (case c2_306 => exact rfl); (case c3_306 => exact rfl); (case c4_306 => exact rfl); k_whole; intro g' L' h' FG' F' N' B' X' T'; (try dsimp only); (try fold_depth))
  trivial
section
variable {prog : Program} {w : World} {A : Around} {E : Value → Shared → Prop} {s : Shared} {h₀ : Heap} {L : Addr} {m : Str → Option Value} {env : Env}
structure InComp (h₀ : Heap) (L : Addr) (m : Str → Option Value) (I C D : Addr) (oI : Obj) (m' : Str → Option Value) (ys : List Value) (nw : Led) (h : Heap) : Prop where
  F : Fr h₀ L h m
  ns : h.Ns C m'
  it : h.get? I = some oI
  N : News h₀ L h ((D, LCg.lst ys) :: nw)
  off : ∀ p ∈ nw, p.1 ≠ I ∧ p.1 ≠ C ∧ p.1 ≠ D
structure CompApart (h₀ : Heap) (L I C D : Addr) : Prop where
  ic : I ≠ C
  id : I ≠ D
  cd : C ≠ D
  il : I ≠ L
  cl : C ≠ L
  dl : D ≠ L
  i0 : h₀.get? I = none
  c0 : h₀.get? C = none
  d0 : h₀.get? D = none
inductive CompG (prog : Program) (w : World) (A : Around) (E : Value → Shared → Prop) (h₀ : Heap) (L : Addr) (m : Str → Option Value) (env : Env) (Turn : Addr → Env → Addr → Value → (Shared → Prop) → (Value → Shared → Prop) → Shared → Prop) (scope : Scope) (cl : List (Str × Addr)) (Q : Value → Shared → Prop) (s₁ : Shared) : Value → Prop
  | mk (l : Addr) (vs : List Value) (k : Nat) (news : Led) (J : Nat → List Value → Led → Prop) (EP : Addr → (Value → Shared → Prop) → Prop) : A.handled = none → Fr h₀ L s₁.heap m → News h₀ L s₁.heap news → (l, PySem.W.listOf vs.toArray k) ∈ news → vs.length ≤ 1000 → J 0 [] news →
      (∀ i ys nw, J i ys nw → (l, PySem.W.listOf vs.toArray k) ∈ nw) →
      (∀ i ys nw v I C D oI m' h tk (Post : Shared → Prop) (ER : Value → Shared → Prop), vs[i]? = some v → J i ys nw → ys.length ≤ i → CompApart h₀ L I C D → InComp h₀ L m I C D oI m' ys nw h → h.IsListIter I l (i + 1) →
        (∀ h' tk' m'' ys' nw', InComp h₀ L m I C D oI m'' ys' nw' h' → ys'.length ≤ i + 1 → J (i + 1) ys' nw' → Post { s₁ with heap := h', toks := tk' }) → EP C ER →
        Turn I (compEnvC scope cl C env) D v Post ER { s₁ with heap := h, toks := tk }) →
      (∀ D h tk ys nw, J vs.length ys nw → Fr h₀ L h m → News h₀ L h ((D, LCg.lst ys) :: nw) → (∀ p ∈ nw, p.1 ≠ D) → Q (.ref D) { s₁ with heap := h, toks := tk }) →
      (∀ i ys nw C D, J i ys nw → C ≠ L → h₀.get? C = none → (∀ p ∈ nw, p.1 ≠ C) → EP C (notedBy (model prog w) A (compEnvC scope cl C env) fun e s' => compPost (model prog w) A E none Q (.ref D) C (.error e) s')) → CompG prog w A E h₀ L m env Turn scope cl Q s₁ (.ref l)
inductive CompI (h₀ : Heap) (L : Addr) (m : Str → Option Value) (I C D l : Addr) (vs : List Value) (J : Nat → List Value → Led → Prop) (s₁ : Shared) : Nat → Shared → Prop
  | mk (h' : Heap) (tk : Nat) (i : Nat) (ys : List Value) (m' : Str → Option Value) (nw : Led) (oI : Obj) : i ≤ vs.length → ys.length ≤ i → h'.IsListIter I l i → InComp h₀ L m I C D oI m' ys nw h' → J i ys nw → CompI h₀ L m I C D l vs J s₁ (vs.length + 1 - i) { s₁ with heap := h', toks := tk }
theorem comp_core {elt iter target : PySem.Expr} {ifs : List PySem.Expr} {scope : Scope} {cl : List (Str × Addr)} {pos : Pos} {Q : Value → Shared → Prop}
    (Turn : Addr → Env → Addr → Value → (Shared → Prop) → (Value → Shared → Prop) → Shared → Prop)
    (hloop : ∀ (I D : Addr) (cenv : Env) (R : Result → Shared → Prop) (Inv : Nat → Shared → Prop),
      (∀ n s, Inv n s → wpAny (model prog w) A (pyNext (.ref I)) (fun r s₁ => match r with | none => R (.ok .next) s₁ | some v => Turn I cenv D v (fun s₅ => ∃ m, m < n ∧ Inv m s₅) (notedBy (model prog w) A cenv fun e s' => R (.error e) s') s₁) (notedBy (model prog w) A cenv fun e s' => R (.error e) s') s) →
      ∀ n s, Inv n s → codeAny (model prog w) A (.compLoop (.ListComp elt [⟨target, iter, ifs, 0⟩] scope pos) 0 (.ref I) (.ref D) cenv) R s)
    (hclos : closureFor scope env = pure cl) (hcell : ∀ y ∈ scope.names, y.2 ≠ .cell) (hkind : scope.kind = .function)
    (hnames : ∀ y ∈ scope.names, y.2 = .local → scope.names.lookup y.1 = some .local)
    (h : wpAny (model prog w) A (eval iter env) (fun xv s₁ => CompG prog w A E h₀ L m env Turn scope cl Q s₁ xv) E s)
    (hs : ∀ x, foldedSetIterable iter env x = pure x := by intro _; rfl) :
    wpAny (model prog w) A (eval (.ListComp elt [⟨target, iter, ifs, 0⟩] scope pos) env) Q E s := by
  rw [eval_ListComp]
  refine wpAny_comprehension_free (use := none) rfl hs hclos hkind hnames (wpAny_mono h (fun xv s₁ h₁ => ?_) fun _ _ e => e)
  (refine hideG ?_; intro G0)
  obtain ⟨l, vs, k, news, J, EP, hh, F, N, hm, hz, h0, hJl, turn, fin, ep⟩ := h₁
  (dsimp only [G0]); clear G0
  have hl : s₁.heap.IsList l vs.toArray := ⟨_, (N _ hm).1, rfl, _, rfl⟩
  have hlt : l < s₁.heap.objs.size := Heap.lt_size (N _ hm).1
  refine wpAny_pyIter_list hl ?_
  refine wpAny_newObj_type (wpAny_newFunctionEnv hcell (by intro y hy; simp at hy) (fun h₁ hns₁ hsb₁ => ?_) hkind)
  dsimp only at hns₁ hsb₁ ⊢
  -- the three new addresses
  generalize hI : s₁.heap.objs.size = I at *
  generalize hH1 : s₁.heap.push { cls := .type "list_iterator", data := .fields #[.ref l, .int 0 0] } = H1 at *
  have sH1 : H1.objs.size = I + 1 := by rw [← hH1, Heap.size_push, hI]
  generalize hD : H1.objs.size = D at *
  generalize hH2 : H1.push { cls := .type "list", dict := none, data := .seq ([] : List Value).toArray } = H2 at *
  have sH2 : H2.objs.size = D + 1 := by rw [← hH2, Heap.size_push, hD]
  generalize hC : H2.objs.size = C at *
  have hIC : I ≠ C := by rw [sH2, sH1]; exact Nat.ne_of_lt (Nat.lt_succ_of_lt (Nat.lt_succ_self _))
  have hID : I ≠ D := by rw [sH1]; exact Nat.ne_of_lt (Nat.lt_succ_self _)
  have hCD : C ≠ D := by rw [sH2]; exact Nat.ne_of_gt (Nat.lt_succ_self _)
  have low : ∀ b o, s₁.heap.get? b = some o → b < I := fun b o e => hI ▸ Heap.lt_size e
  have lowD : ∀ b, b < I → b ≠ D := fun b hb => by rw [sH1]; exact Nat.ne_of_lt (Nat.lt_succ_of_lt hb)
  have lowC : ∀ b, b < I → b ≠ C := fun b hb => by rw [sH2, sH1]; exact Nat.ne_of_lt (Nat.lt_succ_of_lt (Nat.lt_succ_of_lt hb))
  have old : ∀ b o, s₁.heap.get? b = some o → h₁.get? b = some o := fun b o e => hsb₁.extBut b o (lowC b (low b o e)) (Heap.get?_push_of_some _ (hH2 ▸ Heap.get?_push_of_some _ (hH1 ▸ Heap.get?_push_of_some _ e)))
  have hitH1 : H1.get? I = some { cls := .type "list_iterator", data := .fields #[.ref l, .int 0 0] } := by rw [← hH1, ← hI]; exact Heap.get?_push_size _ rfl
  have hit₁ : h₁.get? I = some { cls := .type "list_iterator", data := .fields #[.ref l, .int 0 0] } := hsb₁.extBut _ _ hIC (Heap.get?_push_of_some _ (hH2 ▸ Heap.get?_push_of_some _ hitH1))
  have hacc : h₁.get? D = some (LCg.lst []) := hsb₁.extBut _ _ (Ne.symm hCD) (Heap.get?_push_of_some _ (by rw [← hH2, ← hD]; exact Heap.get?_push_size _ rfl))
  have fresh : ∀ a, I ≤ a → h₀.get? a = none := fun a ha => by
    cases e : h₀.get? a with
    | none => rfl
    | some o' => exact absurd (low _ _ (F.keep a o' e)) (Nat.not_lt.mpr ha)
  have hLlt : L < I := hI ▸ F.ns.lt
  have ap : CompApart h₀ L I C D := ⟨hIC, hID, hCD, Ne.symm (Nat.ne_of_lt hLlt), Ne.symm (lowC _ hLlt), Ne.symm (lowD _ hLlt), fresh _ (Nat.le_refl _), fresh _ (by rw [sH2, sH1]; exact Nat.le_succ_of_le (Nat.le_succ _)), fresh _ (by rw [sH1]; exact Nat.le_succ _)⟩
  have W : Walks prog w A I [I, l] [I] vs.toArray.size (fun i v => vs.toArray[i]? = some v) (fun i h => h.IsListIter I l i ∧ h.IsList l vs.toArray) := Walks.list hh I l (Nat.ne_of_lt hlt) vs.toArray
  have loop : ∀ s₃ : Shared, s₃ = { s₁ with heap := h₁, toks := s₁.toks + ([] : List (Str × Value)).length } →
      codeAny (model prog w) A (.compLoop (.ListComp elt [⟨target, iter, ifs, 0⟩] scope pos) 0 (.ref I) (.ref D) (compEnvC scope cl C env)) (compPost (model prog w) A E none Q (.ref D) C) s₃ := by
    rintro s₃ rfl
    refine hloop I D _ _ (CompI h₀ L m I C D l vs J s₁) ?_ (vs.length + 1)
      _ ⟨h₁, _, 0, [], _, news, _, Nat.zero_le _, Nat.le_refl _, ⟨_, hit₁, rfl, rfl⟩, ⟨F.keeps old, hns₁, hit₁, fun p hp => ?_, fun p hp => ?_⟩, h0⟩
    · rintro n s' ⟨h', tk, i, ys, m', nw, oI, hi, hyl, hlit, hin, hJ⟩
      have hlist : h'.IsList l vs.toArray := ⟨_, (hin.N _ (.tail _ (hJl _ _ _ hJ))).1, rfl, _, rfl⟩
      by_cases hlt' : i < vs.length
      · refine W.item i _ _ _ (by rw [List.size_toArray]; exact hlt') ⟨hlit, hlist⟩ fun v h₂ tk₂ hPv hst₂ hk₂ => ?_
        have hPv' : vs[i]? = some v := by simpa using hPv
        (refine hideG ?_; intro G0)
        obtain ⟨oI', hoI', hcI, hdI⟩ := hst₂.1
        (dsimp only [G0]); clear G0
        have but : ∀ b o, b ≠ I → h'.get? b = some o → h₂.get? b = some o := fun b o hb e => hk₂ b o (by simpa using hb) e
        have offI := fun p hp => (hin.off p hp).1
        refine turn i ys nw v I C D oI' m' h₂ tk₂ _ _ hPv' hJ hyl ap ⟨⟨hin.F.ns.at' fun o e => but _ o (Ne.symm ap.il) e, fun b o e => but b o (fun q => by rw [q, ap.i0] at e; cases e) (hin.F.keep b o e), hin.F.above⟩, hin.ns.at' fun o e => but _ o (Ne.symm hIC) e, hoI', fun p hp => ?_, hin.off⟩ hst₂.1 (fun h₃ tk₃ m'' ys' nw' hin' hyl' hJ' => ?_) (ep i ys nw C D hJ ap.cl ap.c0 fun p hp => (hin.off p hp).2.1)
        · have z := hin.N p hp
          refine ⟨but _ _ ?_ z.1, z.2⟩
          rcases List.mem_cons.mp hp with rfl | hp
          · exact Ne.symm hID
          · exact offI p hp
        · exact ⟨vs.length + 1 - (i + 1), by lgec_go, h₃, tk₃, i + 1, ys', m'', nw', oI', hlt', hyl', ⟨oI', hin'.it, hcI, hdI⟩, hin', hJ'⟩
      · obtain rfl : i = vs.length := Nat.le_antisymm hi (Nat.not_lt.mp hlt')
        refine W.done _ _ _ (by rw [List.size_toArray]; exact ⟨hlit, hlist⟩) fun h₂ tk₂ hk₂ => ?_
        have but : ∀ b o, b ≠ I → h'.get? b = some o → h₂.get? b = some o := fun b o hb e => hk₂ b o (by simpa using hb) e
        refine ⟨m', hin.ns.at' fun o e => but _ o (Ne.symm hIC) e, fun h'' hs'' => ?_⟩
        have F₂ : Fr h₀ L h₂ m := ⟨hin.F.ns.at' fun o e => but _ o (Ne.symm ap.il) e, fun b o e => but b o (fun q => by rw [q, ap.i0] at e; cases e) (hin.F.keep b o e), hin.F.above⟩
        refine fin D h'' tk₂ ys nw hJ (F₂.change hs'' ap.cl ap.c0) (fun p hp => ?_) fun p hp => (hin.off p hp).2.2
        have z := hin.N p hp
        rcases List.mem_cons.mp hp with rfl | hp
        · exact ⟨hs''.extBut _ _ (Ne.symm hCD) (but _ _ (Ne.symm hID) z.1), z.2⟩
        · exact ⟨hs''.extBut _ _ (hin.off p hp).2.1 (but _ _ (hin.off p hp).1 z.1), z.2⟩
    · rcases List.mem_cons.mp hp with rfl | hp
      · exact ⟨hacc, ap.dl, ap.d0⟩
      · exact ⟨old _ _ (N p hp).1, (N p hp).2⟩
    · have hb := low _ _ (N p hp).1
      exact ⟨Nat.ne_of_lt hb, lowC _ hb, lowD _ hb⟩
  have h1l : h₁.IsList l vs.toArray := ⟨_, old _ _ (N _ hm).1, rfl, _, rfl⟩
  exact codeAny_compStart_list (loop _ rfl) (W.self 0 _ _ _ ⟨⟨_, hit₁, rfl, rfl⟩, h1l⟩ (loop _ rfl))
end

end
section
theorem kw_CD_0 : True := by
  k_with_none
  k_with "om" => first | decide | (with_reducible first | apply om25 <;> assumption | apply om91 <;> assumption | apply om92 <;> assumption | apply om271 <;> assumption | apply om272 <;> assumption)
  k_with "k_ne" => (refine neN ?_; (try dsimp only); first | with_reducible assumption | lgec_go)
  k_with "fold_depth" => first | ((with_reducible show wpAny _ (Around.deeper (ktrTop _ _ _ _ _ _ _ _ _ _) _) _ _ _ _); refine wp_fold4 ?_; intro A1 q0 e0) | (refine wp_fold2 ?_; intro q00 e00)
  k_with "fold_lay" => ((show wpAny _ _ _ _ _ _); first | (fail_if_success k_fold) | ((try clear qf); refine wp_fold ?_; intro qf))
  k_with "k_steps" => ((try dsimp only); (try fold_lay); repeat' (first | (k_unfold; (try dsimp only)) | (k_end; wrow_close) | (walk1; (try ((first | (with_reducible show wpAny _ _ (exec _ _) _ _ _) | (with_reducible show wpAny _ _ (execs _ _) _ _ _)); (try dsimp only); fold_lay))) | (dsimp only; walk1) | (leave1; walk_say "STEP leave1"; try dsimp only) | fail "no step"))
  k_with "k_room" => first | exact fastR (by assumption) | ktr_room | (simp only [A1]; ktr_room)
  k_with "k_units" => first | ktr_units | (simp only [A1]; ktr_units)
  k_with "k_enter" => (refine' code_defC ?k1_312 ?k2_312 ?k3_312 ?k4_312 ?k5_312 ?kA_312 ?kF_312 ?kK_312 ?k6_312 ?k7_312 ?k8_312 ?k9_312 ?kB_312 ?kD_312 ?_ ?c2_312 ?c3_312 ?c4_312; (case kA_312 => exact rfl); (case kF_312 => exact rfl); (case kK_312 => assumption); (case k1_312 => k_asm); (case k2_312 => k_asm); (case k3_312 => k_asm); (case k4_312 => k_asm); (case k5_312 => k_asm); (case k6_312 => k_is); (case k7_312 => k_is); (case k8_312 => k_room); (case k9_312 => first | exact BindsTo.of_eq rfl | exact binds_K (by k_in) rfl (by k_is) rfl rfl rfl); (case kB_312 => exact rfl); (case kD_312 => decide +kernel); (case c2_312 => exact rfl); (case c3_312 => exact rfl); (case c4_312 => exact rfl); k_whole; intro g' L' h' tk' cells' FG' F' N' Y' B' X' T' l1; (try k_lt l1); refine hideG ?_; intro G0; k_cells Y'; (dsimp only [G0]); (try clear G0); (try simp only [List.cons_append, List.nil_append] at N'); (try dsimp only); (try fold_depth))
  k_with "k_enter" => (refine' code_def ?k1_313 ?k2_313 ?k3_313 ?k4_313 ?k5_313 ?kA_313 ?kF_313 ?kK_313 ?k6_313 ?k7_313 ?k8_313 ?k9_313 ?kB_313 ?_ ?c2_313 ?c3_313 ?c4_313 ?c5_313; (case kA_313 => exact rfl); (case kF_313 => exact rfl); (case kK_313 => assumption); (case k1_313 => k_asm); (case k2_313 => k_asm); (case k3_313 => k_asm); (case k4_313 => k_asm); (case k5_313 => k_asm); (case k6_313 => k_is); (case k7_313 => k_is); (case k8_313 => k_room); (case k9_313 => first | exact BindsTo.of_eq rfl | exact binds_K (by k_in) rfl (by k_is) rfl rfl rfl); (case c5_313 => decide); (case kB_313 => exact locs rfl); (case c2_313 => exact rfl); (case c3_313 => exact rfl); (case c4_313 => exact rfl); k_whole; intro g' L' h' FG' F' N' B' X' T'; (try dsimp only); (try fold_depth))
  trivial
section
variable {prog : Program} {w : World} {A : Around} {E : Value → Shared → Prop} {s : Shared} {h₀ : Heap} {L : Addr} {m : Str → Option Value} {env : Env}
theorem comp_back {I C D : Addr} {oI oC : Obj} {m' : Str → Option Value} {ys : List Value} {S : Led → Prop} {s₁ : Shared} {Rr : Value → Led → Prop} {y : Value} {s₂ : Shared} {Post : Shared → Prop} {J : List Value → Led → Prop}
    (ap : CompApart h₀ L I C D) (hoC : LCg.NsObj oC m') (hq : LCg.CompEnd h₀ L m s₁ I oI C oC D (LCg.lst ys) S Rr y s₂) (hJ : ∀ nw', Rr y nw' → J ys nw')
    (post : ∀ h' tk' m'' ys' nw', InComp h₀ L m I C D oI m'' ys' nw' h' → ys'.length ≤ ys.length → J ys' nw' → Post { s₁ with heap := h', toks := tk' }) : Post s₂ := by
  (refine hideG ?_; intro G0)
  obtain ⟨h₄, tk₄, nw₄, rfl, F₄, N₄, off₄, _, r⟩ := hq
  (dsimp only [G0]); clear G0
  exact post h₄ tk₄ m' ys nw₄ ⟨F₄, hoC.ns (N₄ _ (.tail _ (.head _))).1, (N₄ _ (.head _)).1, fun p hp => N₄ p (.tail _ (.tail _ hp)), off₄.mem⟩ (Nat.le_refl _) (hJ _ r)
theorem comp_push {I C D : Addr} {oI oC : Obj} {m' : Str → Option Value} {ys : List Value} {S : Led → Prop} {s₁ : Shared} {Rr : Value → Led → Prop} {y : Value} {s₂ : Shared} {Post : Shared → Prop} {ER : Value → Shared → Prop} {J : List Value → Led → Prop}
    (ap : CompApart h₀ L I C D) (hz : ys.length ≤ 1000) (hoC : LCg.NsObj oC m') (hq : LCg.CompEnd h₀ L m s₁ I oI C oC D (LCg.lst ys) S Rr y s₂) (hJ : ∀ nw', Rr y nw' → J (ys ++ [y]) nw')
    (post : ∀ h' tk' m'' ys' nw', InComp h₀ L m I C D oI m'' ys' nw' h' → ys'.length ≤ ys.length + 1 → J ys' nw' → Post { s₁ with heap := h', toks := tk' }) :
    wpAny (model prog w) A (call (.builtin "list.append") [.ref D, y]) (fun _ s₅ => Post s₅) ER s₂ := by
  (refine hideG ?_; intro G0)
  obtain ⟨h₄, tk₄, nw₄, rfl, F₄, N₄, off₄, _, r⟩ := hq
  (dsimp only [G0]); clear G0
  have zI := (N₄ (I, oI) (.head _)).1
  have zC := (N₄ (C, oC) (.tail _ (.head _))).1
  have zD := (N₄ (D, LCg.lst ys) (.tail _ (.tail _ (.head _)))).1
  refine append_at (hsz := by show ys.toArray.size ≤ sizeLine; rw [List.size_toArray, sizeLine_eq]; lgec_go) zD fun h₅ hs₅ hD₅ => ?_
  have off4 := off₄.mem
  refine post h₅ tk₄ m' (ys ++ [y]) nw₄ ⟨F₄.change hs₅ ap.dl ap.d0, (hoC.ns zC).sameBut hs₅ ap.cd, hs₅.extBut _ _ ap.id zI, fun p hp => ?_, off4⟩ (by rw [List.length_append]; exact Nat.le_refl _) (hJ _ r)
  rcases List.mem_cons.mp hp with rfl | hp
  · exact ⟨hD₅.trans (congrArg some (LCg.lst_snoc ys y)), ap.dl, ap.d0⟩
  · have z := N₄ p (.tail _ (.tail _ (.tail _ hp)))
    exact ⟨hs₅.extBut _ _ (off4 p hp).2.2 z.1, z.2⟩
inductive PTT (prog : Program) (w : World) (A : Around) (h₀ : Heap) (L : Addr) (m : Str → Option Value) (env : Env) (ct elt : PySem.Expr) (x x₂ : Str) (scope : Scope) (cl : List (Str × Addr)) (S : Led → Prop) (s₁ : Shared) (J : Nat → List Value → Led → Prop) (i : Nat) (ys : List Value) (nw : Led) : Value → Prop
  | mk (t : Addr) (v₁ v₂ : Value) (nt : Nat) : (t, tup2 v₁ v₂ nt) ∈ nw → (∀ I oI C oC D m₂ h tk (E' : Value → Shared → Prop), LCg.NsObj oC m₂ → m₂ x = some v₁ → m₂ x₂ = some v₂ → Fr h₀ L h m → News h₀ L h ((I, oI) :: (C, oC) :: (D, LCg.lst ys) :: nw) → LCg.Off3 I C D nw → ((@Ne Nat I C) ∧ (@Ne Nat I D) ∧ (@Ne Nat C D)) →
        wpAny (model prog w) A (isTrue ct (compEnvC scope cl C env) (eval ct (compEnvC scope cl C env))) (fun ok s' => if ok = true then
          wpAny (model prog w) A (eval elt (compEnvC scope cl C env)) (LCg.CompEnd h₀ L m { s₁ with heap := h, toks := tk } I oI C oC D (LCg.lst ys) S (fun y nw' => J (i + 1) (ys ++ [y]) nw')) E' s'
          else LCg.CompEnd h₀ L m { s₁ with heap := h, toks := tk } I oI C oC D (LCg.lst ys) S (fun _ nw' => J (i + 1) ys nw') Value.none s') E' { s₁ with heap := h, toks := tk }) → PTT prog w A h₀ L m env ct elt x x₂ scope cl S s₁ J i ys nw (.ref t)
inductive PTG (prog : Program) (w : World) (A : Around) (h₀ : Heap) (L : Addr) (m : Str → Option Value) (env : Env) (ct elt : PySem.Expr) (x x₂ : Str) (scope : Scope) (cl : List (Str × Addr)) (Q : Value → Shared → Prop) (S : Led → Prop) (s₁ : Shared) : Value → Prop
  | mk (l : Addr) (vs : List Value) (k : Nat) (news : Led) (J : Nat → List Value → Led → Prop) : A.handled = none → Fr h₀ L s₁.heap m → News h₀ L s₁.heap news → (l, PySem.W.listOf vs.toArray k) ∈ news → vs.length ≤ 1000 → J 0 [] news → (∀ i ys nw, J i ys nw → (l, PySem.W.listOf vs.toArray k) ∈ nw) → (∀ i ys nw v, vs[i]? = some v → J i ys nw → PTT prog w A h₀ L m env ct elt x x₂ scope cl S s₁ J i ys nw v) → (∀ D h tk ys nw, J vs.length ys nw → Fr h₀ L h m → News h₀ L h ((D, LCg.lst ys) :: nw) → (∀ p ∈ nw, p.1 ≠ D) → Q (.ref D) { s₁ with heap := h, toks := tk }) → PTG prog w A h₀ L m env ct elt x x₂ scope cl Q S s₁ (.ref l)
theorem ListComp_PT {ct elt iter : PySem.Expr} {x x₂ : Str} {px px₂ tp : Pos} {tk : Nat} {scope : Scope} {cl : List (Str × Addr)} {pos : Pos} {Q : Value → Shared → Prop} (S : Led → Prop) (F₀ : Fr h₀ L s.heap m)
    (hclos : closureFor scope env = pure cl) (hcell : ∀ y ∈ scope.names, y.2 ≠ .cell) (hkind : scope.kind = .function)
    (hnames : ∀ y ∈ scope.names, y.2 = .local → scope.names.lookup y.1 = some .local) (hx : scope.names.lookup x = some .local) (hx₂ : scope.names.lookup x₂ = some .local) (hxx : x ≠ x₂)
    (h : wpAny (model prog w) A (eval iter env) (fun xv s₁ => PTG prog w A h₀ L m env ct elt x x₂ scope cl Q S s₁ xv) E s)
    (hs : ∀ x, foldedSetIterable iter env x = pure x := by intro _; rfl) :
    wpAny (model prog w) A (eval (.ListComp elt [⟨.Tuple [.Name x px, .Name x₂ px₂] tk tp, iter, [ct], 0⟩] scope pos) env) Q E s := by
  refine comp_core (h₀ := h₀) (L := L) (m := m) (fun I cenv D v Post ER s => wpAny (model prog w) A (letOwnedTupleGo (.Tuple [.Name x px, .Name x₂ px₂] tk tp) (.ref I) v) (fun _ s₀ => wpAny (model prog w) A (assign (.Tuple [.Name x px, .Name x₂ px₂] tk tp) cenv v) (fun _ s₂ =>
      wpAny (model prog w) A (isTrue ct cenv (eval ct cenv)) (fun ok s₃ => if ok = true then wpAny (model prog w) A (eval elt cenv) (fun x s₄ =>
        wpAny (model prog w) A (call (.builtin "list.append") [.ref D, x]) (fun _ s₅ => Post s₅) ER s₄) ER s₃ else Post s₃) ER s₂) ER s₀) ER s)
    (fun I D cenv R Inv turn n s hI => kct_loop Inv turn n hI) hclos hcell hkind hnames (wpAny_mono h (fun xv s₁ hq => ?_) fun _ _ e => e) hs
  (refine hideG ?_; intro G0)
  obtain ⟨l, vs, k, news, J, hh, F, N, hm, hz, h0, hJl, turn, fin⟩ := hq
  (dsimp only [G0]); clear G0
  refine ⟨l, vs, k, news, J, fun _ _ => True, hh, F, N, hm, hz, h0, hJl, ?_, fin, fun _ _ _ _ _ _ _ _ _ => trivial⟩
  intro i ys nw v I C D oI m' h tk Post ER hv hJ hyl ap hin hlit post _
  have hT := turn i ys nw v hv hJ
  clear turn
  (refine hideG ?_; intro G0)
  obtain ⟨t, v₁, v₂, nt, hmt, step⟩ := hT
  (dsimp only [G0]); clear G0
  have ht : IsTup h t #[v₁, v₂] := ⟨_, (hin.N _ (.tail _ hmt)).1, rfl, nt, rfl⟩
  refine wpAny_letOwnedTupleGo_listiter hlit ?_
  refine assign_Tuple_tuple hh ht rfl rfl fun h₅ he => ?_
  have he' : ∀ b o, h.get? b = some o → h₅.get? b = some o := fun b o e => he b o (Nat.ne_of_lt (Heap.lt_size e)) e
  refine assignInOrder_cons (wpAny_assign_Name (wpAny_storeName_local (lookup_relabel_local hx) (hin.ns.at' fun o e => he' _ o e) (fun h₆ hn₆ hs₆ => ?_) (by simp [compEnvC, relabel, hkind])))
  refine assignInOrder_cons (wpAny_assign_Name (wpAny_storeName_local (lookup_relabel_local hx₂) hn₆ (fun h₃ hn₃ hs₃ => ?_) (by simp [compEnvC, relabel, hkind])))
  refine assignInOrder_nil ?_
  have old3 : ∀ b o, b ≠ C → h.get? b = some o → h₃.get? b = some o := fun b o hb e => hs₃.extBut b o hb (hs₆.extBut b o hb (he' b o e))
  obtain ⟨oC, heC, hoC⟩ := LCg.ns_obj hn₃
  have F₃ : Fr h₀ L h₃ m := ((hin.F.keeps he').change hs₆ ap.cl ap.c0).change hs₃ ap.cl ap.c0
  have N₃ : News h₀ L h₃ ((I, oI) :: (C, oC) :: (D, LCg.lst ys) :: nw) := fun p hp => by
    rcases List.mem_cons.mp hp with rfl | hp
    · exact ⟨old3 _ _ ap.ic hin.it, ap.il, ap.i0⟩
    · rcases List.mem_cons.mp hp with rfl | hp
      · exact ⟨heC, ap.cl, ap.c0⟩
      · have z := hin.N p hp
        refine ⟨old3 _ _ ?_ z.1, z.2⟩
        rcases List.mem_cons.mp hp with rfl | hp
        · exact Ne.symm ap.cd
        · exact (hin.off p hp).2.1
  have hil : i < vs.length := by
    rcases Nat.lt_or_ge i vs.length with h | h
    · exact h
    · rw [List.getElem?_eq_none h] at hv; cases hv
  refine wpAny_mono (step I oI C oC D _ h₃ _ ER hoC (by simp [hxx]) (by simp) F₃ N₃ (LCg.Off3.of hin.off) ⟨ap.ic, ap.id, ap.cd⟩) (fun ok s₂ hq => ?_) fun _ _ e => e
  cases ok with
  | true =>
    simp only [if_true] at hq ⊢
    refine wpAny_mono hq (fun y s₄ hy => ?_) fun _ _ e => e
    exact comp_push ap (by lgec_go) hoC hy (fun nw' r => r) fun h' tk' m'' ys' nw' a b c => post h' tk' m'' ys' nw' a (by lgec_go) c
  | false =>
    simp only [Bool.false_eq_true, if_false] at hq ⊢
    exact comp_back ap hoC hq (fun nw' r => r) fun h' tk' m'' ys' nw' a b c => post h' tk' m'' ys' nw' a (by lgec_go) c
end
section
open LCg LCt LCp
variable {prog : Program} {w : World} {A : Around} {h₀ : Heap} {L : Addr} {m : Str → Option Value} {env : Env} {elt ct : PySem.Expr} {x x₂ : Str} {scope : Scope} {cl : List (Str × Addr)} {s : Shared} {S : Led → Prop} {P : Nat → Value → Prop} {Fin : List Value → Led → Prop} {news : Led}
theorem compT_invC (J : Nat → List Value → Prop) {n : Nat} (h0 : J 0 [])
    (turn : ∀ i ys v I oI C oC D m₂ h tk (E' : Value → Shared → Prop), i < n → J i ys → P i v → LCg.NsObj oC m₂ → m₂ x = some v → Fr h₀ L h m → News h₀ L h ((I, oI) :: (C, oC) :: (D, LCg.lst ys) :: news) → LCg.Off3 I C D news → ((@Ne Nat I C) ∧ (@Ne Nat I D) ∧ (@Ne Nat C D)) →
      wpAny (model prog w) A (isTrue ct (compEnvC scope cl C env) (eval ct (compEnvC scope cl C env))) (fun ok s' => if ok = true then
        wpAny (model prog w) A (eval elt (compEnvC scope cl C env)) (LCg.CompEnd h₀ L m { s with heap := h, toks := tk } I oI C oC D (LCg.lst ys) S (fun y news' => J (i + 1) (ys ++ [y]) ∧ news' = news)) E' s'
        else LCg.CompEnd h₀ L m { s with heap := h, toks := tk } I oI C oC D (LCg.lst ys) S (fun _ news' => J (i + 1) ys ∧ news' = news) Value.none s') E' { s with heap := h, toks := tk })
    (fin : ∀ ys, J n ys → Fin ys news) : LCt.CompRestT prog w A h₀ L m env ct elt x scope cl s S P Fin n 0 [] news :=
  compT_inv (fun i ys nw => J i ys ∧ nw = news) ⟨h0, rfl⟩ (fun i ys nw v I oI C oC D m₂ h tk E' hi hJ => by
    obtain ⟨hJ, e9⟩ := hJ
    replace e9 := Eq.symm e9
    subst e9
    exact turn i ys v I oI C oC D m₂ h tk E' hi hJ) fun ys nw hJ => by
    obtain ⟨hJ, e9⟩ := hJ
    replace e9 := Eq.symm e9
    subst e9
    exact fin ys hJ
theorem compP_invC (J : Nat → List Value → Prop) {n : Nat} (h0 : J 0 [])
    (src : ∀ i ys v, i < n → J i ys → P i v → ∃ (t : Addr) (ot : Obj) (v₁ v₂ : Value) (nt : Nat), v = .ref t ∧ (t, ot) ∈ news ∧ ot.cls = .type "tuple" ∧ ot.data = .seq #[v₁, v₂] nt ∧
      ∀ I oI C oC D m₂ h tk (E' : Value → Shared → Prop), LCg.NsObj oC m₂ → m₂ x = some v₁ → m₂ x₂ = some v₂ → Fr h₀ L h m → News h₀ L h ((I, oI) :: (C, oC) :: (D, LCg.lst ys) :: news) → LCg.Off3 I C D news → ((@Ne Nat I C) ∧ (@Ne Nat I D) ∧ (@Ne Nat C D)) →
      wpAny (model prog w) A (eval elt (compEnvC scope cl C env)) (LCg.CompEnd h₀ L m { s with heap := h, toks := tk } I oI C oC D (LCg.lst ys) S (fun y news' => J (i + 1) (ys ++ [y]) ∧ news' = news)) E' { s with heap := h, toks := tk })
    (fin : ∀ ys, J n ys → Fin ys news) : LCp.CompRestP prog w A h₀ L m env elt x x₂ scope cl s S P Fin n 0 [] news :=
  compP_inv (fun i ys nw => J i ys ∧ nw = news) ⟨h0, rfl⟩ (fun i ys nw v hi hJ hP => by
    obtain ⟨hJ, e9⟩ := hJ
    replace e9 := Eq.symm e9
    subst e9
    exact src i ys v hi hJ hP) fun ys nw hJ => by
    obtain ⟨hJ, e9⟩ := hJ
    replace e9 := Eq.symm e9
    subst e9
    exact fin ys hJ
end
theorem room64 {dp un : Nat} {gd : Option (List Code)} {cn : Str} {cs : Scope} {L a : Addr} {ccd : Value} {cl : List (Str × Addr)} {outer : List Env} {env : Env} {H : Nat} (h : un + 8 * H < cLine) (hH : 10 ≤ H) : ((ktrTop dp un gd cn cs L a ccd cl outer).deeper env).units + 64 < cLine := by
  simp only [units_deeper]
  show un + _ + 64 < cLine
  lgec_go

end
section
theorem kw_Q6_0 : True := by
  k_with_none
  k_with "om" => first | decide | (with_reducible first | apply om81 <;> assumption | apply om93 <;> assumption | apply om94 <;> assumption | apply om95 <;> assumption | apply om273 <;> assumption | apply om274 <;> assumption | apply om275 <;> assumption | apply om276 <;> assumption | apply om277 <;> assumption | apply om278 <;> assumption | apply om279 <;> assumption | apply om280 <;> assumption | apply om281 <;> assumption | apply om282 <;> assumption | apply om283 <;> assumption)
  k_with "k_ne" => (refine neN ?_; (try dsimp only); first | with_reducible assumption | lgec_go)
  k_with "fold_depth" => first | ((with_reducible show wpAny _ (Around.deeper (ktrTop _ _ _ _ _ _ _ _ _ _) _) _ _ _ _); refine wp_fold4 ?_; intro A1 q0 e0) | (refine wp_fold2 ?_; intro q00 e00)
  k_with "fold_lay" => ((show wpAny _ _ _ _ _ _); first | (fail_if_success k_fold) | ((try clear qf); refine wp_fold ?_; intro qf))
  k_with "k_steps" => ((try dsimp only); (try fold_lay); repeat' (first | (k_unfold; (try dsimp only)) | (k_end; wrow_close) | (walk1; (try ((first | (with_reducible show wpAny _ _ (exec _ _) _ _ _) | (with_reducible show wpAny _ _ (execs _ _) _ _ _)); (try dsimp only); fold_lay))) | (dsimp only; walk1) | (leave1; walk_say "STEP leave1"; try dsimp only) | fail "no step"))
  k_with "k_room" => first | exact fastR (by assumption) | ktr_room | (simp only [A1]; ktr_room)
  k_with "k_units" => first | ktr_units | (simp only [A1]; ktr_units)
  k_with "k_enter" => (refine' code_defC ?k1_319 ?k2_319 ?k3_319 ?k4_319 ?k5_319 ?kA_319 ?kF_319 ?kK_319 ?k6_319 ?k7_319 ?k8_319 ?k9_319 ?kB_319 ?kD_319 ?_ ?c2_319 ?c3_319 ?c4_319; (case kA_319 => exact rfl); (case kF_319 => exact rfl); (case kK_319 => assumption); (case k1_319 => k_asm); (case k2_319 => k_asm); (case k3_319 => k_asm); (case k4_319 => k_asm); (case k5_319 => k_asm); (case k6_319 => k_is); (case k7_319 => k_is); (case k8_319 => k_room); (case k9_319 => first | exact BindsTo.of_eq rfl | exact binds_K (by k_in) rfl (by k_is) rfl rfl rfl); (case kB_319 => exact rfl); (case kD_319 => decide +kernel); (case c2_319 => exact rfl); (case c3_319 => exact rfl); (case c4_319 => exact rfl); k_whole; intro g' L' h' tk' cells' FG' F' N' Y' B' X' T' l1; (try k_lt l1); refine hideG ?_; intro G0; k_cells Y'; (dsimp only [G0]); (try clear G0); (try simp only [List.cons_append, List.nil_append] at N'); (try dsimp only); (try fold_depth))
  k_with "k_enter" => (refine' code_def ?k1_320 ?k2_320 ?k3_320 ?k4_320 ?k5_320 ?kA_320 ?kF_320 ?kK_320 ?k6_320 ?k7_320 ?k8_320 ?k9_320 ?kB_320 ?_ ?c2_320 ?c3_320 ?c4_320 ?c5_320; (case kA_320 => exact rfl); (case kF_320 => exact rfl); (case kK_320 => assumption); (case k1_320 => k_asm); (case k2_320 => k_asm); (case k3_320 => k_asm); (case k4_320 => k_asm); (case k5_320 => k_asm); (case k6_320 => k_is); (case k7_320 => k_is); (case k8_320 => k_room); (case k9_320 => first | exact BindsTo.of_eq rfl | exact binds_K (by k_in) rfl (by k_is) rfl rfl rfl); (case c5_320 => decide); (case kB_320 => exact locs rfl); (case c2_320 => exact rfl); (case c3_320 => exact rfl); (case c4_320 => exact rfl); k_whole; intro g' L' h' FG' F' N' B' X' T'; (try dsimp only); (try fold_depth))
  k_with "klt" => skip
  k_with "k_all" => first | exact List.forall_mem_nil _ | (with_reducible refine List.forall_mem_cons.mpr ⟨?_, ?_⟩; (focus k_ne); k_all) | with_reducible assumption | with_reducible exact allLt_off (by with_reducible assumption) | with_reducible exact lt_off (by with_reducible assumption) | with_reducible exact off1_off (by with_reducible assumption) | with_reducible exact off3_1 (by with_reducible assumption) | with_reducible exact off3_2 (by with_reducible assumption) | with_reducible exact off3_3 (by with_reducible assumption) | (with_reducible refine GrowK.off (by with_reducible assumption) ?_ ?_; (focus simp only [List.mem_cons, true_or, or_true]); k_all)
  k_with "tb_rel" => with_reducible first | assumption | exact sub_self | (refine sub_tail ?_; tb_rel) | (refine sub_growK (by assumption) ?_; tb_rel) | (refine sub_app ?_ ?_; (focus tb_rel); tb_rel) | (refine sub_consApp ?_; tb_rel) | (refine sub_appL ?_; tb_rel) | (refine sub_appR ?_; tb_rel)
  k_with "k_mem" => (refine sub_mem ?_ (by assumption); tb_rel)
  k_with "tb_start" => first | assumption | (refine NumIn.mono (by assumption) ?_; tb_rel)
  k_with "call ref" => ((with_reducible show wpAny _ _ (call (Value.ref 194) _) _ _ _); first | (k_dflt (refine' Calls.use ?k1_325 ?k2_325 ?k3_325 ?k4_325 ?k5_325 ?kK_325 ?C_325 ?kd_325 ?ku_325 ?_; (case k1_325 => k_asm); (case k2_325 => k_asm); (case k3_325 => k_asm); (case k4_325 => k_asm); (case k5_325 => k_asm); (case kK_325 => first | exact rfl | assumption); (case C_325 => exact same_spec _ _ _ _ _ _ (by tb_start) (by tb_start)); (case kd_325 => first | exact fastD (by assumption) (by decide) | lgec_go | (walk_say "SLOW ROOM"; ktr_room)); (case ku_325 => first | exact fastU (by assumption) (by decide) | lgec_go | (walk_say "SLOW UNITS"; ktr_units)); k_whole; intro r' n' h' tk' F' N' hr'; refine hideG ?_; intro G0; (obtain ⟨e1', e2'⟩ := hr'); subst e1'; replace e2' := Eq.symm e2'; subst e2'; (dsimp only [G0]); (try clear G0); (try k_sweep))) | refine Stop.mk ?_)
  k_with "exec While" => ((with_reducible show wpAny _ _ (exec (Stmt.While _ _ _ _) _) _ _ _); refine Stop.mk ?_)
  k_with "exec While Compare" => ((with_reducible show wpAny _ _ (exec (Stmt.While _ _ _ _) _) _ _ _); refine Stop.mk ?_)
  k_with "exec While BoolOp" => ((with_reducible show wpAny _ _ (exec (Stmt.While _ _ _ _) _) _ _ _); refine Stop.mk ?_)
  k_with "exec While Name" => ((with_reducible show wpAny _ _ (exec (Stmt.While _ _ _ _) _) _ _ _); refine Stop.mk ?_)
  k_with "exec While Compare cons nil" => ((with_reducible show wpAny _ _ (exec (Stmt.While _ _ _ _) _) _ _ _); refine Stop.mk ?_)
  k_with "call builtin:len" => ((with_reducible show wpAny _ _ (call (Value.builtin "len") [Value.ref _]) _ _ _); k_dflt (refine' lst_len ?k1_331 ?k2_331 ?k3_331 ?_; (case k1_331 => k_asm); (case k2_331 => k_mem); (case k3_331 => lgec_go); k_whole))
  k_with "truthy ref" => (k_dflt (refine' lst_truthy ?k1_332 ?k2_332 ?k3_332 ?_; (case k1_332 => k_asm); (case k2_332 => k_mem); (case k3_332 => lgec_go); k_whole))
  k_with "call builtin:list.append" => ((with_reducible show wpAny _ _ (call (Value.builtin _) [Value.ref _, _]) _ _ _); k_dflt (refine' lst_append ?k1_333 ?k2_333 ?k3_333 ?k4_333 ?_; (case k1_333 => k_asm); (case k2_333 => k_asm); (case k3_333 => k_upd); (case k4_333 => lgec_go); k_whole); intro h' F' N'; (try k_sweep))
  k_with "call builtin:list.extend" => ((with_reducible show wpAny _ _ (call (Value.builtin _) [Value.ref _, Value.ref _]) _ _ _); k_dflt (refine' lst_extend ?k1_334 ?k2_334 ?k3_334 ?k4_334 ?k5_334 ?_; (case k1_334 => k_asm); (case k2_334 => k_asm); (case k3_334 => k_updF); (case k4_334 => k_mem); (case k5_334 => first | (simp only [List.length_take, List.length_drop, List.length_append, List.length_cons, List.length_nil]; lgec_go) | lgec_go); k_whole); intro h' n' F' N'; (try dsimp only at N'); (try k_sweep))
  k_with "binaryOp Add" => ((with_reducible show wpAny _ _ (binaryOp Operator.Add (Value.ref _) (Value.ref _)) _ _ _); k_dflt (refine' lst_add ?k1_335 ?k2_335 ?k3_335 ?k4_335 ?k5_335 ?_; (case k1_335 => k_asm); (case k2_335 => k_asm); (case k3_335 => k_mem); (case k4_335 => k_mem); (case k5_335 => first | (simp only [List.length_cons, List.length_nil]; lgec_go) | lgec_go); k_whole); intro l' h' F' N' l1; (try k_lt l1); (try k_sweep))
  k_with "binaryOp Add ref ref" => ((with_reducible show wpAny _ _ (binaryOp Operator.Add (Value.ref _) (Value.ref _)) _ _ _); k_dflt (refine' lst_add ?k1_336 ?k2_336 ?k3_336 ?k4_336 ?k5_336 ?_; (case k1_336 => k_asm); (case k2_336 => k_asm); (case k3_336 => k_mem); (case k4_336 => k_mem); (case k5_336 => first | (simp only [List.length_cons, List.length_nil]; lgec_go) | lgec_go); k_whole); intro l' h' F' N' l1; (try k_lt l1); (try k_sweep))
  k_with "subscriptTail Name Slice ref ref" => ((with_reducible show wpAny _ _ (subscriptTail _ _ (Value.ref _) (Value.ref _)) _ _ _); k_dflt (refine' lst_slice ?k1_337 ?k2_337 ?k3_337 ?k4_337 ?k5_337 ?k6_337 ?_; (case k1_337 => k_asm); (case k2_337 => k_asm); (case k3_337 => k_mem); (case k4_337 => lgec_go); (case k5_337 => lgec_go); (case k6_337 => lgec_go); k_whole); intro l' h' F' N' l1; (try k_lt l1); (try k_sweep))
  k_with "SrcLP" => (first | k_dflt (refine LCp.SrcLP.ledger (by rfl) (by k_asm) (by k_asm) (by k_mem) ?sz_338 ?_; (case sz_338 => rw [List.size_toArray, sizeLine_eq]; lgec_go); intro g'; refine Stop.mk ?_) | refine Stop.mk ?_)
  k_with "CompSrc" => (first | k_dflt (first | (refine LCg.CompSrc.ledger (by rfl) (by k_asm) (by k_asm) (by k_mem) ?sz_339 ?_; (case sz_339 => rw [List.size_toArray, sizeLine_eq]; lgec_go); intro g'; refine Stop.mk ?_) | (refine LCg.CompSrc.range (by rfl) (by k_asm) (by k_asm) (by assumption) (range_small (by first | decide | lgec_go) (by first | decide | lgec_go) (by lgec_go) (by lgec_go)) (by first | exact range_n0 | exact range_n) ?sz_339 ?_; (case sz_339 => rw [sizeLine_eq]; lgec_go); intro g'; refine Stop.mk ?_)) | refine Stop.mk ?_)
  k_with "CompSrcT" => (first | k_dflt (first | (refine LCt.CompSrcT.ledger (by rfl) (by k_asm) (by k_asm) (by k_mem) ?sz_340 ?_; (case sz_340 => rw [List.size_toArray, sizeLine_eq]; lgec_go); intro g'; refine Stop.mk ?_) | (refine LCt.CompSrcT.range (by rfl) (by k_asm) (by k_asm) (by assumption) (range_small (by first | decide | lgec_go) (by first | decide | lgec_go) (by lgec_go) (by lgec_go)) (by first | exact range_n0 | exact range_n) ?sz_340 ?_; (case sz_340 => rw [sizeLine_eq]; lgec_go); intro g'; refine Stop.mk ?_)) | refine Stop.mk ?_)
  k_with "call ref" => ((with_reducible show wpAny _ _ (call (Value.ref 381) _) _ _ _); first | (k_dflt (refine' Calls.use ?k1_341 ?k2_341 ?k3_341 ?k4_341 ?k5_341 ?kK_341 ?C_341 ?kd_341 ?ku_341 ?_; (case k1_341 => k_asm); (case k2_341 => k_asm); (case k3_341 => k_asm); (case k4_341 => k_asm); (case k5_341 => k_asm); (case kK_341 => first | exact rfl | assumption); (case C_341 => exact runparts_spec _ _ _ _ _ _ _ (by k_mem) (by assumption) (by tb_rel) (by lgec_go) (by assumption)); (case kd_341 => first | exact fastD (by assumption) (by decide) | lgec_go | (walk_say "SLOW ROOM"; ktr_room)); (case ku_341 => first | exact fastU (by assumption) (by decide) | lgec_go | (walk_say "SLOW UNITS"; ktr_units)); k_whole; intro r' n' h' tk' F' N' hr'; refine hideG ?_; intro G0; (obtain ⟨d', ws', n2', new', rows', hA', hd', hR', hS', hO', hwl'⟩ := hr'); (first | (obtain ⟨rest', htl', N9', hG', hsn'⟩ := gro6 N' hA') | (obtain ⟨rest', htl', N9', hG', hsn'⟩ := gro5 N' hA') | (obtain ⟨rest', htl', N9', hG', hsn'⟩ := gro4 N' hA') | (obtain ⟨rest', htl', N9', hG', hsn'⟩ := gro3 N' hA') | (obtain ⟨rest', htl', N9', hG', hsn'⟩ := gro2 N' hA') | (obtain ⟨rest', htl', N9', hG', hsn'⟩ := gro1 N' hA') | (obtain ⟨rest', htl', N9', hG', hsn'⟩ := gro0 N' hA')); clear N'; (try dsimp only at hG'); (dsimp only [G0]); (try clear G0); (try k_sweep))) | refine Stop.mk ?_)
  k_with "call builtin:sorted" => ((with_reducible show wpAny _ _ (call (Value.builtin "sorted") [Value.ref _]) _ _ _); k_dflt (refine' dict_sorted ?k0_342 ?k1_342 ?k2_342 ?k3_342 ?k4_342 ?k5_342 ?k6_342 ?k7_342 ?_; (case k0_342 => rfl); (case k1_342 => k_asm); (case k2_342 => k_asm); (case k3_342 => k_mem); (case k4_342 => assumption); (case k5_342 => assumption); (case k6_342 => assumption); (case k7_342 => lgec_go); k_whole); intro D' h' tk' svs' sn' F' N' l1 hI'; (have hsl' := IntsAre.length hI'); (simp only [List.length_map] at hsl'); (try k_lt l1); (try k_sweep))
  k_with "subscriptTail" => ((with_reducible show wpAny _ _ (subscriptTail _ _ (Value.ref _) (Value.int _ _)) _ _ _); k_dflt (refine' dict_item ?k1_343 ?k2_343 ?k3_343 ?k4_343 ?_; (case k1_343 => k_asm); (case k2_343 => k_mem); (case k3_343 => assumption); (case k4_343 => assumption)))
  k_with "subscriptTail" => ((with_reducible show wpAny _ _ (subscriptTail _ _ (Value.ref _) (Value.int (-1) _)) _ _ _); k_dflt (refine' run_last ?k1_344 ?k2_344 ?k3_344 ?k4_344 ?k5_344 ?_; (case k1_344 => k_asm); (case k2_344 => k_mem); (case k3_344 => assumption); (case k4_344 => lgec_go); (case k5_344 => lgec_go)); (intro t' c' ct' v' k' q' hg' hm' hn'))
  trivial
local macro_rules | `(tactic| walk_at "pyIter ref") => `(tactic| ((with_reducible show wpAny _ _ (pyIter (Value.ref _)) (fun it s₂ => LoopAtV _ _ _ _ _ _ _ _ _ it s₂) _ _); refine Stop.mk ?_))
theorem kw_Q6_1 : True := by
  k_with "call builtin:list.pop" => ((with_reducible show wpAny _ _ (call (Value.builtin _) [Value.ref _, Value.int _ _]) _ _ _); k_dflt (refine' lst_pop0 ?k1_345 ?k2_345 ?k3_345 ?k4_345 ?_; (case k1_345 => k_asm); (case k2_345 => k_asm); (case k3_345 => k_upd); (case k4_345 => first | lgec_go | (simp only [List.length_cons] at *; lgec_go)); k_whole); intro h' F' N'; (try k_sweep))
  k_with "call type:list" => ((with_reducible show wpAny _ _ (call (Value.type _) [Value.ref _]) _ _ _); k_dflt (refine' lst_copy ?k1_346 ?k2_346 ?k3_346 ?k4_346 ?_; (case k1_346 => k_asm); (case k2_346 => k_asm); (case k3_346 => k_mem); (case k4_346 => lgec_go); k_whole); intro D' c' h' F' N' l1; (try k_lt l1); (try k_sweep))
  k_with "subscriptTail" => ((with_reducible show wpAny _ _ (subscriptTail _ _ (Value.ref _) (Value.int _ _)) _ _ _); k_dflt (refine' nums_item ?k1_347 ?k2_347 ?k3_347 ?k4_347 ?k5_347 ?k6_347 ?_; (case k1_347 => k_asm); (case k2_347 => k_mem); (case k3_347 => assumption); (case k4_347 => lgec_go); (case k5_347 => lgec_go); (case k6_347 => lgec_go)); (intro v' q' hg' hn'))
  k_with "eval ListComp" => (first | ((with_reducible show wpAny _ _ (eval (PySem.Expr.ListComp _ [PySem.Comprehension.mk (PySem.Expr.Tuple _ _ _) _ [_] _] _ _) _) _ _ _); refine Stop.mk ?_) | (lct_look; k_dflt (refine LCt.ListComp_T (F₀ := by k_asm) (by with_unfolding_all rfl) (by decide) (by rfl) (by decide) (by rfl) ?_); k_dflt lct_toSrc) | (lcp_look; k_dflt (refine LCp.ListComp_P (F₀ := by k_asm) (by with_unfolding_all rfl) (by decide) (by rfl) (by decide) (by rfl) (by rfl) (by decide) ?_); k_dflt lcp_toSrc) | ((first | lcg_look | lcf_look); k_dflt (refine LCg.ListComp_U (F₀ := by k_asm) (by with_unfolding_all rfl) (by decide) (by rfl) (by decide) (by rfl) ?_); k_dflt lcg_toSrc) | refine Stop.mk ?_)
  k_with "exec Assign cons ListComp" => (first | (lct_look; k_dflt (refine LCt.Assign_ListComp_T (F₀ := by k_asm) (by rfl) (by with_unfolding_all rfl) (by with_unfolding_all rfl) (by decide) (by rfl) (by decide) (by rfl) (by rfl) (by rfl) ?_); k_dflt lct_toSrc) | (lcp_look; k_dflt (refine LCp.Assign_ListComp_P (F₀ := by k_asm) (by rfl) (by with_unfolding_all rfl) (by with_unfolding_all rfl) (by decide) (by rfl) (by decide) (by rfl) (by rfl) (by decide) (by rfl) (by rfl) ?_); k_dflt lcp_toSrc) | ((first | lcg_look | lcf_look); k_dflt (refine LCg.Assign_ListComp_U (F₀ := by k_asm) (by rfl) (by with_unfolding_all rfl) (by with_unfolding_all rfl) (by decide) (by rfl) (by decide) (by rfl) (by rfl) (by rfl) ?_); k_dflt lcg_toSrc))
  k_with "call ref" => ((with_reducible show wpAny _ _ (call (Value.ref 388) _) _ _ _); first | (k_dflt (refine' Calls.use ?k1_350 ?k2_350 ?k3_350 ?k4_350 ?k5_350 ?kK_350 ?C_350 ?kd_350 ?ku_350 ?_; (case k1_350 => k_asm); (case k2_350 => k_asm); (case k3_350 => k_asm); (case k4_350 => k_asm); (case k5_350 => k_asm); (case kK_350 => first | exact rfl | assumption); (case C_350 => exact written_spec' _ _ _ _ _ _ _ _ _ (by k_mem) (by assumption) (by assumption) (by assumption) (by lgec_go) (by assumption) (by tb_rel) (by assumption) (by assumption)); (case kd_350 => first | exact fastD (by assumption) (by decide) | lgec_go | (walk_say "SLOW ROOM"; ktr_room)); (case ku_350 => first | exact fastU (by assumption) (by decide) | lgec_go | (walk_say "SLOW UNITS"; ktr_units)); k_whole; intro r' n' h' tk' F' N' hr'; refine hideG ?_; intro G0; (obtain ⟨d', ws', n2', new', rows', hA', hd', hR', hS', hO', hwl', hxl', hxb'⟩ := hr'); (first | (obtain ⟨rest', htl', N9', hG', hsn'⟩ := gro6 N' hA') | (obtain ⟨rest', htl', N9', hG', hsn'⟩ := gro5 N' hA') | (obtain ⟨rest', htl', N9', hG', hsn'⟩ := gro4 N' hA') | (obtain ⟨rest', htl', N9', hG', hsn'⟩ := gro3 N' hA') | (obtain ⟨rest', htl', N9', hG', hsn'⟩ := gro2 N' hA') | (obtain ⟨rest', htl', N9', hG', hsn'⟩ := gro1 N' hA') | (obtain ⟨rest', htl', N9', hG', hsn'⟩ := gro0 N' hA')); clear N'; (try dsimp only at hG'); (dsimp only [G0]); (try clear G0); (try k_sweep))) | refine Stop.mk ?_)
  k_with "call ref" => ((with_reducible show wpAny _ _ (call (Value.ref 419) _) _ _ _); first | (k_dflt (refine' Calls.use ?k1_351 ?k2_351 ?k3_351 ?k4_351 ?k5_351 ?kK_351 ?C_351 ?kd_351 ?ku_351 ?_; (case k1_351 => k_asm); (case k2_351 => k_asm); (case k3_351 => k_asm); (case k4_351 => k_asm); (case k5_351 => k_asm); (case kK_351 => first | exact rfl | assumption); (case C_351 => exact opened_spec _ _ _ _ _ _ _ (by k_mem) (by assumption) (by tb_rel) (by lgec_go) (by assumption) (by lgec_go) (by assumption)); (case kd_351 => first | exact fastD (by assumption) (by decide) | lgec_go | (walk_say "SLOW ROOM"; ktr_room)); (case ku_351 => first | exact fastU (by assumption) (by decide) | lgec_go | (walk_say "SLOW UNITS"; ktr_units)); k_whole; intro r' n' h' tk' F' N' hr'; refine hideG ?_; intro G0; (obtain ⟨tt', pr', pvs', pn', lg', tk2', k2', new2', hA2', ht2', hp2', hR2', hlg'⟩ := hr'); (have hpl' := RunIn.length hR2'); (first | (obtain ⟨rest2', htl2', N9', hG2', hsn2'⟩ := gro6 N' hA2') | (obtain ⟨rest2', htl2', N9', hG2', hsn2'⟩ := gro5 N' hA2') | (obtain ⟨rest2', htl2', N9', hG2', hsn2'⟩ := gro4 N' hA2') | (obtain ⟨rest2', htl2', N9', hG2', hsn2'⟩ := gro3 N' hA2') | (obtain ⟨rest2', htl2', N9', hG2', hsn2'⟩ := gro2 N' hA2') | (obtain ⟨rest2', htl2', N9', hG2', hsn2'⟩ := gro1 N' hA2') | (obtain ⟨rest2', htl2', N9', hG2', hsn2'⟩ := gro0 N' hA2')); clear N'; (try dsimp only at hG2'); (dsimp only [G0]); (try clear G0); (try k_sweep))) | refine Stop.mk ?_)
  k_with "compareOp NotEq ref ref" => ((with_reducible show wpAny _ _ (compareOp CmpOp.NotEq (Value.ref _) (Value.ref _)) _ _ _); first | k_dflt (refine' ne_intsK ?k1_352 ?k2_352 ?k3_352 ?k4_352 ?k5_352 ?_; (case k1_352 => exact lst_is (by k_asm) (by k_mem)); (case k2_352 => first | assumption | exact IntsAre.nil); (case k3_352 => exact lst_is (by k_asm) (by k_mem)); (case k4_352 => first | assumption | exact IntsAre.nil); (case k5_352 => exact room64 (by assumption) (by decide)); k_whole) | refine Stop.mk ?_)
  k_with "compareOp Eq ref ref" => ((with_reducible show wpAny _ _ (compareOp CmpOp.Eq (Value.ref _) (Value.ref _)) _ _ _); first | k_dflt (refine' eq_intsK ?k1_353 ?k2_353 ?k3_353 ?k4_353 ?k5_353 ?_; (case k1_353 => exact lst_is (by k_asm) (by k_mem)); (case k2_353 => first | assumption | exact IntsAre.nil); (case k3_353 => exact lst_is (by k_asm) (by k_mem)); (case k4_353 => first | assumption | exact IntsAre.nil); (case k5_353 => exact room64 (by assumption) (by decide)); k_whole) | refine Stop.mk ?_)
  trivial
theorem Calls.weaken {w : World} {f : Addr} {H : Nat} {args : List Value} {news : Led} {Ret Ret' : Value → Led → Prop} (C : Calls w f H args news Ret) (h : ∀ r n, Ret r n → Ret' r n) : Calls w f H args news Ret' := by
  intro mean mg mb dp un gd cn cs a ccd cl outer A₀ base h₀ L m s Q E B F X N T hk hd hu hret
  exact C _ _ _ _ _ _ _ _ _ _ _ _ _ _ _ _ _ _ _ _ B F X N T hk hd hu fun r n h' tk' F' N' hr => hret r n h' tk' F' N' (h r n hr)
theorem SameCW.length {a b : List CW} (h : SameCW a b) : a.length = b.length := by
  induction h with
  | nil => rfl
  | cons _ _ ih => simp [ih]
theorem SameCW.codes {a b : List CW} (h : SameCW a b) : a.map (·.1) = b.map (·.1) := by
  induction h with
  | nil => rfl
  | cons _ _ ih => simp [ih]
theorem KvIn.mem {w : World} {ro : Led} {kvs : List (Int × Value)} {kn : List CW} (h : KvIn w ro kvs kn) : ∀ x ∈ kn, ∃ kv ∈ kvs, kv.1 = x.1 := by
  induction h with
  | nil => intro x hx; exact nomatch hx
  | cons _ _ ih =>
    intro x hx
    rcases List.mem_cons.mp hx with rfl | hx
    · exact ⟨_, .head _, rfl⟩
    · obtain ⟨kv, h1, h2⟩ := ih x hx
      exact ⟨kv, .tail _ h1, h2⟩
theorem codes_mem {a b : List CW} (h : SameCW a b) {x : CW} (hx : x ∈ a) : ∃ y ∈ b, y.1 = x.1 := by
  have h1 : x.1 ∈ b.map (·.1) := by rw [← h.codes]; exact List.mem_map_of_mem hx
  obtain ⟨y, hy, e⟩ := List.mem_map.mp h1
  exact ⟨y, hy, e⟩
theorem SameCW.at {a b : List CW} (h : SameCW a b) : ∀ (i : Nat) (c : Int) (q : Num), a[i]? = some (c, q) → ∃ q', b[i]? = some (c, q') ∧ sameN q q' = true := by
  induction h with
  | nil => intro i c q h; cases h
  | cons e _ ih =>
    intro i c q h
    cases i with
    | zero => cases h; exact ⟨_, rfl, e⟩
    | succ i => exact ih i c q (by simpa using h)
theorem KvIn.get {w : World} {ro : Led} {kvs : List (Int × Value)} {kn : List CW} (h : KvIn w ro kvs kn) : ∀ c q, (c, q) ∈ kn → ∃ v, (c, v) ∈ kvs ∧ NumIn w ro v q := by
  induction h with
  | nil => intro c q hx; exact nomatch hx
  | cons hn _ ih =>
    intro c q hx
    rcases List.mem_cons.mp hx with e | hx
    · cases e; exact ⟨_, .head _, hn⟩
    · obtain ⟨v, h1, h2⟩ := ih c q hx
      exact ⟨v, .tail _ h1, h2⟩
theorem valueAt_mem {kvs : List (Int × Value)} {c : Int} {v : Value} (hr : Rising kvs) (h : (c, v) ∈ kvs) : valueAt kvs c = some v := by
  obtain ⟨i, hi⟩ := List.mem_iff_getElem?.mp h
  exact valueAt_of_get (rising_nodup hr) hi
inductive WrQ (w : World) (news ro : Led) (kn : List CW) (qd : Num) : Value → Led → Prop
  | mk (dd : Addr) (ws : List Value) (k : Nat) (new : Led) (rows : List Row) : Apart news new → (dd, PySem.W.listOf ws.toArray k) ∈ new → RowsIn w (new ++ ro) ws rows → SameCW (expand rows) (wanted kn qd) → (∀ row ∈ rows, RowOk row) → ws.length ≤ 1000 → (expand rows).length ≤ 30 → (∀ x ∈ expand rows, 0 ≤ x.1 ∧ x.1 < 10000) → WrQ w news ro kn qd (.ref dd) (new ++ news)
theorem written_spec' (w : World) (news ro : Led) (d : Addr) (o : Obj) (kvs : List (Int × Value)) (kn : List CW) (dv : Value) (qd : Num) (hm : (d, o) ∈ news) (hd1 : o.IsDictOf (PySem.intKind PySem.Challenge.rw_nn0211_01.row.prog w) kvs) (lo : (d == sysModules) = false) (hr1 : Rising kvs) (hz : kvs.length ≤ 30)
    (hK : KvIn w ro kvs kn) (hro : ∀ y ∈ ro, y ∈ news) (hq : NumIn w ro dv qd) (hcb : ∀ kv ∈ kvs, 0 ≤ kv.1 ∧ kv.1 < 10000) :
    Calls w 388 14 [.ref d, dv] news (WrQ w news ro kn qd) :=
  (written_spec w news ro d o kvs kn dv qd hm hd1 lo hr1 hz hK hro hq hcb).weaken fun r n h => by
    (refine hideG ?_; intro G0)
    obtain ⟨dd, ws, k, new, rows, h3, h4, h5, h6, h7, h8⟩ := h
    (dsimp only [G0]); clear G0
    refine .mk dd ws k new rows h3 h4 h5 h6 h7 h8 ?_ ?_
    · rw [h6.length]
      have := List.length_filter_le (fun x : CW => !sameN x.2 qd) kn
      have := hK.length
      unfold wanted
      lgec_go
    · intro x hx
      (refine hideG ?_; intro G0)
      obtain ⟨y, hy, e⟩ := codes_mem h6 hx
      obtain ⟨kv, hkv, e2⟩ := hK.mem y (List.mem_filter.mp hy).1
      (dsimp only [G0]); clear G0
      rw [← e, ← e2]
      exact hcb kv hkv
theorem isw_spec (w : World) (news ro : Led) (d : Addr) (o : Obj) (kvs : List (Int × Value)) (kn : List CW) (dv : Value) (qd : Num) (hm : (d, o) ∈ news) (hd1 : o.IsDictOf (PySem.intKind PySem.Challenge.rw_nn0211_01.row.prog w) kvs) (lo : (d == sysModules) = false) (hr1 : Rising kvs) (hz : kvs.length ≤ 30)
    (hK : KvIn w ro kvs kn) (hro : ∀ y ∈ ro, y ∈ news) (hq : NumIn w ro dv qd) (hcb : ∀ kv ∈ kvs, 0 ≤ kv.1 ∧ kv.1 < 10000) :
    Calls w 424 16 [.ref d, dv] news (fun v news' => v = .bool true ∧ news' = news) := by
  intro mean mg mb dp un gd cn cs a ccd cl outer A₀ base h₀ L m s Q E B F X N T hk hd hu hret
  have hkl := hK.length
  k_steps
  refine Stop.on ?_
  have hro1 : ∀ y ∈ ro, y ∈ rest2' := fun y hy => hG2'.sub y (hG'.sub y (hro y hy))
  have hm2 : (d, o) ∈ rest2' := hG2'.sub _ (hG'.sub _ hm)
  refine compT_invC (fun i ys => IntsAre ys ((wanted (kn.take i) qd).map (·.1))) .nil ?turnA ?finA
  case turnA =>
    intro i ys v I oI C oC D m₂ h tk E' hi hJ hv hC hx F2 N2 off ne
    (refine hideG ?_; intro G0)
    obtain ⟨ne1, ne2, ne3⟩ := ne
    (dsimp only [G0]); clear G0
    have hv' : svs'[i]? = some v := by simpa using hv
    (refine hideG ?_; intro G0)
    obtain ⟨c, t, rfl, hc⟩ := IntsAre.at hI' i v hv'
    (dsimp only [G0]); clear G0
    have hil : i < kn.length := by rw [List.size_toArray] at hi; lgec_go
    (refine hideG ?_; intro G0)
    obtain ⟨c2, v1, q, hk1, hk2, hk3⟩ := hK.at i hil
    (dsimp only [G0]); clear G0
    rw [List.getElem?_map, hk1] at hc
    obtain rfl : c2 = c := by simpa using hc
    have hval := valueAt_of_get (rising_nodup hr1) hk1
    k_steps
    · refine LCg.CompEnd.intro (by k_asm) (by k_asm) _ (fun p hp => hp) off (Or.inr ⟨_, .head _, rfl, _, rfl⟩) ⟨?_, rfl⟩
      rw [wanted_skip hk2 (by assumption)]
      exact hJ
    · refine LCg.CompEnd.intro (by k_asm) (by k_asm) _ (fun p hp => hp) off (Or.inr ⟨_, .head _, rfl, _, rfl⟩) ⟨?_, rfl⟩
      rw [wanted_take hk2 (by assumption), List.map_append]
      exact hJ.append (.cons c2 t .nil)
  case finA =>
    intro ys hJ
    rw [List.size_toArray, hsl', hkl, List.take_length] at hJ
    have hyl := hJ.length
    have hroP : ∀ y ∈ new2' ++ (new' ++ ro), y ∈ rest2' := sub_app hsn2' (sub_app (fun y hy => hG2'.sub y (hsn' y hy)) hro1)
    have hpr : (pr', PySem.W.listOf pvs'.toArray pn') ∈ rest2' := hsn2' _ hp2'
    have hcod := hS'.codes
    k_steps
    refine Stop.on ?_
    refine compP_invC (fun i ys => IntsAre ys (((expand rows').take i).map (·.1))) .nil ?srcB ?finB
    case srcB =>
      intro i ys v hi hJ hv
      rw [List.size_toArray, hpl'] at hi
      (refine hideG ?_; intro G0)
      obtain ⟨t, c, tk, v1, k, q, h1, h2, h3, h4⟩ := hR2'.at i hi
      (dsimp only [G0]); clear G0
      have e : v = .ref t := by simpa [h1] using hv.symm
      subst e
      refine ⟨t, _, _, _, _, rfl, sub_mem (by tb_rel) h3, rfl, rfl, ?_⟩
      intro I oI C oC D m₂ h tk E' hC hx hx₂ F2 N2 off ne
      k_steps
      refine LCg.CompEnd.intro (by k_asm) (by k_asm) _ (fun p hp => hp) off (Or.inr ⟨_, sub_mem (by tb_rel) hpr, rfl, _, rfl⟩) ⟨?_, rfl⟩
      rw [List.take_add_one, h2, List.map_append]
      exact hJ.append (.cons c _ .nil)
    case finB =>
      intro ys2 hJ2
      rw [List.size_toArray, hpl', List.take_length, hcod] at hJ2
      have hyl2 := hJ2.length
      k_steps
      · refine Stop.on ?_
        refine' ListComp_PT (fun _ => True) ?F ?a ?b ?c ?d ?e ?f ?g ?h
        case F => k_asm
        case a => with_unfolding_all rfl
        case b => decide
        case c => rfl
        case d => decide
        case e => rfl
        case f => rfl
        case g => decide
        case h =>
          walk1
          refine ⟨pr', pvs', pn', _, fun i ys nw => ys = [] ∧ nw = _, rfl, by k_asm, by k_asm, by k_mem, by lgec_go, ⟨rfl, rfl⟩, ?hl, ?tn, ?fn⟩
          case hl =>
            rintro i ys nw ⟨_, rfl⟩
            k_mem
          case tn =>
            rintro i ys' nw v hv ⟨rfl, rfl⟩
            have hi : i < pvs'.length := by
              rcases Nat.lt_or_ge i pvs'.length with h | h
              · exact h
              · rw [List.getElem?_eq_none h] at hv; cases hv
            (refine hideG ?_; intro G0)
            obtain ⟨t, c, tk, v1, k, q, h1, h2, h3, h4⟩ := hR2'.at i (by lgec_go)
            (dsimp only [G0]); clear G0
            have e : v = .ref t := by simpa [h1] using hv.symm
            subst e
            (refine hideG ?_; intro G0)
            obtain ⟨q2, hq2, hsm⟩ := hS'.at i c q h2
            obtain ⟨v2, hkv, hn2⟩ := hK.get c q2 (List.mem_filter.mp (List.mem_of_getElem? hq2)).1
            (dsimp only [G0]); clear G0
            have hval := valueAt_mem hr1 hkv
            refine ⟨t, _, _, _, sub_mem (by tb_rel) h3, ?_⟩
            intro I oI C oC D m₂ h tk E' hC hx hx₂ F2 N2 off ne
            (refine hideG ?_; intro G0)
            obtain ⟨ne1, ne2, ne3⟩ := ne
            (dsimp only [G0]); clear G0
            k_steps
            exact LCg.CompEnd.intro (by k_asm) (by k_asm) _ (fun p hp => hp) off trivial ⟨rfl, rfl⟩
          case fn =>
            rintro D h tk ys nw ⟨rfl, rfl⟩ F3 N3 off3
            k_steps
            refine hret _ _ _ _ (by k_asm) ?_ ⟨by simp, rfl⟩
            rename News h₀ L _ (_ :: _) => NN
            have hz2 := hG2'.sub
            have hz1 := hG'.sub
            exact cb_drop NN (by tb_rel)
      · exact absurd rfl (by assumption)

end
section
theorem kw_Q7_0 : True := by
  k_with_none
  k_with "om" => first | decide | (with_reducible first | apply om1 <;> assumption | apply om284 <;> assumption | apply om285 <;> assumption | apply om286 <;> assumption | apply om287 <;> assumption | apply om288 <;> assumption | apply om289 <;> assumption)
  k_with "k_ne" => (refine neN ?_; (try dsimp only); first | with_reducible assumption | lgec_go)
  k_with "fold_depth" => first | ((with_reducible show wpAny _ (Around.deeper (ktrTop _ _ _ _ _ _ _ _ _ _) _) _ _ _ _); refine wp_fold4 ?_; intro A1 q0 e0) | (refine wp_fold2 ?_; intro q00 e00)
  k_with "fold_lay" => ((show wpAny _ _ _ _ _ _); first | (fail_if_success k_fold) | ((try clear qf); refine wp_fold ?_; intro qf))
  k_with "k_steps" => ((try dsimp only); (try fold_lay); repeat' (first | (k_unfold; (try dsimp only)) | (k_end; wrow_close) | (walk1; (try ((first | (with_reducible show wpAny _ _ (exec _ _) _ _ _) | (with_reducible show wpAny _ _ (execs _ _) _ _ _)); (try dsimp only); fold_lay))) | (dsimp only; walk1) | (leave1; walk_say "STEP leave1"; try dsimp only) | fail "no step"))
  k_with "k_room" => first | exact fastR (by assumption) | ktr_room | (simp only [A1]; ktr_room)
  k_with "k_units" => first | ktr_units | (simp only [A1]; ktr_units)
  k_with "k_enter" => (refine' code_defC ?k1_359 ?k2_359 ?k3_359 ?k4_359 ?k5_359 ?kA_359 ?kF_359 ?kK_359 ?k6_359 ?k7_359 ?k8_359 ?k9_359 ?kB_359 ?kD_359 ?_ ?c2_359 ?c3_359 ?c4_359; (case kA_359 => exact rfl); (case kF_359 => exact rfl); (case kK_359 => assumption); (case k1_359 => k_asm); (case k2_359 => k_asm); (case k3_359 => k_asm); (case k4_359 => k_asm); (case k5_359 => k_asm); (case k6_359 => k_is); (case k7_359 => k_is); (case k8_359 => k_room); (case k9_359 => first | exact BindsTo.of_eq rfl | exact binds_K (by k_in) rfl (by k_is) rfl rfl rfl); (case kB_359 => exact rfl); (case kD_359 => decide +kernel); (case c2_359 => exact rfl); (case c3_359 => exact rfl); (case c4_359 => exact rfl); k_whole; intro g' L' h' tk' cells' FG' F' N' Y' B' X' T' l1; (try k_lt l1); refine hideG ?_; intro G0; k_cells Y'; (dsimp only [G0]); (try clear G0); (try simp only [List.cons_append, List.nil_append] at N'); (try dsimp only); (try fold_depth))
  k_with "k_enter" => (refine' code_def ?k1_360 ?k2_360 ?k3_360 ?k4_360 ?k5_360 ?kA_360 ?kF_360 ?kK_360 ?k6_360 ?k7_360 ?k8_360 ?k9_360 ?kB_360 ?_ ?c2_360 ?c3_360 ?c4_360 ?c5_360; (case kA_360 => exact rfl); (case kF_360 => exact rfl); (case kK_360 => assumption); (case k1_360 => k_asm); (case k2_360 => k_asm); (case k3_360 => k_asm); (case k4_360 => k_asm); (case k5_360 => k_asm); (case k6_360 => k_is); (case k7_360 => k_is); (case k8_360 => k_room); (case k9_360 => first | exact BindsTo.of_eq rfl | exact binds_K (by k_in) rfl (by k_is) rfl rfl rfl); (case c5_360 => decide); (case kB_360 => exact locs rfl); (case c2_360 => exact rfl); (case c3_360 => exact rfl); (case c4_360 => exact rfl); k_whole; intro g' L' h' FG' F' N' B' X' T'; (try dsimp only); (try fold_depth))
  k_with "klt" => skip
  k_with "k_all" => first | exact List.forall_mem_nil _ | (with_reducible refine List.forall_mem_cons.mpr ⟨?_, ?_⟩; (focus k_ne); k_all) | with_reducible assumption | with_reducible exact allLt_off (by with_reducible assumption) | with_reducible exact lt_off (by with_reducible assumption) | with_reducible exact off1_off (by with_reducible assumption) | with_reducible exact off3_1 (by with_reducible assumption) | with_reducible exact off3_2 (by with_reducible assumption) | with_reducible exact off3_3 (by with_reducible assumption) | (with_reducible refine GrowK.off (by with_reducible assumption) ?_ ?_; (focus simp only [List.mem_cons, true_or, or_true]); k_all)
  k_with "tb_rel" => with_reducible first | assumption | exact sub_self | (refine sub_tail ?_; tb_rel) | (refine sub_growK (by assumption) ?_; tb_rel) | (refine sub_app ?_ ?_; (focus tb_rel); tb_rel) | (refine sub_consApp ?_; tb_rel) | (refine sub_appL ?_; tb_rel) | (refine sub_appR ?_; tb_rel)
  k_with "k_mem" => (refine sub_mem ?_ (by assumption); tb_rel)
  k_with "call builtin:len" => ((with_reducible show wpAny _ _ (call (Value.builtin "len") [Value.ref _]) _ _ _); k_dflt (refine' lst_len ?k1_364 ?k2_364 ?k3_364 ?_; (case k1_364 => k_asm); (case k2_364 => k_mem); (case k3_364 => lgec_go); k_whole))
  k_with "truthy ref" => (k_dflt (refine' lst_truthy ?k1_365 ?k2_365 ?k3_365 ?_; (case k1_365 => k_asm); (case k2_365 => k_mem); (case k3_365 => lgec_go); k_whole))
  k_with "call builtin:list.append" => ((with_reducible show wpAny _ _ (call (Value.builtin _) [Value.ref _, _]) _ _ _); k_dflt (refine' lst_append ?k1_366 ?k2_366 ?k3_366 ?k4_366 ?_; (case k1_366 => k_asm); (case k2_366 => k_asm); (case k3_366 => k_upd); (case k4_366 => lgec_go); k_whole); intro h' F' N'; (try k_sweep))
  k_with "call builtin:list.extend" => ((with_reducible show wpAny _ _ (call (Value.builtin _) [Value.ref _, Value.ref _]) _ _ _); k_dflt (refine' lst_extend ?k1_367 ?k2_367 ?k3_367 ?k4_367 ?k5_367 ?_; (case k1_367 => k_asm); (case k2_367 => k_asm); (case k3_367 => k_updF); (case k4_367 => k_mem); (case k5_367 => first | (simp only [List.length_take, List.length_drop, List.length_append, List.length_cons, List.length_nil]; lgec_go) | lgec_go); k_whole); intro h' n' F' N'; (try dsimp only at N'); (try k_sweep))
  k_with "binaryOp Add" => ((with_reducible show wpAny _ _ (binaryOp Operator.Add (Value.ref _) (Value.ref _)) _ _ _); k_dflt (refine' lst_add ?k1_368 ?k2_368 ?k3_368 ?k4_368 ?k5_368 ?_; (case k1_368 => k_asm); (case k2_368 => k_asm); (case k3_368 => k_mem); (case k4_368 => k_mem); (case k5_368 => first | (simp only [List.length_cons, List.length_nil]; lgec_go) | lgec_go); k_whole); intro l' h' F' N' l1; (try k_lt l1); (try k_sweep))
  k_with "binaryOp Add ref ref" => ((with_reducible show wpAny _ _ (binaryOp Operator.Add (Value.ref _) (Value.ref _)) _ _ _); k_dflt (refine' lst_add ?k1_369 ?k2_369 ?k3_369 ?k4_369 ?k5_369 ?_; (case k1_369 => k_asm); (case k2_369 => k_asm); (case k3_369 => k_mem); (case k4_369 => k_mem); (case k5_369 => first | (simp only [List.length_cons, List.length_nil]; lgec_go) | lgec_go); k_whole); intro l' h' F' N' l1; (try k_lt l1); (try k_sweep))
  k_with "subscriptTail Name Slice ref ref" => ((with_reducible show wpAny _ _ (subscriptTail _ _ (Value.ref _) (Value.ref _)) _ _ _); k_dflt (refine' lst_slice ?k1_370 ?k2_370 ?k3_370 ?k4_370 ?k5_370 ?k6_370 ?_; (case k1_370 => k_asm); (case k2_370 => k_asm); (case k3_370 => k_mem); (case k4_370 => lgec_go); (case k5_370 => lgec_go); (case k6_370 => lgec_go); k_whole); intro l' h' F' N' l1; (try k_lt l1); (try k_sweep))
  k_with "eval ListComp" => (first | ((with_reducible show wpAny _ _ (eval (PySem.Expr.ListComp _ [PySem.Comprehension.mk (PySem.Expr.Tuple _ _ _) _ [_] _] _ _) _) _ _ _); refine Stop.mk ?_) | (lct_look; k_dflt (refine LCt.ListComp_T (F₀ := by k_asm) (by with_unfolding_all rfl) (by decide) (by rfl) (by decide) (by rfl) ?_); k_dflt lct_toSrc) | (lcp_look; k_dflt (refine LCp.ListComp_P (F₀ := by k_asm) (by with_unfolding_all rfl) (by decide) (by rfl) (by decide) (by rfl) (by rfl) (by decide) ?_); k_dflt lcp_toSrc) | ((first | lcg_look | lcf_look); k_dflt (refine LCg.ListComp_U (F₀ := by k_asm) (by with_unfolding_all rfl) (by decide) (by rfl) (by decide) (by rfl) ?_); k_dflt lcg_toSrc) | refine Stop.mk ?_)
  k_with "exec Assign cons ListComp" => (first | (lct_look; k_dflt (refine LCt.Assign_ListComp_T (F₀ := by k_asm) (by rfl) (by with_unfolding_all rfl) (by with_unfolding_all rfl) (by decide) (by rfl) (by decide) (by rfl) (by rfl) (by rfl) ?_); k_dflt lct_toSrc) | (lcp_look; k_dflt (refine LCp.Assign_ListComp_P (F₀ := by k_asm) (by rfl) (by with_unfolding_all rfl) (by with_unfolding_all rfl) (by decide) (by rfl) (by decide) (by rfl) (by rfl) (by decide) (by rfl) (by rfl) ?_); k_dflt lcp_toSrc) | ((first | lcg_look | lcf_look); k_dflt (refine LCg.Assign_ListComp_U (F₀ := by k_asm) (by rfl) (by with_unfolding_all rfl) (by with_unfolding_all rfl) (by decide) (by rfl) (by decide) (by rfl) (by rfl) (by rfl) ?_); k_dflt lcg_toSrc))
  k_with "SrcLP" => (first | k_dflt (refine LCp.SrcLP.ledger (by rfl) (by k_asm) (by k_asm) (by k_mem) ?sz_373 ?_; (case sz_373 => rw [List.size_toArray, sizeLine_eq]; lgec_go); intro g'; refine Stop.mk ?_) | refine Stop.mk ?_)
  k_with "CompSrc" => (first | k_dflt (first | (refine LCg.CompSrc.ledger (by rfl) (by k_asm) (by k_asm) (by k_mem) ?sz_374 ?_; (case sz_374 => rw [List.size_toArray, sizeLine_eq]; lgec_go); intro g'; refine Stop.mk ?_) | (refine LCg.CompSrc.range (by rfl) (by k_asm) (by k_asm) (by assumption) (range_small (by first | decide | lgec_go) (by first | decide | lgec_go) (by lgec_go) (by lgec_go)) (by first | exact range_n0 | exact range_n) ?sz_374 ?_; (case sz_374 => rw [sizeLine_eq]; lgec_go); intro g'; refine Stop.mk ?_)) | refine Stop.mk ?_)
  k_with "CompSrcT" => (first | k_dflt (first | (refine LCt.CompSrcT.ledger (by rfl) (by k_asm) (by k_asm) (by k_mem) ?sz_375 ?_; (case sz_375 => rw [List.size_toArray, sizeLine_eq]; lgec_go); intro g'; refine Stop.mk ?_) | (refine LCt.CompSrcT.range (by rfl) (by k_asm) (by k_asm) (by assumption) (range_small (by first | decide | lgec_go) (by first | decide | lgec_go) (by lgec_go) (by lgec_go)) (by first | exact range_n0 | exact range_n) ?sz_375 ?_; (case sz_375 => rw [sizeLine_eq]; lgec_go); intro g'; refine Stop.mk ?_)) | refine Stop.mk ?_)
  trivial
noncomputable def CallsB (w : World) (P : Heap → Prop) (f : Addr) (H : Nat) (args : List Value) (news : Led) (Ret : Value → Led → Prop) : Prop :=
  ∀ (mean : ExcName → Option Value) (mg mb : Str → Option Value) (dp un : Nat) (gd : Option (List Code)) (cn : Str) (cs : Scope) (a : Addr) (ccd : Value) (cl : List (Str × Addr)) (outer : List Env) (A₀ : Around) (base h₀ : Heap) (L : Addr) (m : Str → Option Value) (s : Shared)
    (Q E : Value → Shared → Prop), P h₀ →
    Below A₀ base outer h₀ → Fr h₀ L s.heap m → (hd.heap_39 w.params).In h₀ → News h₀ L s.heap news → Top hd.view_39 Lo mean mg mb h₀ → cs.kind = .function →
    dp + H < recursionLimit → un + 8 * H < cLine →
    (∀ r news' h' tk', Fr h₀ L h' m → News h₀ L h' news' → Ret r news' → Q r { s with heap := h', toks := tk' }) →
    wpAny (model PySem.Challenge.rw_nn0211_01.row.prog w) (ktrTop dp un gd cn cs L a ccd cl outer) (call (.ref f) args) Q E s
theorem CallsB.use {w : World} {P : Heap → Prop} {f : Addr} {H : Nat} {args : List Value} {news : Led} {Ret : Value → Led → Prop} {mean : ExcName → Option Value} {mg mb : Str → Option Value} {dp un : Nat} {gd : Option (List Code)} {cn : Str} {cs : Scope} {a : Addr} {ccd : Value} {cl : List (Str × Addr)} {outer : List Env} {A₀ : Around} {base h₀ : Heap} {L : Addr} {m : Str → Option Value} {s : Shared}
    {Q E : Value → Shared → Prop} (pr : P h₀) (B : Below A₀ base outer h₀) (F : Fr h₀ L s.heap m) (X : (hd.heap_39 w.params).In h₀) (N : News h₀ L s.heap news) (T : Top hd.view_39 Lo mean mg mb h₀) (hk : cs.kind = .function)
    (C : CallsB w P f H args news Ret) (hd' : dp + H < recursionLimit) (hu : un + 8 * H < cLine)
    (ret : ∀ r news' h' tk', Fr h₀ L h' m → News h₀ L h' news' → Ret r news' → Q r { s with heap := h', toks := tk' }) :
    wpAny (model PySem.Challenge.rw_nn0211_01.row.prog w) (ktrTop dp un gd cn cs L a ccd cl outer) (call (.ref f) args) Q E s := C _ _ _ _ _ _ _ _ _ _ _ _ _ _ _ _ _ _ _ _ pr B F X N T hk hd' hu ret
theorem kw_Q7_1 : True := by
  k_with "subscriptTail Name Slice ref ref" => (k_here; (with_reducible show wpAny _ _ (subscriptTail _ (PySem.Expr.Slice _ _ none _) (Value.ref _) (Value.ref _)) _ _ _); k_dflt (refine' kmk_slice_ints ?ks1_376 ?ks2_376 ?ks3_376 ?ks4_376 ?ks5_376 ?ks6_376 ?ks7_376 ?ks8_376 ?_ ?ks9_376 ?ks10_376 ?ks11_376; (case ks1_376 => k_asm); (case ks2_376 => k_asm); (case ks3_376 => exact Fr.lst (by k_asm) (Fr.lst (by assumption) (by assumption))); (case ks4_376 => kmk_part); (case ks5_376 => kmk_part); (case ks6_376 => l_ints); (case ks7_376 => kmk_nums); (case ks8_376 => kmk_len); (case ks9_376 => with_unfolding_all rfl); (case ks10_376 => kmk_pure); (case ks11_376 => kmk_size)); intro D' ws' h' F' N' l1 hI' hC' hL'; (have hwl' := IntsAre.length hI'); (rw [List.length_take] at hwl'); (try k_lt l1); (try k_sweep))
  k_with "exec Assign cons ListComp" => ((with_reducible show wpAny _ _ (exec (PySem.Stmt.Assign _ (PySem.Expr.ListComp _ [PySem.Comprehension.mk (PySem.Expr.Name _ _) _ [] _] _ _) _) _) _ _ _); k_dflt (refine LCg.Assign_ListComp_U (F₀ := by k_asm) (by rfl) (by with_unfolding_all rfl) (by with_unfolding_all rfl) (by decide) (by rfl) (by decide) (by rfl) (by rfl) (by rfl) ?_); k_dflt lcg_toSrc)
  k_with "eval ListComp" => ((with_reducible show wpAny _ _ (eval (PySem.Expr.ListComp _ [PySem.Comprehension.mk (PySem.Expr.Name _ _) _ [] _] _ _) _) _ _ _); k_dflt (refine LCg.ListComp_U (F₀ := by k_asm) (by with_unfolding_all rfl) (by decide) (by rfl) (by decide) (by rfl) ?_); k_dflt lcg_toSrc)
  trivial
local macro_rules | `(tactic| walk_at "pyIter ref") => `(tactic| ((with_reducible show wpAny _ _ (pyIter (Value.ref _)) (fun it s₂ => LoopAtV _ _ _ _ _ _ _ _ _ it s₂) _ _); refine Stop.mk ?_))
section
open LCg LCt LCp
variable {prog : Program} {w : World} {A : Around} {h₀ : Heap} {L : Addr} {m : Str → Option Value} {env : Env} {elt ct : PySem.Expr} {x x₂ : Str} {scope : Scope} {cl : List (Str × Addr)} {s : Shared} {S : Led → Prop} {P : Nat → Value → Prop} {Fin : List Value → Led → Prop} {news : Led}
theorem comp_invC (J : Nat → List Value → Prop) {n : Nat} (h0 : J 0 [])
    (turn : ∀ i ys v I oI C oC D m₂ h tk (E' : Value → Shared → Prop), i < n → J i ys → P i v → LCg.NsObj oC m₂ → m₂ x = some v → Fr h₀ L h m → News h₀ L h ((I, oI) :: (C, oC) :: (D, LCg.lst ys) :: news) → LCg.Off3 I C D news → ((@Ne Nat I C) ∧ (@Ne Nat I D) ∧ (@Ne Nat C D)) →
      wpAny (model prog w) A (eval elt (compEnvC scope cl C env)) (LCg.CompEnd h₀ L m { s with heap := h, toks := tk } I oI C oC D (LCg.lst ys) S (fun y news' => J (i + 1) (ys ++ [y]) ∧ news' = news)) E' { s with heap := h, toks := tk })
    (fin : ∀ ys, J n ys → Fin ys news) : LCg.CompRest prog w A h₀ L m env elt x scope cl s S P Fin n 0 [] news :=
  comp_inv (fun i ys nw => J i ys ∧ nw = news) ⟨h0, rfl⟩ (fun i ys nw v I oI C oC D m₂ h tk E' hi hJ => by
    obtain ⟨hJ, e9⟩ := hJ
    replace e9 := Eq.symm e9
    subst e9
    exact turn i ys v I oI C oC D m₂ h tk E' hi hJ) fun ys nw hJ => by
    obtain ⟨hJ, e9⟩ := hJ
    replace e9 := Eq.symm e9
    subst e9
    exact fin ys hJ
end
theorem fold_in {f : Int × Unit → Int → Int × Unit} (hf : ∀ s n, 0 ≤ (f s n).1 ∧ (f s n).1 < 2147483647) : ∀ (l : List Int) (s : Int × Unit), 0 ≤ s.1 → s.1 < 2147483647 → 0 ≤ (l.foldl f s).1 ∧ (l.foldl f s).1 < 2147483647 := by
  intro l
  induction l with
  | nil => intro s h1 h2; exact ⟨h1, h2⟩
  | cons x l ih => intro s _ _; exact ih _ (hf s x).1 (hf s x).2
theorem pick4 {x1 x2 x3 x4 : Addr × Obj} {news : Led} : ∀ p ∈ x1 :: x2 :: news, p ∈ x1 :: x2 :: x3 :: x4 :: news := fun q hq => by
  rcases List.mem_cons.mp hq with rfl | hq
  · exact .head _
  · rcases List.mem_cons.mp hq with rfl | hq
    · exact .tail _ (.head _)
    · exact .tail _ (.tail _ (.tail _ (.tail _ hq)))
theorem pot_spec (w : World) (news : Led) (l : Addr) (vs : List Value) (ns : List Int) (hI : IntsAre vs ns) (hz : vs.length ≤ 63) :
    CallsB w (fun h => h.IsList l vs.toArray) 393 2 [.ref l] news (fun r news' => ∃ p c e1 e2, r = .ref p ∧ PotIn 0 c e1 e2 ∧ news' = (p, e1) :: (c, e2) :: news ∧ @Ne Nat p c ∧ (∀ q ∈ news, q.1 ≠ p) ∧ (∀ q ∈ news, q.1 ≠ c)) := by
  intro mean mg mb dp un gd cn cs a ccd cl outer A₀ base h₀ L m s Q E hL B F X N T hk hd hu hret
  have hil := hI.length
  k_steps
  refine Stop.on ?_
  (refine hideG ?_; intro G0)
  obtain ⟨cs', hcs⟩ : ∃ cs', cs' = List.take (Int.toNat 40) ns := ⟨_, rfl⟩
  (dsimp only [G0]); clear G0
  rw [← hcs] at hI'
  have hcl : cs'.length ≤ 40 := by rw [← hI'.length]; lgec_go
  refine comp_invC (fun i ys => IntsAre ys (cs'.take i)) .nil ?turnA ?finA
  case turnA =>
    intro i ys v I oI C oC D m₂ h tk E' hi hJ hv hC hx F2 N2 off ne
    (refine hideG ?_; intro G0)
    obtain ⟨ne1, ne2, ne3⟩ := ne
    obtain ⟨c, t, rfl, hc⟩ := IntsAre.at hI' i v (by simpa using hv)
    (dsimp only [G0]); clear G0
    k_steps
    refine LCg.CompEnd.intro (by k_asm) (by k_asm) _ (fun p hp => hp) off (Or.inr ⟨_, .head _, rfl, _, rfl⟩) ⟨?_, rfl⟩
    rw [List.take_add_one, hc]
    exact hJ.append (.cons c _ .nil)
  case finA =>
    intro ys hJ
    rw [List.size_toArray, hI'.length, List.take_length] at hJ
    have hyl := hJ.length
    have hJ9 := And.intro hJ trivial
    have hbl : 0 < 2147483647 := by decide
    k_steps
    refine Stop.on ?_
    refine comp_invC (fun i ys => ∃ ms, IntsAre ys ms ∧ ms.length = i ∧ ∀ n ∈ ms, 0 ≤ n ∧ n < 10 ^ 400) ⟨[], .nil, rfl, fun _ h => nomatch h⟩ ?turnB ?finB
    case turnB =>
      rintro i ys2 v I oI C oC D m₂ h tk E' hi hX9 hv hC hx F2 N2 off ne
      (refine hideG ?_; intro G0)
      obtain ⟨ms, hJ1, hJ2, hJ3⟩ := hX9
      (dsimp only [G0]); clear G0
      (refine hideG ?_; intro G0)
      obtain ⟨ne1, ne2, ne3⟩ := ne
      obtain ⟨c, t, rfl, hc⟩ := IntsAre.at hJ9.1 i v (by simpa using hv)
      (dsimp only [G0]); clear G0
      k_steps
      refine LCg.CompEnd.intro (by k_asm) (by k_asm) _ (fun p hp => hp) off (Or.inr ⟨_, .head _, rfl, _, rfl⟩) ⟨⟨_, hJ1.append (.cons _ _ .nil), by rw [List.length_append, hJ2]; rfl, fun n hn => ?_⟩, rfl⟩
      rcases List.mem_append.mp hn with h1 | h1
      · exact hJ3 n h1
      · rw [List.mem_singleton.mp h1]
        exact fm_in _ (by decide +kernel)
    case finB =>
      rintro ys2 hX9
      (refine hideG ?_; intro G0)
      obtain ⟨ms, hJ1, hJ2, hJ3⟩ := hX9
      (dsimp only [G0]); clear G0
      rw [List.size_toArray, hyl] at hJ2
      k_steps
      rename News h₀ L _ (_ :: _) => NN
      (refine hideG ?_; intro G0)
      obtain ⟨ho1, ho2, ho3⟩ := (by assumption : @Ne Nat _ _ ∧ @Ne Nat D' _ ∧ LCg.Off1 _ news)
      (dsimp only [G0]); clear G0
      refine hret _ _ _ _ (by k_asm) (cb_drop NN pick4) ⟨_, _, _, _, rfl, PotIn.mk (pl := 0) hJ1 (by lgec_go) hJ3 ?n2 ?n3 (Int.le_refl 0) (Int.le_refl 0), rfl, ?n4, ?n5, off1_off ho3⟩
      case n2 => exact (fold_in (fun s n => fm_in _ (by decide)) _ _ (by decide) (by decide)).1
      case n3 => exact (fold_in (fun s n => fm_in _ (by decide)) _ _ (by decide) (by decide)).2
      case n4 => k_ne
      case n5 => k_all

end
section
theorem kw_PD_0 : True := by
  k_with_none
  k_with "om" => first | decide | (with_reducible first | apply om6 <;> assumption | apply om13 <;> assumption | apply om14 <;> assumption | apply om25 <;> assumption | apply om30 <;> assumption | apply om32 <;> assumption | apply om33 <;> assumption | apply om34 <;> assumption | apply om35 <;> assumption | apply om52 <;> assumption | apply om53 <;> assumption | apply om54 <;> assumption | apply om55 <;> assumption | apply om56 <;> assumption | apply om57 <;> assumption | apply om58 <;> assumption | apply om59 <;> assumption | apply om60 <;> assumption | apply om290 <;> assumption | apply om291 <;> assumption | apply om292 <;> assumption | apply om293 <;> assumption | apply om294 <;> assumption | apply om295 <;> assumption | apply om296 <;> assumption)
  k_with "k_ne" => (refine neN ?_; (try dsimp only); first | with_reducible assumption | lgec_go)
  k_with "fold_depth" => first | ((with_reducible show wpAny _ (Around.deeper (ktrTop _ _ _ _ _ _ _ _ _ _) _) _ _ _ _); refine wp_fold4 ?_; intro A1 q0 e0) | (refine wp_fold2 ?_; intro q00 e00)
  k_with "fold_lay" => ((show wpAny _ _ _ _ _ _); first | (fail_if_success k_fold) | ((try clear qf); refine wp_fold ?_; intro qf))
  k_with "k_steps" => ((try dsimp only); (try fold_lay); repeat' (first | (k_unfold; (try dsimp only)) | (k_end; wrow_close) | (walk1; (try ((first | (with_reducible show wpAny _ _ (exec _ _) _ _ _) | (with_reducible show wpAny _ _ (execs _ _) _ _ _)); (try dsimp only); fold_lay))) | (dsimp only; walk1) | (leave1; walk_say "STEP leave1"; try dsimp only) | fail "no step"))
  k_with "k_room" => first | exact fastR (by assumption) | ktr_room | (simp only [A1]; ktr_room)
  k_with "k_units" => first | ktr_units | (simp only [A1]; ktr_units)
  k_with "k_enter" => (refine' code_defC ?k1_384 ?k2_384 ?k3_384 ?k4_384 ?k5_384 ?kA_384 ?kF_384 ?kK_384 ?k6_384 ?k7_384 ?k8_384 ?k9_384 ?kB_384 ?kD_384 ?_ ?c2_384 ?c3_384 ?c4_384; (case kA_384 => exact rfl); (case kF_384 => exact rfl); (case kK_384 => assumption); (case k1_384 => k_asm); (case k2_384 => k_asm); (case k3_384 => k_asm); (case k4_384 => k_asm); (case k5_384 => k_asm); (case k6_384 => k_is); (case k7_384 => k_is); (case k8_384 => k_room); (case k9_384 => first | exact BindsTo.of_eq rfl | exact binds_K (by k_in) rfl (by k_is) rfl rfl rfl); (case kB_384 => exact rfl); (case kD_384 => decide +kernel); (case c2_384 => exact rfl); (case c3_384 => exact rfl); (case c4_384 => exact rfl); k_whole; intro g' L' h' tk' cells' FG' F' N' Y' B' X' T' l1; (try k_lt l1); refine hideG ?_; intro G0; k_cells Y'; (dsimp only [G0]); (try clear G0); (try simp only [List.cons_append, List.nil_append] at N'); (try dsimp only); (try fold_depth))
  k_with "k_enter" => (refine' code_def ?k1_385 ?k2_385 ?k3_385 ?k4_385 ?k5_385 ?kA_385 ?kF_385 ?kK_385 ?k6_385 ?k7_385 ?k8_385 ?k9_385 ?kB_385 ?_ ?c2_385 ?c3_385 ?c4_385 ?c5_385; (case kA_385 => exact rfl); (case kF_385 => exact rfl); (case kK_385 => assumption); (case k1_385 => k_asm); (case k2_385 => k_asm); (case k3_385 => k_asm); (case k4_385 => k_asm); (case k5_385 => k_asm); (case k6_385 => k_is); (case k7_385 => k_is); (case k8_385 => k_room); (case k9_385 => first | exact BindsTo.of_eq rfl | exact binds_K (by k_in) rfl (by k_is) rfl rfl rfl); (case c5_385 => decide); (case kB_385 => exact locs rfl); (case c2_385 => exact rfl); (case c3_385 => exact rfl); (case c4_385 => exact rfl); k_whole; intro g' L' h' FG' F' N' B' X' T'; (try dsimp only); (try fold_depth))
  k_with "k_all" => assumption
  k_with "tb_start" => first | assumption | exact rot1 (by assumption) | exact rot2 (by assumption) | exact rot3 (by assumption) | exact rot4 (by assumption) | exact rot5 (by assumption) | exact rot6 (by assumption)
  k_with "call ref" => ((with_reducible show wpAny _ _ (call (Value.ref 400) _) _ _ _); k_dflt (refine' Calls.use ?k1_388 ?k2_388 ?k3_388 ?k4_388 ?k5_388 ?kK_388 ?C_388 ?kd_388 ?ku_388 ?_; (case k1_388 => k_asm); (case k2_388 => k_asm); (case k3_388 => k_asm); (case k4_388 => tb_start); (case k5_388 => k_asm); (case kK_388 => first | exact rfl | assumption); (case C_388 => exact draw_spec _ _ _ _ _ _ _ _ _ (by assumption) (by lgec_go) (by assumption) (by k_all) (by k_all) (by lgec_go) (by lgec_go)); (case kd_388 => first | exact fastD (by assumption) (by decide) | ktr_room); (case ku_388 => first | exact fastU (by assumption) (by decide) | ktr_units); k_whole; intro r' n' h' tk' F' N' hr'; refine hideG ?_; intro G0; (obtain ⟨x', t', e', hx0', hx1', e1', e2', hP', en'⟩ := hr'); subst e'; subst en'; (dsimp only [G0]); (try clear G0); (try k_sweep)))
  k_with "call ref" => ((with_reducible show wpAny _ _ (call (Value.ref 155) _) _ _ _); k_dflt (refine' Calls.use ?k1_389 ?k2_389 ?k3_389 ?k4_389 ?k5_389 ?kK_389 ?C_389 ?kd_389 ?ku_389 ?_; (case k1_389 => k_asm); (case k2_389 => k_asm); (case k3_389 => k_asm); (case k4_389 => k_asm); (case k5_389 => k_asm); (case kK_389 => first | exact rfl | assumption); (case C_389 => exact dec_make _ _ _ _ _ _ (by lgec_go) (by lgec_go) (by lgec_go) (by lgec_go)); (case kd_389 => first | exact fastD (by assumption) (by decide) | ktr_room); (case ku_389 => first | exact fastU (by assumption) (by decide) | ktr_units); k_whole; intro r' n' h' tk' F' N' hr'; refine hideG ?_; intro G0; (obtain ⟨x', d', T', P', t1', k1', t2', k2', n1', e', hz', hb1', hb2', hb3', l1', l2', e2'⟩ := hr'); subst e'; subst e2'; (try k_lt2 l2'); (dsimp only [G0]); (try clear G0); (try k_sweep)))
  trivial
inductive Atom where
  | int (i : Int) | dec (q : Num) | none | tru | name | sev
inductive Part where
  | one (a : Atom) | list (as : List Atom)
inductive AtomIn (w : World) (ro : Led) : Value → Atom → Prop where
  | int {i : Int} {t : Tok} : -2 ≤ i → i ≤ 1000 → AtomIn w ro (.int i t) (.int i)
  | dec {v : Value} {q : Num} : DecIn w ro v q → AtomIn w ro v (.dec q)
  | none : AtomIn w ro .none .none
  | tru : AtomIn w ro (.bool true) .tru
  | name {a d : Addr} {es : List DictEntry} {n : Nat} : (a, instObj 211 d) ∈ ro → (d, PySem.W.dictOf es n) ∈ ro → AtomIn w ro (.ref a) .name
  | sev {a : Addr} {vs : List Value} {k : Nat} : (a, PySem.W.listOf vs.toArray k) ∈ ro → AtomIn w ro (.ref a) .sev
inductive AtomsIn (w : World) (ro : Led) : List Value → List Atom → Prop where
  | nil : AtomsIn w ro [] []
  | cons {v : Value} {a : Atom} {vs : List Value} {as : List Atom} : AtomIn w ro v a → AtomsIn w ro vs as → AtomsIn w ro (v :: vs) (a :: as)
inductive PartIn (w : World) (ro : Led) : Value → Part → Prop where
  | one {v : Value} {a : Atom} : AtomIn w ro v a → a ≠ .sev → PartIn w ro v (.one a)
  | list {l : Addr} {vs : List Value} {k : Nat} {as : List Atom} : (l, PySem.W.listOf vs.toArray k) ∈ ro → AtomsIn w ro vs as → vs.length ≤ 6 → PartIn w ro (.ref l) (.list as)
inductive PartsIn (w : World) (ro : Led) : List Value → List Part → Prop where
  | nil : PartsIn w ro [] []
  | cons {v : Value} {p : Part} {vs : List Value} {ps : List Part} : PartIn w ro v p → PartsIn w ro vs ps → PartsIn w ro (v :: vs) (p :: ps)
section
variable {w : World} {ro ro' : Led}
theorem AtomIn.mono {v : Value} {a : Atom} (h : AtomIn w ro v a) (hs : ∀ p ∈ ro, p ∈ ro') : AtomIn w ro' v a := by
  cases h with
  | int h1 h2 => exact .int h1 h2
  | dec h => exact .dec (h.mono hs)
  | none => exact .none
  | tru => exact .tru
  | name h h2 => exact .name (hs _ h) (hs _ h2)
  | sev h => exact .sev (hs _ h)
theorem AtomsIn.mono {vs : List Value} {as : List Atom} (h : AtomsIn w ro vs as) (hs : ∀ p ∈ ro, p ∈ ro') : AtomsIn w ro' vs as := by
  induction h with
  | nil => exact .nil
  | cons h _ ih => exact .cons (h.mono hs) ih
theorem PartIn.mono {v : Value} {p : Part} (h : PartIn w ro v p) (hs : ∀ p ∈ ro, p ∈ ro') : PartIn w ro' v p := by
  cases h with
  | one h n => exact .one (h.mono hs) n
  | list h1 h2 h3 => exact .list (hs _ h1) (h2.mono hs) h3
theorem PartsIn.mono {vs : List Value} {ps : List Part} (h : PartsIn w ro vs ps) (hs : ∀ p ∈ ro, p ∈ ro') : PartsIn w ro' vs ps := by
  induction h with
  | nil => exact .nil
  | cons h _ ih => exact .cons (h.mono hs) ih
theorem AtomsIn.length {vs : List Value} {as : List Atom} (h : AtomsIn w ro vs as) : vs.length = as.length := by
  induction h with
  | nil => rfl
  | cons _ _ ih => simp [ih]
theorem PartsIn.length {vs : List Value} {ps : List Part} (h : PartsIn w ro vs ps) : vs.length = ps.length := by
  induction h with
  | nil => rfl
  | cons _ _ ih => simp [ih]
theorem AtomsIn.app {vs us : List Value} {as bs : List Atom} (h : AtomsIn w ro vs as) (g : AtomsIn w ro us bs) : AtomsIn w ro (vs ++ us) (as ++ bs) := by
  induction h with
  | nil => exact g
  | cons h _ ih => exact .cons h ih
theorem PartsIn.app {vs us : List Value} {ps qs : List Part} (h : PartsIn w ro vs ps) (g : PartsIn w ro us qs) : PartsIn w ro (vs ++ us) (ps ++ qs) := by
  induction h with
  | nil => exact g
  | cons h _ ih => exact .cons h ih
theorem AtomsIn.at {vs : List Value} {as : List Atom} (h : AtomsIn w ro vs as) : ∀ (i : Nat), i < vs.length → ∃ v a, vs[i]? = some v ∧ as[i]? = some a ∧ AtomIn w ro v a := by
  induction h with
  | nil => intro i hi; exact absurd hi (Nat.not_lt_zero _)
  | cons h _ ih =>
    intro i hi
    cases i with
    | zero => exact ⟨_, _, rfl, rfl, h⟩
    | succ i => exact ih i (Nat.lt_of_succ_lt_succ hi)
theorem PartsIn.at {vs : List Value} {ps : List Part} (h : PartsIn w ro vs ps) : ∀ (i : Nat), i < vs.length → ∃ v p, vs[i]? = some v ∧ ps[i]? = some p ∧ PartIn w ro v p := by
  induction h with
  | nil => intro i hi; exact absurd hi (Nat.not_lt_zero _)
  | cons h _ ih =>
    intro i hi
    cases i with
    | zero => exact ⟨_, _, rfl, rfl, h⟩
    | succ i => exact ih i (Nat.lt_of_succ_lt_succ hi)
theorem PartsIn.take {vs : List Value} {ps : List Part} (h : PartsIn w ro vs ps) : ∀ (i : Nat), PartsIn w ro (vs.take i) (ps.take i) := by
  induction h with
  | nil => intro i; simp only [List.take_nil]; exact .nil
  | cons h _ ih =>
    intro i
    cases i with
    | zero => exact .nil
    | succ i => exact .cons h (ih i)
theorem PartsIn.set {vs : List Value} {ps : List Part} (h : PartsIn w ro vs ps) {v : Value} {p : Part} (g : PartIn w ro v p) : ∀ (i : Nat), PartsIn w ro (vs.set i v) (ps.set i p) := by
  induction h with
  | nil => intro i; exact .nil
  | cons h hs ih =>
    intro i
    cases i with
    | zero => exact .cons g hs
    | succ i => exact .cons h (ih i)
end
theorem fd2b {x : Int} (h : 0 ≤ x) (h2 : x < 12) (h3 : x < 8) : 500 ≤ 500 + 50 * x.fdiv 2 ∧ 500 + 50 * x.fdiv 2 ≤ 650 := by
  rw [Int.fdiv_eq_ediv_of_nonneg _ (by decide)]
  constructor <;> lgec_go
inductive WAtomR (w : World) (p c : Addr) (e1 e2 : Obj) (B : Int) (rest : Led) (r : Value) (news' : Led) : Prop
  | mk (e1' e2' : Obj) (new : Led) (a : Atom) (hP : PotIn (B + 3) c e1' e2') (en : news' = (p, e1') :: (c, e2') :: (new ++ rest)) (hA : Above ((p, e1) :: (c, e2) :: rest) new) (hn : AtomIn w new r a) (hs : a ≠ .sev) : WAtomR w p c e1 e2 B rest r news'
theorem width_atom (w : World) (rest : Led) (p c : Addr) (e1 e2 : Obj) (B : Int) (hP : PotIn B c e1 e2) (hB : B + 3 < 1000000) (hpc : @Ne Nat p c) (offp : ∀ q ∈ rest, q.1 ≠ p) (offc : ∀ q ∈ rest, q.1 ≠ c) :
    Calls w 407 3 [.ref p] ((p, e1) :: (c, e2) :: rest) (WAtomR w p c e1 e2 B rest) := by
  intro mean mg mb dp un gd cn cs a ccd cl outer A₀ base h₀ L m s Q E B F X N T hk hd hu hret
  k_steps
  · rename PotIn _ _ _ _ => hP'
    have hx0 := hx0'
    have hx1 := hx1'
    rename (_ < 8) => hx8
    have := fd2b hx0 hx1 hx8
    exact hret _ _ _ _ (by k_asm) (by k_asm) ⟨_, _, [], _, PotIn.mono hP' (by lgec_go), rfl, (fun _ _ _ h => nomatch h), .int (by lgec_go) (by lgec_go), nofun⟩
  · rename PotIn _ _ _ _ => hP'
    exact hret _ _ _ _ (by k_asm) (regrW (by assumption)) ⟨_, _, [(_, _), (_, _)], _, PotIn.mono hP' (by lgec_go), rfl, above2 (by assumption) (by assumption), .dec (.mk (by assumption) (by assumption) (by assumption) (.head _) (.tail _ (.head _))), nofun⟩
section
variable {prog : Program} {w : World} {A : Around} {E : Value → Shared → Prop} {s : Shared} {h₀ : Heap} {L D : Addr} {m : Str → Option Value} {news news' : List (Addr × Obj)} {vs : List Value} {n : Nat} {k : Int} {t : Tok}
theorem lst_set {x : Value} {Q : Unit → Shared → Prop} (F : Fr h₀ L s.heap m) (N : News h₀ L s.heap news) (U : Upd D (PySem.W.listOf vs.toArray n) (PySem.W.listOf (vs.set k.toNat x).toArray n) news news') (h0 : 0 ≤ k) (h1 : k < vs.length) (hz : vs.length ≤ 1000)
    (h : ∀ h', Fr h₀ L h' m → News h₀ L h' news' → Q () { s with heap := h' }) :
    wpAny (model prog w) A (setItem (.ref D) (.int k t) x) Q E s := by
  obtain ⟨pre, post, rfl, rfl, a, b⟩ := U.split
  have z := N (D, PySem.W.listOf vs.toArray n) (List.mem_append.mpr (.inr (.head _)))
  refine ki_setAt z.1 h0 (by lgec_go) (by rw [List.size_toArray]; lgec_go) (h _ (F.change (Heap.SameBut.update ..) z.2.1 z.2.2) (ki_turn _ N a b ?_ ?_))
  · show vs.toArray.setIfInBounds k.toNat x = (vs.set k.toNat x).toArray
    apply Array.toList_inj.mp
    simp
  · simp
end
theorem PartsIn.pick {w : World} {ro : Led} {vs : List Value} {ps : List Part} {i : Nat} {v : Value} (h : PartsIn w ro vs ps) (hv : vs[i]? = some v) : ∃ p, ps[i]? = some p ∧ PartIn w ro v p := by
  obtain ⟨v', p, h1, h2, h3⟩ := h.at i (List.getElem?_eq_some_iff.mp hv).1
  rw [hv] at h1
  exact ⟨p, h2, Option.some.inj h1 ▸ h3⟩
section
variable {prog : Program} {w : World} {A : Around} {E : Value → Shared → Prop} {s : Shared} {h₀ : Heap} {L l : Addr} {m : Str → Option Value} {news news' : Led} {vs : List Value} {n : Nat} {k : Int} {t u : Tok}
theorem lst_pick {value slice : PySem.Expr} {Q : Value → Shared → Prop}
    (N : News h₀ L s.heap news) (hm : (l, PySem.W.listOf vs.toArray n) ∈ news) (h0 : 0 ≤ k) (hhi : k < vs.length) (hz : vs.length ≤ 1000) (h : ∀ v, vs[k.toNat]? = some v → Q v s)
    (hs : subscripted slice false (.ref l) (.int k u) = operate [.ref l, .int k u] (getItem (.ref l) (.int k u)) := by with_unfolding_all rfl) :
    wpAny (model prog w) A (subscriptTail value slice (.ref l) (.int k u)) Q E s := by
  have hx : vs[k.toNat]? = some (vs[k.toNat]'(by lgec_go)) := List.getElem?_eq_getElem _
  exact lst_item N hm h0 (by lgec_go) hx (h _ hx) hs
end
theorem isl_atom (w : World) (ro' ro : Led) (v : Value) (a : Atom) (h' : AtomIn w ro' v a) (hs : a ≠ .sev) (hro : ∀ p ∈ ro', p ∈ ro) {mean : ExcName → Option Value} {mg mb : Str → Option Value} {A A₀ : Around} {outer : List Env} {base h₀ : Heap} {L : Addr} {m : Str → Option Value} {s : Shared} {Q E : Value → Shared → Prop}
    (B : Below A₀ base outer h₀) (F : Fr h₀ L s.heap m) (X : (hd.heap_39 w.params).In h₀) (N : News h₀ L s.heap ro) (T : Top hd.view_39 Lo mean mg mb h₀) (hq : ∀ tk', Q (.bool false) { s with toks := tk' }) :
    wpAny (model PySem.Challenge.rw_nn0211_01.row.prog w) A (call (.builtin "isinstance") [v, .type "list"]) Q E s := by
  have h := h'.mono hro
  clear h'
  cases h with
  | sev _ => exact absurd rfl hs
  | dec h1 =>
    cases h1
    k_steps
    exact hq _
  | _ =>
    k_steps
    exact hq _
section
variable {prog : Program} {w : World} {A : Around} {E : Value → Shared → Prop} {s : Shared} {h₀ : Heap} {L l : Addr} {m : Str → Option Value} {news news' : Led} {vs : List Value} {n : Nat}
theorem lst_take {value slice : PySem.Expr} {y : Int} {u : Tok} {Q : Value → Shared → Prop} (F : Fr h₀ L s.heap m) (N : News h₀ L s.heap news) (hm : (l, PySem.W.listOf vs.toArray n) ∈ news) (hz : vs.length ≤ 1000) (hy : 0 ≤ y)
    (h : ∀ D h', Fr h₀ L h' m → News h₀ L h' ((D, PySem.W.listOf (vs.take y.toNat).toArray 0) :: news) → (∀ p ∈ news, p.1 < D) → Q (.ref D) { s with heap := h' })
    (hs : subscripted slice false (.ref l) (.ref s.heap.objs.size) = operate [.ref s.heap.objs.size, .ref l] (getItem (.ref l) (.ref s.heap.objs.size)) := by with_unfolding_all rfl) (ht : ∀ r, letTemporaryGo value (.ref l) r = pure () := by intro _; with_unfolding_all rfl) :
    wpAny (model prog w) A (subscriptTail value slice (.ref l) (.ref s.heap.objs.size)) Q E { s with heap := s.heap.push { cls := .type "slice", data := .fields #[.none, .int y u, .none] } } := by
  refine kmk_slice (lo := none) (hi := some y) F N (lst_is N hm) .none (.int y u) (fun D h' F' N' l1 => h D h' F' ?_ l1) hs ht (by rw [List.size_toArray, sizeLine_eq]; lgec_go)
  have e : sliceBounds none (some y) none vs.toArray.size = (((0 : Nat) : Int), ((min y.toNat vs.length : Nat) : Int), 1) := by
    simp only [sliceBounds, Option.getD_none, List.size_toArray, show (1 : Int) > 0 by decide, if_true, if_neg (show ¬ (y < 0) by lgec_go)]
    congr 1
    congr 1
    lgec_go
  rw [kmk_pick_nat _ e] at N'
  have e2 : (vs.toArray.toList.drop 0).take (min y.toNat vs.length - 0) = vs.take y.toNat := by
    show vs.take (min y.toNat vs.length - 0) = _
    rw [Nat.sub_zero, kmk_take_min]
  rw [e2] at N'
  exact N'
theorem lst_drop {value slice : PySem.Expr} {x : Int} {u : Tok} {Q : Value → Shared → Prop} (F : Fr h₀ L s.heap m) (N : News h₀ L s.heap news) (hm : (l, PySem.W.listOf vs.toArray n) ∈ news) (hz : vs.length ≤ 1000) (hx : 0 ≤ x)
    (h : ∀ D h', Fr h₀ L h' m → News h₀ L h' ((D, PySem.W.listOf (vs.drop x.toNat).toArray 0) :: news) → (∀ p ∈ news, p.1 < D) → Q (.ref D) { s with heap := h' })
    (hs : subscripted slice false (.ref l) (.ref s.heap.objs.size) = operate [.ref s.heap.objs.size, .ref l] (getItem (.ref l) (.ref s.heap.objs.size)) := by with_unfolding_all rfl) (ht : ∀ r, letTemporaryGo value (.ref l) r = pure () := by intro _; with_unfolding_all rfl) :
    wpAny (model prog w) A (subscriptTail value slice (.ref l) (.ref s.heap.objs.size)) Q E { s with heap := s.heap.push { cls := .type "slice", data := .fields #[.int x u, .none, .none] } } := by
  refine kmk_slice (lo := some x) (hi := none) F N (lst_is N hm) (.int x u) .none (fun D h' F' N' l1 => h D h' F' ?_ l1) hs ht (by rw [List.size_toArray, sizeLine_eq]; lgec_go)
  have e : sliceBounds (some x) none none vs.toArray.size = (((min x.toNat vs.length : Nat) : Int), ((vs.length : Nat) : Int), 1) := by
    simp only [sliceBounds, Option.getD_none, List.size_toArray, show (1 : Int) > 0 by decide, if_true, if_neg (show ¬ (x < 0) by lgec_go)]
    congr 1
    lgec_go
  rw [kmk_pick_nat _ e] at N'
  have e2 : (vs.toArray.toList.drop (min x.toNat vs.length)).take (vs.length - min x.toNat vs.length) = vs.drop x.toNat := by
    show (vs.drop (min x.toNat vs.length)).take (vs.length - min x.toNat vs.length) = _
    rw [kmk_drop_min]
    exact List.take_of_length_le (by rw [List.length_drop]; lgec_go)
  rw [e2] at N'
  exact N'
end
noncomputable def Short (k : Nat) (ps : List Part) : Prop := ∀ as, Part.list as ∈ ps → as.length ≤ k
theorem Short.nil {k : Nat} : Short k [] := fun _ h => nomatch h
theorem Short.app {k : Nat} {ps qs : List Part} (h : Short k ps) (g : Short k qs) : Short k (ps ++ qs) := fun as ha => (List.mem_append.mp ha).elim (h as) (g as)
theorem Short.one {k : Nat} {a : Atom} {ps : List Part} (h : Short k ps) : Short k (.one a :: ps) := fun as ha => by
  rcases List.mem_cons.mp ha with h1 | h1
  · cases h1
  · exact h as h1
theorem Short.list {k : Nat} {bs : List Atom} {ps : List Part} (h : Short k ps) (hb : bs.length ≤ k) : Short k (.list bs :: ps) := fun as ha => by
  rcases List.mem_cons.mp ha with h1 | h1
  · cases h1; exact hb
  · exact h as h1

end
section
theorem kw_E2_0 : True := by
  k_with_none
  k_with "om" => first | decide | (with_reducible first | apply om1 <;> assumption | apply om2 <;> assumption | apply om47 <;> assumption)
  k_with "k_ne" => (refine neN ?_; (try dsimp only); first | with_reducible assumption | lgec_go)
  k_with "fold_depth" => first | ((with_reducible show wpAny _ (Around.deeper (ktrTop _ _ _ _ _ _ _ _ _ _) _) _ _ _ _); refine wp_fold4 ?_; intro A1 q0 e0) | (refine wp_fold2 ?_; intro q00 e00)
  k_with "fold_lay" => ((show wpAny _ _ _ _ _ _); first | (fail_if_success k_fold) | ((try clear qf); refine wp_fold ?_; intro qf))
  k_with "k_steps" => ((try dsimp only); (try fold_lay); repeat' (first | (k_unfold; (try dsimp only)) | (k_end; wrow_close) | (walk1; (try ((first | (with_reducible show wpAny _ _ (exec _ _) _ _ _) | (with_reducible show wpAny _ _ (execs _ _) _ _ _)); (try dsimp only); fold_lay))) | (dsimp only; walk1) | (leave1; walk_say "STEP leave1"; try dsimp only) | fail "no step"))
  k_with "k_room" => first | exact fastR (by assumption) | ktr_room | (simp only [A1]; ktr_room)
  k_with "k_units" => first | ktr_units | (simp only [A1]; ktr_units)
  k_with "k_enter" => (refine' code_defC ?k1_395 ?k2_395 ?k3_395 ?k4_395 ?k5_395 ?kA_395 ?kF_395 ?kK_395 ?k6_395 ?k7_395 ?k8_395 ?k9_395 ?kB_395 ?kD_395 ?_ ?c2_395 ?c3_395 ?c4_395; (case kA_395 => exact rfl); (case kF_395 => exact rfl); (case kK_395 => assumption); (case k1_395 => k_asm); (case k2_395 => k_asm); (case k3_395 => k_asm); (case k4_395 => k_asm); (case k5_395 => k_asm); (case k6_395 => k_is); (case k7_395 => k_is); (case k8_395 => k_room); (case k9_395 => first | exact BindsTo.of_eq rfl | exact binds_K (by k_in) rfl (by k_is) rfl rfl rfl); (case kB_395 => exact rfl); (case kD_395 => decide +kernel); (case c2_395 => exact rfl); (case c3_395 => exact rfl); (case c4_395 => exact rfl); k_whole; intro g' L' h' tk' cells' FG' F' N' Y' B' X' T' l1; (try k_lt l1); refine hideG ?_; intro G0; k_cells Y'; (dsimp only [G0]); (try clear G0); (try simp only [List.cons_append, List.nil_append] at N'); (try dsimp only); (try fold_depth))
  k_with "k_enter" => (refine' code_def ?k1_396 ?k2_396 ?k3_396 ?k4_396 ?k5_396 ?kA_396 ?kF_396 ?kK_396 ?k6_396 ?k7_396 ?k8_396 ?k9_396 ?kB_396 ?_ ?c2_396 ?c3_396 ?c4_396 ?c5_396; (case kA_396 => exact rfl); (case kF_396 => exact rfl); (case kK_396 => assumption); (case k1_396 => k_asm); (case k2_396 => k_asm); (case k3_396 => k_asm); (case k4_396 => k_asm); (case k5_396 => k_asm); (case k6_396 => k_is); (case k7_396 => k_is); (case k8_396 => k_room); (case k9_396 => first | exact BindsTo.of_eq rfl | exact binds_K (by k_in) rfl (by k_is) rfl rfl rfl); (case c5_396 => decide); (case kB_396 => exact locs rfl); (case c2_396 => exact rfl); (case c3_396 => exact rfl); (case c4_396 => exact rfl); k_whole; intro g' L' h' FG' F' N' B' X' T'; (try dsimp only); (try fold_depth))
  k_with "klt" => skip
  k_with "k_all" => first | exact List.forall_mem_nil _ | (with_reducible refine List.forall_mem_cons.mpr ⟨?_, ?_⟩; (focus k_ne); k_all) | with_reducible assumption | with_reducible exact allLt_off (by with_reducible assumption) | (with_reducible refine GrowK.off (by with_reducible assumption) ?_ ?_; (focus simp only [List.mem_cons, true_or, or_true]); k_all)
  k_with "k_mem" => first | exact sub_mem (by assumption) (by assumption) | exact GrowK.mem (by assumption) (by assumption)
  k_with "tb_rel" => first | assumption | (intro p hp; solve_by_elim (maxDepth := 12) only [hp, List.Mem.tail, *])
  k_with "tb_start" => first | assumption | exact rot1 (by assumption) | exact rot2 (by assumption) | exact rot3 (by assumption) | exact rot4 (by assumption) | exact rot5 (by assumption) | exact rot6 (by assumption)
  k_with "call ref" => ((with_reducible show wpAny _ _ (call (Value.ref 400) _) _ _ _); first | (k_dflt (refine' Calls.useP ?k1_401 ?k2_401 ?k3_401 ?k4_401 ?k5_401 ?kK_401 ?C_401 ?kd_401 ?ku_401 ?_; (case k1_401 => k_asm); (case k2_401 => k_asm); (case k3_401 => k_asm); (case k4_401 => tb_start); (case k5_401 => k_asm); (case kK_401 => first | exact rfl | assumption); (case C_401 => exact draw_spec _ _ _ _ _ _ _ _ _ (by assumption) (by lgec_go) (by assumption) (by k_all) (by k_all) (by lgec_go) (by lgec_go)); (case kd_401 => first | exact fastD (by assumption) (by decide) | ktr_room); (case ku_401 => first | exact fastU (by assumption) (by decide) | ktr_units); k_whole; intro r' n' h' tk' F' N' hr'; refine hideG ?_; intro G0; (obtain ⟨x', t', e', hx0', hx1', e1', e2', hP', en'⟩ := hr'); subst e'; subst en'; (dsimp only [G0]); (try clear G0); (try k_sweep))) | refine Stop.mk ?_)
  k_with "call ref" => ((with_reducible show wpAny _ _ (call (Value.ref 407) _) _ _ _); first | (k_dflt (refine' Calls.useP ?k1_402 ?k2_402 ?k3_402 ?k4_402 ?k5_402 ?kK_402 ?C_402 ?kd_402 ?ku_402 ?_; (case k1_402 => k_asm); (case k2_402 => k_asm); (case k3_402 => k_asm); (case k4_402 => tb_start); (case k5_402 => k_asm); (case kK_402 => first | exact rfl | assumption); (case C_402 => exact width_spec _ _ _ _ _ _ _ (by assumption) (by lgec_go) (by assumption) (by k_all) (by k_all)); (case kd_402 => first | exact fastD (by assumption) (by decide) | ktr_room); (case ku_402 => first | exact fastU (by assumption) (by decide) | ktr_units); k_whole; intro r' n' h' tk' F' N' hr'; refine hideG ?_; intro G0; (obtain ⟨e1', e2', new', q', hP', en', hA', hn'⟩ := hr'); subst en'; (first | (obtain ⟨rest', htl', N9', hG', hsn'⟩ := grow7 N' (Above.apart hA') rfl rfl) | (obtain ⟨rest', htl', N9', hG', hsn'⟩ := grow6 N' (Above.apart hA') rfl rfl) | (obtain ⟨rest', htl', N9', hG', hsn'⟩ := grow5 N' (Above.apart hA') rfl rfl) | (obtain ⟨rest', htl', N9', hG', hsn'⟩ := grow4 N' (Above.apart hA') rfl rfl) | (obtain ⟨rest', htl', N9', hG', hsn'⟩ := grow3 N' (Above.apart hA') rfl rfl) | (obtain ⟨rest', htl', N9', hG', hsn'⟩ := grow2 N' (Above.apart hA') rfl rfl) | (obtain ⟨rest', htl', N9', hG', hsn'⟩ := grow1 N' (Above.apart hA') rfl rfl) | (obtain ⟨rest', htl', N9', hG', hsn'⟩ := grow0 N' (Above.apart hA') rfl rfl)); clear N'; (try dsimp only at hG'); (dsimp only [G0]); (try clear G0); (try k_sweep))) | refine Stop.mk ?_)
  trivial
local macro_rules | `(tactic| walk_at "pyIter ref") => `(tactic| ((with_reducible show wpAny _ _ (pyIter (Value.ref _)) (fun it s₂ => LoopAtV _ _ _ _ _ _ _ _ _ it s₂) _ _); refine Stop.mk ?_))
theorem kw_E2_1 : True := by
  k_with "setItem ref int" => (k_dflt (refine' kda_set (knd := PySem.intKind _ _) ?F_403 ?N_403 ?U_403 ?d_403 (intKind_is _ _ _ _) ?z_403 ?_; (case F_403 => k_asm); (case N_403 => k_asm); (case U_403 => k_updF); (case d_403 => assumption); (case z_403 => rw [sizeLine_eq]; lgec_go)); intro h' o' F' N' hd'; (try dsimp only at N'))
  k_with "getMethod type:Exception" => (k_here; refine' method_type (v := Value.builtin "Exception.__init__") ?F_404 ?X_404 (by kernel_rfl) (by decide +kernel) ?e_404 ?h_404 ?_; (case F_404 => k_asm); (case X_404 => k_asm); (case e_404 => k_dflt k_is); (case h_404 => k_handed))
  k_with "call builtin:Exception.__init__" => (refine' exc_initU ?ks0_405 ?ks1_405 ?ks2_405 ?ks3_405 ?ks4_405 ?_; (case ks0_405 => show 1 ≤ sizeLine; decide); (case ks2_405 => k_asm); (case ks3_405 => k_asm); (case ks1_405 => k_asm); (case ks4_405 => k_updF); intro t' h' F' N' l1; (try dsimp only at N'); (try k_lt l1); (try k_sweep))
  k_with "setAttr ref" => ((with_reducible show wpAny _ _ (setAttr (Value.ref _) (Str.ofString "what") _) _ _ _); refine' exc_set1 ?ks1_406 ?ks2_406 ?ks3_406 ?ks4_406 font59s font59m font59w ?_; (case ks1_406 => k_asm); (case ks3_406 => k_asm); (case ks2_406 => k_asm); (case ks4_406 => k_updF); intro dx' h' F' N' l1; (try dsimp only at N'); (try k_lt l1); (try k_sweep))
  k_with "setAttr ref" => ((with_reducible show wpAny _ _ (setAttr (Value.ref _) (Str.ofString "at") _) _ _ _); refine' exc_set2 ?ks1_407 ?ks2_407 ?ks3_407 ?ks4_407 ?ks9_407 ?ks5_407 font59s font59m font59a ?ks6_407 ?ks7_407 ?ks8_407 ?_; (case ks1_407 => k_asm); (case ks3_407 => k_asm); (case ks2_407 => k_asm); (case ks4_407 => k_mem); (case ks9_407 => k_mem); (case ks6_407 => k_get); (case ks7_407 => k_put); (case ks5_407 => k_upd); (case ks8_407 => exact Nat.le_of_ble_eq_true rfl); intro h' F' N'; (try k_sweep))
  trivial
theorem news_exc {h₀ h : Heap} {L : Addr} {a b c d : Addr × Obj} {news : Led} (N : News h₀ L h (a :: b :: c :: d :: news)) : News h₀ L h (c :: b :: news) := fun q hq => N q (by
  rcases List.mem_cons.mp hq with rfl | hq
  · exact .tail _ (.tail _ (.head _))
  · rcases List.mem_cons.mp hq with rfl | hq
    · exact .tail _ (.head _)
    · exact .tail _ (.tail _ (.tail _ (.tail _ hq))))
theorem font_call (w : World) (tx : Str) (tk : Tok) (news : Led) :
  ∀ (mean : ExcName → Option Value) (mg mb : Str → Option Value) (dp un : Nat) (gd : Option (List Code)) (cn : Str) (cs : Scope) (a : Addr) (ccd : Value) (cl : List (Str × Addr)) (outer : List Env) (A₀ : Around) (base h₀ : Heap) (L : Addr) (m : Str → Option Value) (s : Shared)
    (Q E : Value → Shared → Prop),
    Below A₀ base outer h₀ → Fr h₀ L s.heap m → (hd.heap_39 w.params).In h₀ → News h₀ L s.heap news → Top hd.view_39 Lo mean mg mb h₀ → cs.kind = .function →
    dp + 2 < recursionLimit → un + 8 * 2 < cLine →
    (∀ (e t d : Addr) (h' : Heap) (tk' : Nat), Fr h₀ L h' m → News h₀ L h' ((e, excD 59 t d) :: (t, tupO [.str tx tk]) :: news) → (∀ q ∈ news, q.1 ≠ e ∧ q.1 ≠ t) → t ≠ e → Q (.ref e) { s with heap := h', toks := tk' }) →
    wpAny (model PySem.Challenge.rw_nn0211_01.row.prog w) (ktrTop dp un gd cn cs L a ccd cl outer) (call (.ref 59) [.str tx tk]) Q E s := by
  intro mean mg mb dp un gd cn cs a ccd cl outer A₀ base h₀ L m s Q E B F X N T hk hd hu hret
  refine wpAny_call ?_
  refine font_make F N (X.keeps F.keep) font59 font59i font59f (by show 1 ≤ sizeLine; decide) ?_
  intro e t h' F' N' l1 l2
  have oe : ∀ y ∈ news, y.1 ≠ e := fun y hy => Nat.ne_of_lt (Nat.lt_trans (l1 y hy) l2)
  have ot : ∀ y ∈ news, y.1 ≠ t := fun y hy => Nat.ne_of_lt (l1 y hy)
  k_lt2 l2
  k_enter
  k_steps
  rename News h₀ L _ ((_, PySem.W.dictOf _ _) :: _) => NN
  exact hret _ _ _ _ _ (by k_asm) (news_exc NN) (fun q hq => ⟨oe q hq, Nat.ne_of_lt (allLt_lt (by assumption) q hq)⟩) (by k_ne)

end
section
theorem kw_E4_0 : True := by
  k_with_none
  k_with "om" => first | decide
  k_with "k_ne" => (refine neN ?_; (try dsimp only); first | with_reducible assumption | lgec_go)
  k_with "fold_depth" => first | ((with_reducible show wpAny _ (Around.deeper (ktrTop _ _ _ _ _ _ _ _ _ _) _) _ _ _ _); refine wp_fold4 ?_; intro A1 q0 e0) | (refine wp_fold2 ?_; intro q00 e00)
  k_with "fold_lay" => ((show wpAny _ _ _ _ _ _); first | (fail_if_success k_fold) | ((try clear qf); refine wp_fold ?_; intro qf))
  k_with "k_steps" => ((try dsimp only); (try fold_lay); repeat' (first | (k_unfold; (try dsimp only)) | (k_end; wrow_close) | (walk1; (try ((first | (with_reducible show wpAny _ _ (exec _ _) _ _ _) | (with_reducible show wpAny _ _ (execs _ _) _ _ _)); (try dsimp only); fold_lay))) | (dsimp only; walk1) | (leave1; walk_say "STEP leave1"; try dsimp only) | fail "no step"))
  k_with "k_room" => first | exact fastR (by assumption) | ktr_room | (simp only [A1]; ktr_room)
  k_with "k_units" => first | ktr_units | (simp only [A1]; ktr_units)
  k_with "k_enter" => (refine' code_defC ?k1_413 ?k2_413 ?k3_413 ?k4_413 ?k5_413 ?kA_413 ?kF_413 ?kK_413 ?k6_413 ?k7_413 ?k8_413 ?k9_413 ?kB_413 ?kD_413 ?_ ?c2_413 ?c3_413 ?c4_413; (case kA_413 => exact rfl); (case kF_413 => exact rfl); (case kK_413 => assumption); (case k1_413 => k_asm); (case k2_413 => k_asm); (case k3_413 => k_asm); (case k4_413 => k_asm); (case k5_413 => k_asm); (case k6_413 => k_is); (case k7_413 => k_is); (case k8_413 => k_room); (case k9_413 => first | exact BindsTo.of_eq rfl | exact binds_K (by k_in) rfl (by k_is) rfl rfl rfl); (case kB_413 => exact rfl); (case kD_413 => decide +kernel); (case c2_413 => exact rfl); (case c3_413 => exact rfl); (case c4_413 => exact rfl); k_whole; intro g' L' h' tk' cells' FG' F' N' Y' B' X' T' l1; (try k_lt l1); refine hideG ?_; intro G0; k_cells Y'; (dsimp only [G0]); (try clear G0); (try simp only [List.cons_append, List.nil_append] at N'); (try dsimp only); (try fold_depth))
  k_with "k_enter" => (refine' code_def ?k1_414 ?k2_414 ?k3_414 ?k4_414 ?k5_414 ?kA_414 ?kF_414 ?kK_414 ?k6_414 ?k7_414 ?k8_414 ?k9_414 ?kB_414 ?_ ?c2_414 ?c3_414 ?c4_414 ?c5_414; (case kA_414 => exact rfl); (case kF_414 => exact rfl); (case kK_414 => assumption); (case k1_414 => k_asm); (case k2_414 => k_asm); (case k3_414 => k_asm); (case k4_414 => k_asm); (case k5_414 => k_asm); (case k6_414 => k_is); (case k7_414 => k_is); (case k8_414 => k_room); (case k9_414 => first | exact BindsTo.of_eq rfl | exact binds_K (by k_in) rfl (by k_is) rfl rfl rfl); (case c5_414 => decide); (case kB_414 => exact locs rfl); (case c2_414 => exact rfl); (case c3_414 => exact rfl); (case c4_414 => exact rfl); k_whole; intro g' L' h' FG' F' N' B' X' T'; (try dsimp only); (try fold_depth))
  trivial
inductive Thrown (base : Heap) (l : List Env) (h₀ : Heap) (L : Addr) (m : Str → Option Value) (news : Led) (e : Addr) (h' : Heap) : Prop
  | mk (t : Addr) (vs : List Value) (g' : Heap) : Fr h₀ L g' m → g'.UpToSlots h' → RaisedK base l e (.ref 59) t vs news h' → Thrown base l h₀ L m news e h'
theorem raisedK_sub {base h : Heap} {l : List Env} {e t : Addr} {cls : Value} {vs : List Value} {news news' : Led} (R : RaisedK base l e cls t vs news h) (hs : ∀ q ∈ news', q ∈ news) : RaisedK base l e cls t vs news' h := by
  (refine hideG ?_; intro G0)
  obtain ⟨⟨B, hB, hl, r⟩, ht⟩ := R
  (dsimp only [G0]); clear G0
  exact ⟨⟨B, hB, fun q hq => hl q (hs q hq), r⟩, ht⟩
section
variable {prog : Program} {w : World} {M : Model} {A : Around} {E : Value → Shared → Prop} {s s' : Shared} {base g g₂ h h₀ : Heap} {outer : List Env} {L a e t d : Addr} {m : Str → Option Value} {name : Str} {scope : Scope} {cd : Value} {cl : List (Str × Addr)} {news news' : Led} {env : Env} {Q' : Unit → Shared → Prop}
theorem raise_font {x tx : Str} {k : Nat} {np cp cpos pos : Pos} {Q : Flow → Shared → Prop} (hev : ∀ Q' : Value → Shared → Prop, Q' (.ref 59) s → wpAny (model prog w) A (eval (.Name x np) env) Q' E s) (hh : A.handled = none) (X : (hd.heap_39 w.params).In s.heap)
    (h : wpAny (model prog w) A (call (.ref 59) [.str tx s.toks]) (fun v s₃ => ∃ e t d, v = .ref e ∧ (hd.heap_39 w.params).In s₃.heap ∧ s₃.heap.get? e = some (excD 59 t d) ∧ E (.ref e) s₃) E { s with toks := s.toks + 1 }) :
    wpAny (model prog w) A (exec (.Raise (some (.Call (.Name x np) [.Constant (.str tx) k cp] [] cpos)) none pos) env) Q E s := by
  rw [arm_exec_Raise]
  refine wpAny_bind (wpAny_standAt ?_)
  unfold raiseStmt
  refine wpAny_bind (wpAny_mono (Q := fun v s₃ => ∃ e t d, v = .ref e ∧ (hd.heap_39 w.params).In s₃.heap ∧ s₃.heap.get? e = some (excD 59 t d) ∧ E (.ref e) s₃) (E := E) ?_ (fun v s₁ h₁ => ?_) fun _ _ x => x)
  · refine wpAny_bind (wpAny_mono (Q := fun v s₃ => ∃ e t d, v = .ref e ∧ (hd.heap_39 w.params).In s₃.heap ∧ s₃.heap.get? e = some (excD 59 t d) ∧ E (.ref e) s₃) (E := E) (wpAny_Call_ofName (hev _ ?_)) (fun v s₃ h₃ => wpAny_bind (wpAny_standAt (wpAny_pure h₃))) fun _ _ x => x)
    (refine hideG ?_; intro G0)
    obtain ⟨nm, qn, N0, bs, bm, hdct, sn, sub, ab, col, dd, k0, k1, k2, k3, k5, hC, hB, hA, hN, hbb⟩ := font_cls X font59
    (dsimp only [G0]); clear G0
    unfold callWith
    refine wpAny_bind (wpAny_holding (wpAny_mono (Q := fun a s₂ => a = ⟨[.str tx s.toks], []⟩ ∧ s₂ = { s with toks := s.toks + 1 }) (E := E) (Calls.evalArgs_plain (Calls.spliced_cons (Calls.Constant_str (k := k) (pos := cp) (Calls.spliced_nil ⟨rfl, rfl⟩)))) (fun a s₂ h₂ => wpAny_bind (wpAny_standAt ?_)) fun _ _ x => x))
    obtain ⟨rfl, rfl⟩ := h₂
    (refine hideG ?_; intro G0)
    obtain ⟨hp, g, d, tk, os⟩ := s
    (dsimp only [G0]); clear G0
    refine wpAny_bind (wpAny_keeperOf_exc hC ?_)
    refine wpAny_bind (wpAny_mono h (fun v s₃ h₃ => ?_) fun _ _ x => x)
    exact wpAny_bind (wpAny_holding (wpAny_point (wpAny_pure h₃)))
  · obtain ⟨e, t, d, rfl, X1, he, hE⟩ := h₁
    (refine hideG ?_; intro G0)
    obtain ⟨nm, qn, N0, bs, bm, hdct, sn, sub, ab, col, dd, k0, k1, k2, k3, k5, hC, hB, hA, hN, hbb⟩ := font_cls X1 font59
    (dsimp only [G0]); clear G0
    have hcB : (Value.ref 59 :: bm).contains (.type "BaseException") = true := by rw [List.contains_cons, hbb, Bool.or_true]
    (refine hideG ?_; intro G0)
    obtain ⟨hp, g, d, tk, os⟩ := s₁
    (dsimp only [G0]); clear G0
    repeat (first | with_reducible refine wpAny_loadPart_at he ?_ | with_reducible refine wpAny_loadPart_at hC ?_ | (refine wpAny_isSubtype_exc hC ?_; rw [hcB]) | wp_step)
    exact wpAny_raiseNew_none hh hE
theorem leave_raiseX {C : Addr} {vs : List Value} (K : Below A base outer g) (F : Fr g L s'.heap m) (N : News g L s'.heap ((e, excD C t d) :: (t, tupO vs) :: news)) (off : ∀ q ∈ news, q.1 ≠ e ∧ q.1 ≠ t) (hte : t ≠ e)
    (hQ : ∀ h', RaisedK base outer e (.ref C) t vs news h' → g.UpToSlots h' → Q' () { s' with heap := h' }) (hk : scope.kind = .function := by rfl) :
    wpAny M (A.deeper (envX name scope L a cd cl)) (leaving (envX name scope L a cd cl) (.ref e)) Q' E s' := by
  have K' := pushX (env := envX name scope L a cd cl) K F rfl hk
  generalize henv : envX name scope L a cd cl = env at *
  have hf : env.frame = some L := by rw [← henv]
  have hin : ∀ v ∈ (env :: outer), ∀ b, v.frame = some b → b ∈ e :: t :: (env :: outer).filterMap (·.frame) := fun v hv b hb => .tail _ (.tail _ (List.mem_filterMap.mpr ⟨v, hv, hb⟩))
  have ze := N _ (.head _)
  have zt := N _ (.tail _ (.head _))
  have gn : ∀ {b}, g.get? b = none → base.get? b = none := fun h => fresh_of_stays K.stays h
  have st : base.StaysIn (hideAll s'.heap (e :: t :: (env :: outer).filterMap (·.frame))) := fun b o q => hideAll_get _ (K'.stays b o q) fun hm => by
    rcases List.mem_cons.mp hm with rfl | hm
    · rw [gn ze.2.2] at q; cases q
    · rcases List.mem_cons.mp hm with rfl | hm
      · rw [gn zt.2.2] at q; cases q
      · rw [(K'.frames.mem hm).1] at q; cases q
  have hl : ∀ q ∈ news, (hideAll s'.heap (e :: t :: (env :: outer).filterMap (·.frame))).get? q.1 = some q.2 ∧ base.get? q.1 = none := fun q hq => by
    have zq := N q (.tail _ (.tail _ hq))
    refine ⟨hideAll_get _ zq.1 fun hm => ?_, gn zq.2.2⟩
    rcases List.mem_cons.mp hm with h1 | hm
    · exact (off q hq).1 h1
    · rcases List.mem_cons.mp hm with h1 | hm
      · exact (off q hq).2 h1
      · obtain ⟨v, hv, hfv⟩ := List.mem_filterMap.mp hm
        rcases List.mem_cons.mp hv with rfl | hv
        · rw [hf] at hfv; exact zq.2.1 (Option.some.inj hfv).symm
        · obtain ⟨o, ho, _⟩ := (K.frames.mem (List.mem_filterMap.mpr ⟨v, hv, hfv⟩)).2
          rw [zq.2.2] at ho; cases ho
  have hne : (hideAll s'.heap (e :: t :: (env :: outer).filterMap (·.frame))).get? e = none := hideAll_none _ (.head _)
  have hnt : (hideAll s'.heap (e :: t :: (env :: outer).filterMap (·.frame))).get? t = none := hideAll_none _ (.tail _ (.head _))
  refine wpAny_leaving_firstW (a0 := .ref t) K'.stack (funFrames_hide K'.frames hin) hf ze.1 (fun b o q => of_hideAll _ q) hne rfl rfl rfl fun h' hL => ?_
  (refine hideG ?_; intro G0)
  obtain ⟨k1, ⟨_, _, k2⟩, k3, k4⟩ := hL
  (dsimp only [G0]); clear G0
  exact hQ h' ⟨⟨_, st, hl, ⟨k1, hne, k2, k3⟩, hnt⟩, Heap.TupAt.of_slots ⟨_, _, zt.1, rfl, rfl⟩ k4⟩ ((Heap.UpToSlots.of_keeps F.keep).trans k4)
theorem leave_onX {cls : Value} {vs : List Value} (K : Below A base outer g) (F : Fr g L g₂ m) (R : RaisedK base (envX name scope L a cd cl :: outer) e cls t vs news s'.heap) (hsm : g₂.UpToSlots s'.heap)
    (hQ : ∀ h', RaisedK base outer e cls t vs news h' → g.UpToSlots h' → Q' () { s' with heap := h' }) :
    wpAny M (A.deeper (envX name scope L a cd cl)) (leaving (envX name scope L a cd cl) (.ref e)) Q' E s' := by
  (refine hideG ?_; intro G0)
  obtain ⟨⟨B, hB, hl, hfl, hnew⟩, htup⟩ := R
  (dsimp only [G0]); clear G0
  exact wpAny_leaves_onW (Around.frames_deeper K.stack) rfl hfl fun h' x1 x2 => hQ h' ⟨⟨B, hB, hl, x1, hnew⟩, htup.of_slots x2⟩ ((Heap.UpToSlots.of_keeps F.keep).trans (hsm.trans x2))
end
noncomputable def CallsE (w : World) (f : Addr) (H : Nat) (args : List Value) (news : Led) (Ret : Value → Led → Prop) (Bad : Prop) : Prop :=
  ∀ (mean : ExcName → Option Value) (mg mb : Str → Option Value) (dp un : Nat) (gd : Option (List Code)) (cn : Str) (cs : Scope) (a : Addr) (ccd : Value) (cl : List (Str × Addr)) (outer : List Env) (A₀ : Around) (base h₀ : Heap) (L : Addr) (m : Str → Option Value) (s : Shared)
    (Q E : Value → Shared → Prop),
    Below A₀ base outer h₀ → Fr h₀ L s.heap m → (hd.heap_39 w.params).In h₀ → News h₀ L s.heap news → Top hd.view_39 Lo mean mg mb h₀ → cs.kind = .function →
    dp + H < recursionLimit → un + 8 * H < cLine →
    (∀ r news' h' tk', Fr h₀ L h' m → News h₀ L h' news' → Ret r news' → Q r { s with heap := h', toks := tk' }) →
    (∀ e h' tk', Bad → Thrown base (envX cn cs L a ccd cl :: outer) h₀ L m news e h' → E (.ref e) { s with heap := h', toks := tk' }) →
    wpAny (model PySem.Challenge.rw_nn0211_01.row.prog w) (ktrTop dp un gd cn cs L a ccd cl outer) (call (.ref f) args) Q E s
theorem CallsE.use {w : World} {f : Addr} {H : Nat} {args : List Value} {news : Led} {Ret : Value → Led → Prop} {Bad : Prop} {mean : ExcName → Option Value} {mg mb : Str → Option Value} {dp un : Nat} {gd : Option (List Code)} {cn : Str} {cs : Scope} {a : Addr} {ccd : Value} {cl : List (Str × Addr)} {outer : List Env} {A₀ : Around} {base h₀ : Heap} {L : Addr} {m : Str → Option Value} {s : Shared}
    {Q E : Value → Shared → Prop} (B : Below A₀ base outer h₀) (F : Fr h₀ L s.heap m) (X : (hd.heap_39 w.params).In h₀) (N : News h₀ L s.heap news) (T : Top hd.view_39 Lo mean mg mb h₀) (hk : cs.kind = .function)
    (C : CallsE w f H args news Ret Bad) (hd' : dp + H < recursionLimit) (hu : un + 8 * H < cLine)
    (ret : ∀ r news' h' tk', Fr h₀ L h' m → News h₀ L h' news' → Ret r news' → Q r { s with heap := h', toks := tk' })
    (err : ∀ e h' tk', Bad → Thrown base (envX cn cs L a ccd cl :: outer) h₀ L m news e h' → E (.ref e) { s with heap := h', toks := tk' }) :
    wpAny (model PySem.Challenge.rw_nn0211_01.row.prog w) (ktrTop dp un gd cn cs L a ccd cl outer) (call (.ref f) args) Q E s := C _ _ _ _ _ _ _ _ _ _ _ _ _ _ _ _ _ _ _ _ B F X N T hk hd' hu ret err
theorem font_use {w : World} {tx : Str} {tk : Tok} {news : Led} {mean : ExcName → Option Value} {mg mb : Str → Option Value} {dp un : Nat} {gd : Option (List Code)} {cn : Str} {cs : Scope} {a : Addr} {ccd : Value} {cl : List (Str × Addr)} {outer : List Env} {A₀ : Around} {base h₀ : Heap} {L : Addr} {m : Str → Option Value} {s : Shared}
    {E : Value → Shared → Prop} (B : Below A₀ base outer h₀) (F : Fr h₀ L s.heap m) (X : (hd.heap_39 w.params).In h₀) (N : News h₀ L s.heap news) (T : Top hd.view_39 Lo mean mg mb h₀) (hk : cs.kind = .function)
    (hd' : dp + 2 < recursionLimit) (hu : un + 8 * 2 < cLine)
    (h : ∀ e t d h' tk', Fr h₀ L h' m → News h₀ L h' ((e, excD 59 t d) :: (t, tupO [.str tx tk]) :: news) → (∀ q ∈ news, q.1 ≠ e ∧ q.1 ≠ t) → t ≠ e → E (.ref e) { s with heap := h', toks := tk' }) :
    wpAny (model PySem.Challenge.rw_nn0211_01.row.prog w) (ktrTop dp un gd cn cs L a ccd cl outer) (call (.ref 59) [.str tx tk]) (fun v s₃ => ∃ e t d, v = .ref e ∧ (hd.heap_39 w.params).In s₃.heap ∧ s₃.heap.get? e = some (excD 59 t d) ∧ E (.ref e) s₃) E s :=
  font_call w tx tk news mean mg mb dp un gd cn cs a ccd cl outer A₀ base h₀ L m s _ E B F X N T hk hd' hu fun e t d h' tk' F' N' off hte => ⟨e, t, d, rfl, X.keeps F'.keep, (N' _ (.head _)).1, h e t d h' tk' F' N' off hte⟩

end
section
theorem kw_E5_0 : True := by
  k_with_none
  k_with "om" => first | decide | (with_reducible first | apply om10 <;> assumption)
  k_with "k_ne" => (refine neN ?_; (try dsimp only); first | with_reducible assumption | lgec_go)
  k_with "fold_depth" => first | ((with_reducible show wpAny _ (Around.deeper (ktrTop _ _ _ _ _ _ _ _ _ _) _) _ _ _ _); refine wp_fold4 ?_; intro A1 q0 e0) | (refine wp_fold2 ?_; intro q00 e00)
  k_with "fold_lay" => ((show wpAny _ _ _ _ _ _); first | (fail_if_success k_fold) | ((try clear qf); refine wp_fold ?_; intro qf))
  k_with "k_steps" => ((try dsimp only); (try fold_lay); repeat' (first | (k_unfold; (try dsimp only)) | (k_end; wrow_close) | (walk1; (try ((first | (with_reducible show wpAny _ _ (exec _ _) _ _ _) | (with_reducible show wpAny _ _ (execs _ _) _ _ _)); (try dsimp only); fold_lay))) | (dsimp only; walk1) | (leave1; walk_say "STEP leave1"; try dsimp only) | fail "no step"))
  k_with "k_room" => first | exact fastR (by assumption) | ktr_room | (simp only [A1]; ktr_room)
  k_with "k_units" => first | ktr_units | (simp only [A1]; ktr_units)
  k_with "k_enter" => (refine' code_defC ?k1_420 ?k2_420 ?k3_420 ?k4_420 ?k5_420 ?kA_420 ?kF_420 ?kK_420 ?k6_420 ?k7_420 ?k8_420 ?k9_420 ?kB_420 ?kD_420 ?_ ?c2_420 ?c3_420 ?c4_420; (case kA_420 => exact rfl); (case kF_420 => exact rfl); (case kK_420 => assumption); (case k1_420 => k_asm); (case k2_420 => k_asm); (case k3_420 => k_asm); (case k4_420 => k_asm); (case k5_420 => k_asm); (case k6_420 => k_is); (case k7_420 => k_is); (case k8_420 => k_room); (case k9_420 => first | exact BindsTo.of_eq rfl | exact binds_K (by k_in) rfl (by k_is) rfl rfl rfl); (case kB_420 => exact rfl); (case kD_420 => decide +kernel); (case c2_420 => exact rfl); (case c3_420 => exact rfl); (case c4_420 => exact rfl); k_whole; intro g' L' h' tk' cells' FG' F' N' Y' B' X' T' l1; (try k_lt l1); refine hideG ?_; intro G0; k_cells Y'; (dsimp only [G0]); (try clear G0); (try simp only [List.cons_append, List.nil_append] at N'); (try dsimp only); (try fold_depth))
  k_with "k_enter" => (refine' code_def ?k1_421 ?k2_421 ?k3_421 ?k4_421 ?k5_421 ?kA_421 ?kF_421 ?kK_421 ?k6_421 ?k7_421 ?k8_421 ?k9_421 ?kB_421 ?_ ?c2_421 ?c3_421 ?c4_421 ?c5_421; (case kA_421 => exact rfl); (case kF_421 => exact rfl); (case kK_421 => assumption); (case k1_421 => k_asm); (case k2_421 => k_asm); (case k3_421 => k_asm); (case k4_421 => k_asm); (case k5_421 => k_asm); (case k6_421 => k_is); (case k7_421 => k_is); (case k8_421 => k_room); (case k9_421 => first | exact BindsTo.of_eq rfl | exact binds_K (by k_in) rfl (by k_is) rfl rfl rfl); (case c5_421 => decide); (case kB_421 => exact locs rfl); (case c2_421 => exact rfl); (case c3_421 => exact rfl); (case c4_421 => exact rfl); k_whole; intro g' L' h' FG' F' N' B' X' T'; (try dsimp only); (try fold_depth))
  k_with "klt" => skip
  k_with "k_all" => first | exact List.forall_mem_nil _ | (with_reducible refine List.forall_mem_cons.mpr ⟨?_, ?_⟩; (focus k_ne); k_all) | with_reducible assumption | with_reducible exact allLt_off (by with_reducible assumption) | with_reducible exact lt_off (by with_reducible assumption) | with_reducible exact off1_off (by with_reducible assumption) | with_reducible exact off3_1 (by with_reducible assumption) | with_reducible exact off3_2 (by with_reducible assumption) | with_reducible exact off3_3 (by with_reducible assumption) | (with_reducible refine GrowK.off (by with_reducible assumption) ?_ ?_; (focus simp only [List.mem_cons, true_or, or_true]); k_all)
  k_with "tb_rel" => with_reducible first | assumption | exact sub_self | (refine sub_tail ?_; tb_rel) | (refine sub_growK (by assumption) ?_; tb_rel) | (refine sub_app ?_ ?_; (focus tb_rel); tb_rel) | (refine sub_consApp ?_; tb_rel) | (refine sub_appL ?_; tb_rel) | (refine sub_appR ?_; tb_rel)
  k_with "k_mem" => (refine sub_mem ?_ (by assumption); tb_rel)
  trivial
noncomputable def kindA : Atom → Str
  | .int _ => "int" | .dec _ => "real" | .none => "null" | .tru => "truth" | .name => "name" | .sev => "array"
noncomputable def kindP : Part → Str
  | .one a => kindA a | .list _ => "array"
theorem kindA_spec (w : World) (ro : Led) (v : Value) (a : Atom) (h : AtomIn w ro v a) : Calls w 293 2 [v] ro (fun r news' => (∃ tk, r = .str (kindA a) tk) ∧ news' = ro) := by
  intro mean mg mb dp un gd cn cs a₀ ccd cl outer A₀ base h₀ L m s Q E B F X N T hk hd hu hret
  cases h with
  | int h1 h2 =>
    k_steps
    exact hret _ _ _ _ (by k_asm) (by k_asm) ⟨⟨_, rfl⟩, rfl⟩
  | dec h1 =>
    cases h1
    k_steps
    exact hret _ _ _ _ (by k_asm) (by k_asm) ⟨⟨_, rfl⟩, rfl⟩
  | none =>
    k_steps
    exact hret _ _ _ _ (by k_asm) (by k_asm) ⟨⟨_, rfl⟩, rfl⟩
  | tru =>
    k_steps
    exact hret _ _ _ _ (by k_asm) (by k_asm) ⟨⟨_, rfl⟩, rfl⟩
  | name h1 h2 =>
    k_steps
    exact hret _ _ _ _ (by k_asm) (by k_asm) ⟨⟨_, rfl⟩, rfl⟩
  | sev h1 =>
    k_steps
    exact hret _ _ _ _ (by k_asm) (by k_asm) ⟨⟨_, rfl⟩, rfl⟩
theorem kindP_spec (w : World) (ro : Led) (v : Value) (p : Part) (h : PartIn w ro v p) : Calls w 293 2 [v] ro (fun r news' => (∃ tk, r = .str (kindP p) tk) ∧ news' = ro) := by
  cases h with
  | one h1 h2 => exact kindA_spec w ro v _ h1
  | list h1 h2 h3 => exact kindA_spec w ro _ .sev (.sev h1)

end
section
theorem kw_E6_0 : True := by
  k_with_none
  k_with "om" => first | decide | (with_reducible first | apply om22 <;> assumption)
  k_with "k_ne" => (refine neN ?_; (try dsimp only); first | with_reducible assumption | lgec_go)
  k_with "fold_depth" => first | ((with_reducible show wpAny _ (Around.deeper (ktrTop _ _ _ _ _ _ _ _ _ _) _) _ _ _ _); refine wp_fold4 ?_; intro A1 q0 e0) | (refine wp_fold2 ?_; intro q00 e00)
  k_with "fold_lay" => ((show wpAny _ _ _ _ _ _); first | (fail_if_success k_fold) | ((try clear qf); refine wp_fold ?_; intro qf))
  k_with "k_steps" => ((try dsimp only); (try fold_lay); repeat' (first | (k_unfold; (try dsimp only)) | (k_end; wrow_close) | (walk1; (try ((first | (with_reducible show wpAny _ _ (exec _ _) _ _ _) | (with_reducible show wpAny _ _ (execs _ _) _ _ _)); (try dsimp only); fold_lay))) | (dsimp only; walk1) | (leave1; walk_say "STEP leave1"; try dsimp only) | fail "no step"))
  k_with "k_room" => first | exact fastR (by assumption) | ktr_room | (simp only [A1]; ktr_room)
  k_with "k_units" => first | ktr_units | (simp only [A1]; ktr_units)
  k_with "k_enter" => (refine' code_defC ?k1_430 ?k2_430 ?k3_430 ?k4_430 ?k5_430 ?kA_430 ?kF_430 ?kK_430 ?k6_430 ?k7_430 ?k8_430 ?k9_430 ?kB_430 ?kD_430 ?_ ?c2_430 ?c3_430 ?c4_430; (case kA_430 => exact rfl); (case kF_430 => exact rfl); (case kK_430 => assumption); (case k1_430 => k_asm); (case k2_430 => k_asm); (case k3_430 => k_asm); (case k4_430 => k_asm); (case k5_430 => k_asm); (case k6_430 => k_is); (case k7_430 => k_is); (case k8_430 => k_room); (case k9_430 => first | exact BindsTo.of_eq rfl | exact binds_K (by k_in) rfl (by k_is) rfl rfl rfl); (case kB_430 => exact rfl); (case kD_430 => decide +kernel); (case c2_430 => exact rfl); (case c3_430 => exact rfl); (case c4_430 => exact rfl); k_whole; intro g' L' h' tk' cells' FG' F' N' Y' B' X' T' l1; (try k_lt l1); refine hideG ?_; intro G0; k_cells Y'; (dsimp only [G0]); (try clear G0); (try simp only [List.cons_append, List.nil_append] at N'); (try dsimp only); (try fold_depth))
  k_with "k_enter" => (refine' code_def ?k1_431 ?k2_431 ?k3_431 ?k4_431 ?k5_431 ?kA_431 ?kF_431 ?kK_431 ?k6_431 ?k7_431 ?k8_431 ?k9_431 ?kB_431 ?_ ?c2_431 ?c3_431 ?c4_431 ?c5_431; (case kA_431 => exact rfl); (case kF_431 => exact rfl); (case kK_431 => assumption); (case k1_431 => k_asm); (case k2_431 => k_asm); (case k3_431 => k_asm); (case k4_431 => k_asm); (case k5_431 => k_asm); (case k6_431 => k_is); (case k7_431 => k_is); (case k8_431 => k_room); (case k9_431 => first | exact BindsTo.of_eq rfl | exact binds_K (by k_in) rfl (by k_is) rfl rfl rfl); (case c5_431 => decide); (case kB_431 => exact locs rfl); (case c2_431 => exact rfl); (case c3_431 => exact rfl); (case c4_431 => exact rfl); k_whole; intro g' L' h' FG' F' N' B' X' T'; (try dsimp only); (try fold_depth))
  k_with "klt" => skip
  k_with "k_all" => first | exact List.forall_mem_nil _ | (with_reducible refine List.forall_mem_cons.mpr ⟨?_, ?_⟩; (focus k_ne); k_all) | with_reducible assumption | with_reducible exact allLt_off (by with_reducible assumption) | with_reducible exact lt_off (by with_reducible assumption) | with_reducible exact off1_off (by with_reducible assumption) | with_reducible exact off3_1 (by with_reducible assumption) | with_reducible exact off3_2 (by with_reducible assumption) | with_reducible exact off3_3 (by with_reducible assumption) | (with_reducible refine GrowK.off (by with_reducible assumption) ?_ ?_; (focus simp only [List.mem_cons, true_or, or_true]); k_all)
  k_with "tb_rel" => with_reducible first | assumption | exact sub_self | (refine sub_tail ?_; tb_rel) | (refine sub_growK (by assumption) ?_; tb_rel) | (refine sub_app ?_ ?_; (focus tb_rel); tb_rel) | (refine sub_consApp ?_; tb_rel) | (refine sub_appL ?_; tb_rel) | (refine sub_appR ?_; tb_rel)
  k_with "k_mem" => (refine sub_mem ?_ (by assumption); tb_rel)
  k_with "call ref" => ((with_reducible show wpAny _ _ (call (Value.ref 293) _) _ _ _); first | (k_dflt (refine' Calls.use ?k1_435 ?k2_435 ?k3_435 ?k4_435 ?k5_435 ?kK_435 ?C_435 ?kd_435 ?ku_435 ?_; (case k1_435 => k_asm); (case k2_435 => k_asm); (case k3_435 => k_asm); (case k4_435 => k_asm); (case k5_435 => k_asm); (case kK_435 => first | exact rfl | assumption); (case C_435 => exact kindA_spec _ _ _ _ (by assumption)); (case kd_435 => first | exact fastD (by assumption) (by decide) | ktr_room); (case ku_435 => first | exact fastU (by assumption) (by decide) | ktr_units); k_whole; intro r' n' h' tk' F' N' hr'; refine hideG ?_; intro G0; (obtain ⟨⟨tk2', e'⟩, en'⟩ := hr'); subst e'; subst en'; (dsimp only [G0]); (try clear G0); (try k_sweep))) | refine Stop.mk ?_)
  trivial
noncomputable def numA : Atom → Bool
  | .int _ => true | .dec _ => true | _ => false
theorem isnum_spec (w : World) (ro : Led) (v : Value) (a : Atom) (h : AtomIn w ro v a) : Calls w 300 4 [v] ro (fun r news' => r = .bool (numA a) ∧ news' = ro) := by
  intro mean mg mb dp un gd cn cs a₀ ccd cl outer A₀ base h₀ L m s Q E B F X N T hk hd hu hret
  k_steps
  exact hret _ _ _ _ (by k_asm) (by rename News h₀ L _ (_ :: _) => NN; exact cb_drop NN (by tb_rel)) ⟨by cases a <;> rfl, rfl⟩

end
section
theorem kw_E7_0 : True := by
  k_with_none
  k_with "om" => first | decide | (with_reducible first | apply om64 <;> assumption | apply om297 <;> assumption | apply om298 <;> assumption)
  k_with "k_ne" => (refine neN ?_; (try dsimp only); first | with_reducible assumption | lgec_go)
  k_with "fold_depth" => first | ((with_reducible show wpAny _ (Around.deeper (ktrTop _ _ _ _ _ _ _ _ _ _) _) _ _ _ _); refine wp_fold4 ?_; intro A1 q0 e0) | (refine wp_fold2 ?_; intro q00 e00)
  k_with "fold_lay" => ((show wpAny _ _ _ _ _ _); first | (fail_if_success k_fold) | ((try clear qf); refine wp_fold ?_; intro qf))
  k_with "k_steps" => ((try dsimp only); (try fold_lay); repeat' (first | (k_unfold; (try dsimp only)) | (k_end; wrow_close) | (walk1; (try ((first | (with_reducible show wpAny _ _ (exec _ _) _ _ _) | (with_reducible show wpAny _ _ (execs _ _) _ _ _)); (try dsimp only); fold_lay))) | (dsimp only; walk1) | (leave1; walk_say "STEP leave1"; try dsimp only) | fail "no step"))
  k_with "k_room" => first | exact fastR (by assumption) | ktr_room | (simp only [A1]; ktr_room)
  k_with "k_units" => first | ktr_units | (simp only [A1]; ktr_units)
  k_with "k_enter" => (refine' code_defC ?k1_441 ?k2_441 ?k3_441 ?k4_441 ?k5_441 ?kA_441 ?kF_441 ?kK_441 ?k6_441 ?k7_441 ?k8_441 ?k9_441 ?kB_441 ?kD_441 ?_ ?c2_441 ?c3_441 ?c4_441; (case kA_441 => exact rfl); (case kF_441 => exact rfl); (case kK_441 => assumption); (case k1_441 => k_asm); (case k2_441 => k_asm); (case k3_441 => k_asm); (case k4_441 => k_asm); (case k5_441 => k_asm); (case k6_441 => k_is); (case k7_441 => k_is); (case k8_441 => k_room); (case k9_441 => first | exact BindsTo.of_eq rfl | exact binds_K (by k_in) rfl (by k_is) rfl rfl rfl); (case kB_441 => exact rfl); (case kD_441 => decide +kernel); (case c2_441 => exact rfl); (case c3_441 => exact rfl); (case c4_441 => exact rfl); k_whole; intro g' L' h' tk' cells' FG' F' N' Y' B' X' T' l1; (try k_lt l1); refine hideG ?_; intro G0; k_cells Y'; (dsimp only [G0]); (try clear G0); (try simp only [List.cons_append, List.nil_append] at N'); (try dsimp only); (try fold_depth))
  k_with "k_enter" => (refine' code_def ?k1_442 ?k2_442 ?k3_442 ?k4_442 ?k5_442 ?kA_442 ?kF_442 ?kK_442 ?k6_442 ?k7_442 ?k8_442 ?k9_442 ?kB_442 ?_ ?c2_442 ?c3_442 ?c4_442 ?c5_442; (case kA_442 => exact rfl); (case kF_442 => exact rfl); (case kK_442 => assumption); (case k1_442 => k_asm); (case k2_442 => k_asm); (case k3_442 => k_asm); (case k4_442 => k_asm); (case k5_442 => k_asm); (case k6_442 => k_is); (case k7_442 => k_is); (case k8_442 => k_room); (case k9_442 => first | exact BindsTo.of_eq rfl | exact binds_K (by k_in) rfl (by k_is) rfl rfl rfl); (case c5_442 => decide); (case kB_442 => exact locs rfl); (case c2_442 => exact rfl); (case c3_442 => exact rfl); (case c4_442 => exact rfl); k_whole; intro g' L' h' FG' F' N' B' X' T'; (try dsimp only); (try fold_depth))
  k_with "klt" => skip
  k_with "k_all" => first | exact List.forall_mem_nil _ | (with_reducible refine List.forall_mem_cons.mpr ⟨?_, ?_⟩; (focus k_ne); k_all) | with_reducible assumption | with_reducible exact allLt_off (by with_reducible assumption) | with_reducible exact lt_off (by with_reducible assumption) | with_reducible exact off1_off (by with_reducible assumption) | with_reducible exact off3_1 (by with_reducible assumption) | with_reducible exact off3_2 (by with_reducible assumption) | with_reducible exact off3_3 (by with_reducible assumption) | (with_reducible refine GrowK.off (by with_reducible assumption) ?_ ?_; (focus simp only [List.mem_cons, true_or, or_true]); k_all)
  k_with "tb_rel" => with_reducible first | assumption | exact sub_self | (refine sub_tail ?_; tb_rel) | (refine sub_growK (by assumption) ?_; tb_rel) | (refine sub_app ?_ ?_; (focus tb_rel); tb_rel) | (refine sub_consApp ?_; tb_rel) | (refine sub_appL ?_; tb_rel) | (refine sub_appR ?_; tb_rel)
  k_with "k_mem" => (refine sub_mem ?_ (by assumption); tb_rel)
  k_with "call ref" => ((with_reducible show wpAny _ _ (call (Value.ref 293) _) _ _ _); first | (k_dflt (refine' Calls.use ?k1_446 ?k2_446 ?k3_446 ?k4_446 ?k5_446 ?kK_446 ?C_446 ?kd_446 ?ku_446 ?_; (case k1_446 => k_asm); (case k2_446 => k_asm); (case k3_446 => k_asm); (case k4_446 => k_asm); (case k5_446 => k_asm); (case kK_446 => first | exact rfl | assumption); (case C_446 => exact kindA_spec _ _ _ _ (by assumption)); (case kd_446 => first | exact fastD (by assumption) (by decide) | ktr_room); (case ku_446 => first | exact fastU (by assumption) (by decide) | ktr_units); k_whole; intro r' n' h' tk' F' N' hr'; refine hideG ?_; intro G0; (obtain ⟨⟨tk2', e'⟩, en'⟩ := hr'); subst e'; subst en'; (dsimp only [G0]); (try clear G0); (try k_sweep))) | refine Stop.mk ?_)
  k_with "call ref" => ((with_reducible show wpAny _ _ (call (Value.ref 300) _) _ _ _); first | (k_dflt (refine' Calls.use ?k1_447 ?k2_447 ?k3_447 ?k4_447 ?k5_447 ?kK_447 ?C_447 ?kd_447 ?ku_447 ?_; (case k1_447 => k_asm); (case k2_447 => k_asm); (case k3_447 => k_asm); (case k4_447 => k_asm); (case k5_447 => k_asm); (case kK_447 => first | exact rfl | assumption); (case C_447 => exact isnum_spec _ _ _ _ (by assumption)); (case kd_447 => first | exact fastD (by assumption) (by decide) | ktr_room); (case ku_447 => first | exact fastU (by assumption) (by decide) | ktr_units); k_whole; intro r' n' h' tk' F' N' hr'; refine hideG ?_; intro G0; (obtain ⟨e', en'⟩ := hr'); subst e'; subst en'; (dsimp only [G0]); (try clear G0); (try k_sweep))) | refine Stop.mk ?_)
  k_with "exec Raise some none" => ((with_reducible show wpAny _ _ (exec (Stmt.Raise (some (Expr.Call (Expr.Name _ _) [Expr.Constant _ _ _] [] _)) none _) _) _ _ _); k_dflt (refine' raise_font ?ks1_448 ?ks2_448 ?ks3_448 ?_; (case ks1_448 => (intro Q9 hq9; walk1; exact hq9)); (case ks2_448 => first | rfl | assumption); (case ks3_448 => k_in); refine' font_use ?k1_448 ?k2_448 ?k3_448 ?k4_448 ?k5_448 ?kK_448 ?kd_448 ?ku_448 ?_; (case k1_448 => k_asm); (case k2_448 => k_asm); (case k3_448 => k_asm); (case k4_448 => k_asm); (case k5_448 => k_asm); (case kK_448 => first | exact rfl | assumption); (case kd_448 => first | exact fastD (by assumption) (by decide) | ktr_room); (case ku_448 => first | exact fastU (by assumption) (by decide) | ktr_units); k_whole; intro e9 t9 d9 h' tk' F' NR9 off9 hte9))
  k_with "leaving ref" => first | (refine' leave_raiseX ?ks1_449 ?ks2_449 NR9 off9 hte9 ?_ ?ksk_449; (case ks1_449 => assumption); (case ks2_449 => assumption); (case ksk_449 => rfl); k_whole; intro h' R' U'; (try dsimp only at R' U' ⊢)) | (refine' leave_onX ?ks1_449 ?ks2_449 ?ks3_449 ?ks4_449 ?_; (case ks3_449 => assumption); (case ks1_449 => assumption); (case ks4_449 => assumption); (case ks2_449 => assumption); k_whole; intro h' R' U'; (try dsimp only at R' U' ⊢))
  trivial
noncomputable def codeA : Atom → Option Int
  | .int i => if 0 ≤ i then some i else none | _ => none
theorem kind_i {i : Int} : (kindA (.int i) != Str.ofString "int") = false := by
  show (Str.ofString "int" != Str.ofString "int") = false
  decide +kernel
theorem kind_d {q : Num} : (kindA (.dec q) != Str.ofString "int") = true := by
  show (Str.ofString "real" != Str.ofString "int") = true
  decide +kernel
theorem kind_ne {a : Atom} (h : ∀ i, a ≠ .int i) : (kindA a != Str.ofString "int") = true := by
  cases a with
  | int i => exact absurd rfl (h i)
  | dec q => exact kind_d
  | none => decide +kernel
  | tru => decide +kernel
  | name => decide +kernel
  | sev => decide +kernel
theorem numof_spec (w : World) (ro : Led) (v : Value) (a : Atom) (h : AtomIn w ro v a) : CallsE w 343 8 [v] ro (fun r news' => r = v ∧ numA a = true ∧ news' = ro) (numA a = false) := by
  intro mean mg mb dp un gd cn cs a₀ ccd cl outer A₀ base h₀ L m s Q E B F X N T hk hd hu hret herr
  k_steps
  · exact hret _ _ _ _ (by k_asm) (by k_asm) ⟨rfl, by simp_all, rfl⟩
  · exact herr _ _ _ (by simp_all) ⟨_, _, _, by assumption, by assumption, raisedK_sub (by assumption) (by tb_rel)⟩
theorem whole_no (w : World) (ro : Led) (v : Value) (a : Atom) (h : AtomIn w ro v a) (hn : ∀ i, a ≠ .int i) {Ret : Value → Led → Prop} : CallsE w 350 8 [v] ro Ret True := by
  intro mean mg mb dp un gd cn cs a₀ ccd cl outer A₀ base h₀ L m s Q E B F X N T hk hd hu hret herr
  have hz := kind_ne hn
  k_steps
  all_goals first | exact herr _ _ _ trivial ⟨_, _, _, by assumption, by assumption, raisedK_sub (by assumption) (by tb_rel)⟩ | exact absurd (hz.symm.trans (by assumption)) (by decide)
theorem whole_int (w : World) (ro : Led) (i : Int) (t : Tok) (h : AtomIn w ro (.int i t) (.int i)) : CallsE w 350 8 [.int i t] ro (fun r news' => r = .int i t ∧ 0 ≤ i ∧ news' = ro) (i < 0) := by
  intro mean mg mb dp un gd cn cs a₀ ccd cl outer A₀ base h₀ L m s Q E B F X N T hk hd hu hret herr
  have hz := kind_i (i := i)
  k_steps
  · exact herr _ _ _ (by assumption) ⟨_, _, _, by assumption, by assumption, raisedK_sub (by assumption) (by tb_rel)⟩
  · exact hret _ _ _ _ (by k_asm) (by k_asm) ⟨rfl, by lgec_go, rfl⟩
theorem whole_spec (w : World) (ro : Led) (v : Value) (a : Atom) (h : AtomIn w ro v a) : CallsE w 350 8 [v] ro (fun r news' => r = v ∧ (∃ i t, v = .int i t ∧ a = .int i ∧ 0 ≤ i) ∧ news' = ro) (codeA a = none) := by
  by_cases hn : ∃ i, a = .int i
  · obtain ⟨i, rfl⟩ := hn
    cases h with
    | int h1 h2 =>
      intro mean mg mb dp un gd cn cs a₀ ccd cl outer A₀ base h₀ L m s Q E B F X N T hk hd hu hret herr
      exact whole_int w ro i _ (.int h1 h2) mean mg mb dp un gd cn cs a₀ ccd cl outer A₀ base h₀ L m s Q E B F X N T hk hd hu (fun r n h tk F N hr => hret r n h tk F N ⟨hr.1, ⟨i, _, rfl, rfl, hr.2.1⟩, hr.2.2⟩) (fun e h tk hb ht => herr e h tk (if_neg (by lgec_go)) ht)
  · have hn' : ∀ i, a ≠ .int i := fun i e => hn ⟨i, e⟩
    intro mean mg mb dp un gd cn cs a₀ ccd cl outer A₀ base h₀ L m s Q E B F X N T hk hd hu hret herr
    exact whole_no w ro v a h hn' mean mg mb dp un gd cn cs a₀ ccd cl outer A₀ base h₀ L m s Q E B F X N T hk hd hu hret (fun e h tk hb ht => herr e h tk (by cases a <;> first | rfl | exact absurd rfl (hn' _)) ht)

end
section
theorem kw_X1_0 : True := by
  k_with_none
  k_with "om" => first | decide
  k_with "k_ne" => (refine neN ?_; (try dsimp only); first | with_reducible assumption | lgec_go)
  k_with "fold_depth" => first | ((with_reducible show wpAny _ (Around.deeper (ktrTop _ _ _ _ _ _ _ _ _ _) _) _ _ _ _); refine wp_fold4 ?_; intro A1 q0 e0) | (refine wp_fold2 ?_; intro q00 e00)
  k_with "fold_lay" => ((show wpAny _ _ _ _ _ _); first | (fail_if_success k_fold) | ((try clear qf); refine wp_fold ?_; intro qf))
  k_with "k_steps" => ((try dsimp only); (try fold_lay); repeat' (first | (k_unfold; (try dsimp only)) | (k_end; wrow_close) | (walk1; (try ((first | (with_reducible show wpAny _ _ (exec _ _) _ _ _) | (with_reducible show wpAny _ _ (execs _ _) _ _ _)); (try dsimp only); fold_lay))) | (dsimp only; walk1) | (leave1; walk_say "STEP leave1"; try dsimp only) | fail "no step"))
  k_with "k_room" => first | exact fastR (by assumption) | ktr_room | (simp only [A1]; ktr_room)
  k_with "k_units" => first | ktr_units | (simp only [A1]; ktr_units)
  k_with "k_enter" => (refine' code_defC ?k1_455 ?k2_455 ?k3_455 ?k4_455 ?k5_455 ?kA_455 ?kF_455 ?kK_455 ?k6_455 ?k7_455 ?k8_455 ?k9_455 ?kB_455 ?kD_455 ?_ ?c2_455 ?c3_455 ?c4_455; (case kA_455 => exact rfl); (case kF_455 => exact rfl); (case kK_455 => assumption); (case k1_455 => k_asm); (case k2_455 => k_asm); (case k3_455 => k_asm); (case k4_455 => k_asm); (case k5_455 => k_asm); (case k6_455 => k_is); (case k7_455 => k_is); (case k8_455 => k_room); (case k9_455 => first | exact BindsTo.of_eq rfl | exact binds_K (by k_in) rfl (by k_is) rfl rfl rfl); (case kB_455 => exact rfl); (case kD_455 => decide +kernel); (case c2_455 => exact rfl); (case c3_455 => exact rfl); (case c4_455 => exact rfl); k_whole; intro g' L' h' tk' cells' FG' F' N' Y' B' X' T' l1; (try k_lt l1); refine hideG ?_; intro G0; k_cells Y'; (dsimp only [G0]); (try clear G0); (try simp only [List.cons_append, List.nil_append] at N'); (try dsimp only); (try fold_depth))
  k_with "k_enter" => (refine' code_def ?k1_456 ?k2_456 ?k3_456 ?k4_456 ?k5_456 ?kA_456 ?kF_456 ?kK_456 ?k6_456 ?k7_456 ?k8_456 ?k9_456 ?kB_456 ?_ ?c2_456 ?c3_456 ?c4_456 ?c5_456; (case kA_456 => exact rfl); (case kF_456 => exact rfl); (case kK_456 => assumption); (case k1_456 => k_asm); (case k2_456 => k_asm); (case k3_456 => k_asm); (case k4_456 => k_asm); (case k5_456 => k_asm); (case k6_456 => k_is); (case k7_456 => k_is); (case k8_456 => k_room); (case k9_456 => first | exact BindsTo.of_eq rfl | exact binds_K (by k_in) rfl (by k_is) rfl rfl rfl); (case c5_456 => decide); (case kB_456 => exact locs rfl); (case c2_456 => exact rfl); (case c3_456 => exact rfl); (case c4_456 => exact rfl); k_whole; intro g' L' h' FG' F' N' B' X' T'; (try dsimp only); (try fold_depth))
  trivial
section
variable {M : Model} {A : Around} {E : Value → Shared → Prop} {s : Shared}
theorem noteFrame_env {x : Value} {e1 e2 : Env} (h : e1.frame = e2.frame) : noteFrame x e1 = noteFrame x e2 := by
  unfold noteFrame frameOf
  rw [h]
theorem setFlight_any {base : Heap} {l : List Env} {e : Addr} {cls a0 fl : Value} {Q : Unit → Shared → Prop} (fr : Option Addr)
    (hkb : base.StaysIn s.heap) (hl : s.heap.FunFrames base l) (ht : s.heap.TracedAtW base e cls a0 fl)
    (h : ∀ h', base.StaysIn h' → h'.FunFrames base l → h'.TracedAtW base e cls a0 (fr.elim Value.none fun f => rawInt f) → (∀ b o, s.heap.get? b = some o → (∀ vs, o.data ≠ .fields vs) → h'.get? b = some o) → Q () { s with heap := h' }) :
    wpAny M A (setFlight (.ref e) fr) Q E s := by
  (refine hideG ?_; intro G0)
  obtain ⟨oe, vs, T, oT, ts, he, hcls, hd, h1, hnT, hTe, hT, hdT, h3⟩ := ht
  (dsimp only [G0]); clear G0
  have hsz3 : 3 < ts.size := (Array.getElem?_eq_some_iff.mp h3).1
  have other : ∀ b, b ≠ T → (s.heap.update T (Obj.mapFields (·.setIfInBounds 3 (fr.elim Value.none fun f => rawInt f)))).get? b = s.heap.get? b :=
    fun b hb => Heap.get?_update_other _ _ (Ne.symm hb)
  have noRecord : ∀ b o, s.heap.get? b = some o → (∀ vs, o.data ≠ .fields vs) → b ≠ T := fun b o hb hnf q => by
    rw [q, hT] at hb; injection hb with hb; subst hb; exact hnf ts hdT
  unfold setFlight
  refine wpAny_bind (wpAny_field he hd h1 ?_)
  rw [if_pos (show (Value.ref T != Value.none) = true from by simp)]
  refine wpAny_setField hT hdT hsz3 (h _ (fun b o hbo => (other b fun q => by rw [q, hnT] at hbo; cases hbo).trans (hkb b o hbo))
    (hl.of_keeps fun b o hb hnf => ⟨o, (other b (noRecord b o hb hnf)).trans hb, rfl⟩) ?_ fun b o hb hnf => (other b (noRecord b o hb hnf)).trans hb)
  exact ⟨oe, vs, T, _, _, (other e (Ne.symm hTe)).trans he, hcls, hd, h1, hnT, hTe, Heap.get?_update_self _ hT (Obj.isFreed_of_fields (Obj.data_mapFields hdT _)), Obj.data_mapFields hdT _, by simp [hsz3]⟩
theorem noteFrame_any {base : Heap} {env : Env} {outer : List Env} {L e : Addr} {cls a0 fl : Value} {Q : Unit → Shared → Prop}
    (hfr : A.frames = some (env :: outer)) (hl : s.heap.FunFrames base (env :: outer)) (hf : env.frame = some L) (ht : s.heap.TracedAtW base e cls a0 fl) (hkb : base.StaysIn s.heap) (hen : base.get? e = none)
    (h : ∀ h', Heap.HeldW base (env :: outer) e cls a0 L h' → s.heap.UpToSlots h' → Q () { s with heap := h' }) : wpAny M A (noteFrame (.ref e) env) Q E s := by
  have ht0 := ht
  (refine hideG ?_; intro G0)
  obtain ⟨oe, vs, T, oT, ts, he, ⟨hcls, h0⟩, hd, h1, hnT, hTe, hT, hdT, h3⟩ := ht
  (dsimp only [G0]); clear G0
  subst hcls
  unfold noteFrame
  simp only [hf]
  refine wpAny_bind (wpAny_field he hd h1 ?_)
  rw [if_pos (show (Value.ref T != Value.none) = true from by simp)]
  refine wpAny_bind (wpAny_field hT hdT h3 ?_)
  by_cases hfl : (fl == rawInt L) = true
  · rw [if_pos hfl]
    have e2 : fl = rawInt L := eq_of_beq hfl
    subst e2
    exact wpAny_pure (h s.heap ⟨hkb, hen, hl, ht0⟩ (Heap.UpToSlots.refl _))
  · rw [if_neg hfl]
    refine wpAny_bind (wpAny_setField hT hdT (Array.getElem?_eq_some_iff.mp h3).1 ?_)
    have other : ∀ b, b ≠ T → (s.heap.update T (Obj.mapFields (·.setIfInBounds 3 Value.none))).get? b = s.heap.get? b := fun b hb => Heap.get?_update_other _ _ (Ne.symm hb)
    have noRecord : ∀ b o, s.heap.get? b = some o → (∀ vs, o.data ≠ .fields vs) → b ≠ T := fun b o hb hnf q => by
      rw [q, hT] at hb; injection hb with hb; subst hb; exact hnf ts hdT
    refine wpAny_entryW hfr (hl.of_keeps fun b o hb hnf => ⟨o, (other b (noRecord b o hb hnf)).trans hb, rfl⟩) hf ((other e (Ne.symm hTe)).trans he)
      (fun b o hbo => (other b fun q => by rw [q, hnT] at hbo; cases hbo).trans (hkb b o hbo)) hen hd (Array.getElem?_eq_some_iff.mp h1).1 h0
      fun h' ⟨x1, x2, x3, x4⟩ => h h' ⟨x1, hen, x2, x3⟩ fun b o hb hnf => x4 b o ((other b (noRecord b o hb hnf)).trans hb) hnf
end
noncomputable def RaisedF (base : Heap) (l : List Env) (e : Addr) (cls : Value) (t : Addr) (vs : List Value) (news : Led) (fl : Value) (h : Heap) : Prop :=
  (∃ B, base.StaysIn B ∧ (∀ q ∈ news, B.get? q.1 = some q.2 ∧ base.get? q.1 = none) ∧ (B.StaysIn h ∧ B.get? e = none ∧ h.FunFrames B l ∧ h.TracedAtW B e cls (.ref t) fl) ∧ B.get? t = none) ∧ h.TupAt t vs
section
variable {M : Model} {A : Around} {E : Value → Shared → Prop} {s s' : Shared} {base g g₂ h : Heap} {outer : List Env} {L a e t : Addr} {m : Str → Option Value} {name : Str} {scope : Scope} {cd : Value} {cl : List (Str × Addr)} {Q : Unit → Shared → Prop} {news : Led}
theorem leave_anyX {cls fl : Value} {vs : List Value} (K : Below A base outer g) (F : Fr g L g₂ m) (R : RaisedF base (envX name scope L a cd cl :: outer) e cls t vs news fl s'.heap) (hsm : g₂.UpToSlots s'.heap)
    (hQ : ∀ h', RaisedK base outer e cls t vs news h' → g.UpToSlots h' → Q () { s' with heap := h' }) :
    wpAny M (A.deeper (envX name scope L a cd cl)) (leaving (envX name scope L a cd cl) (.ref e)) Q E s' := by
  (refine hideG ?_; intro G0)
  obtain ⟨⟨B, hB, hl, ⟨x1, x2, x3, x4⟩, hnew⟩, htup⟩ := R
  (dsimp only [G0]); clear G0
  unfold leaving
  refine wpAny_bind (noteFrame_any (Around.frames_deeper K.stack) x3 rfl x4 x1 x2 fun h4 hh4 u4 => ?_)
  refine wpAny_landsW (s := { s' with heap := h4 }) hh4 fun h5 hfl u5 => ?_
  (refine hideG ?_; intro G0)
  obtain ⟨k1, k2, ⟨_, _, k3⟩, k4⟩ := hfl
  (dsimp only [G0]); clear G0
  have u6 : g.UpToSlots h5 := (Heap.UpToSlots.of_keeps F.keep).trans (hsm.trans (u4.trans u5))
  exact hQ h5 ⟨⟨B, hB, hl, ⟨k1, k2, k3, k4⟩, hnew⟩, htup.of_slots (u4.trans u5)⟩ u6
end

end
section
theorem kw_X2_0 : True := by
  k_with_none
  k_with "om" => first | decide | (with_reducible first | apply om28 <;> assumption)
  k_with "k_ne" => (refine neN ?_; (try dsimp only); first | with_reducible assumption | lgec_go)
  k_with "fold_depth" => first | ((with_reducible show wpAny _ (Around.deeper (ktrTop _ _ _ _ _ _ _ _ _ _) _) _ _ _ _); refine wp_fold4 ?_; intro A1 q0 e0) | (refine wp_fold2 ?_; intro q00 e00)
  k_with "fold_lay" => ((show wpAny _ _ _ _ _ _); first | (fail_if_success k_fold) | ((try clear qf); refine wp_fold ?_; intro qf))
  k_with "k_steps" => ((try dsimp only); (try fold_lay); repeat' (first | (k_unfold; (try dsimp only)) | (k_end; wrow_close) | (walk1; (try ((first | (with_reducible show wpAny _ _ (exec _ _) _ _ _) | (with_reducible show wpAny _ _ (execs _ _) _ _ _)); (try dsimp only); fold_lay))) | (dsimp only; walk1) | (leave1; walk_say "STEP leave1"; try dsimp only) | fail "no step"))
  k_with "k_room" => first | exact fastR (by assumption) | ktr_room | (simp only [A1]; ktr_room)
  k_with "k_units" => first | ktr_units | (simp only [A1]; ktr_units)
  k_with "k_enter" => (refine' code_defC ?k1_462 ?k2_462 ?k3_462 ?k4_462 ?k5_462 ?kA_462 ?kF_462 ?kK_462 ?k6_462 ?k7_462 ?k8_462 ?k9_462 ?kB_462 ?kD_462 ?_ ?c2_462 ?c3_462 ?c4_462; (case kA_462 => exact rfl); (case kF_462 => exact rfl); (case kK_462 => assumption); (case k1_462 => k_asm); (case k2_462 => k_asm); (case k3_462 => k_asm); (case k4_462 => k_asm); (case k5_462 => k_asm); (case k6_462 => k_is); (case k7_462 => k_is); (case k8_462 => k_room); (case k9_462 => first | exact BindsTo.of_eq rfl | exact binds_K (by k_in) rfl (by k_is) rfl rfl rfl); (case kB_462 => exact rfl); (case kD_462 => decide +kernel); (case c2_462 => exact rfl); (case c3_462 => exact rfl); (case c4_462 => exact rfl); k_whole; intro g' L' h' tk' cells' FG' F' N' Y' B' X' T' l1; (try k_lt l1); refine hideG ?_; intro G0; k_cells Y'; (dsimp only [G0]); (try clear G0); (try simp only [List.cons_append, List.nil_append] at N'); (try dsimp only); (try fold_depth))
  k_with "k_enter" => (refine' code_def ?k1_463 ?k2_463 ?k3_463 ?k4_463 ?k5_463 ?kA_463 ?kF_463 ?kK_463 ?k6_463 ?k7_463 ?k8_463 ?k9_463 ?kB_463 ?_ ?c2_463 ?c3_463 ?c4_463 ?c5_463; (case kA_463 => exact rfl); (case kF_463 => exact rfl); (case kK_463 => assumption); (case k1_463 => k_asm); (case k2_463 => k_asm); (case k3_463 => k_asm); (case k4_463 => k_asm); (case k5_463 => k_asm); (case k6_463 => k_is); (case k7_463 => k_is); (case k8_463 => k_room); (case k9_463 => first | exact BindsTo.of_eq rfl | exact binds_K (by k_in) rfl (by k_is) rfl rfl rfl); (case c5_463 => decide); (case kB_463 => exact locs rfl); (case c2_463 => exact rfl); (case c3_463 => exact rfl); (case c4_463 => exact rfl); k_whole; intro g' L' h' FG' F' N' B' X' T'; (try dsimp only); (try fold_depth))
  trivial
section
variable {prog : Program} {w : World} {A : Around} {E : Value → Shared → Prop} {s₁ : Shared} {base h₀ g h h5 B : Heap} {L C I D e t : Addr} {m : Str → Option Value} {env : Env} {outer : List Env} {oC : Obj} {news keep : Led}
theorem funFrames_but {l : List Env} (hC : B.get? C = some oC) (hs : Heap.SameBut C h h5) (x : h.FunFrames B l) : h5.FunFrames (B.hide C) l := by
  induction l with
  | nil => trivial
  | cons v r ih =>
    (refine hideG ?_; intro G0)
    obtain ⟨hk, ⟨L', o, hf, hn, ho, hd⟩, hr⟩ := x
    (dsimp only [G0]); clear G0
    have hne : L' ≠ C := fun q => by rw [q, hC] at hn; cases hn
    exact ⟨hk, ⟨L', o, hf, by rw [Heap.hide_ne _ hne]; exact hn, hs.extBut _ _ hne ho, hd⟩, ih hr⟩
theorem hide_none (B : Heap) (C : Addr) : (B.hide C).get? C = none := hideAll_none [C] (.head _)
theorem hide_some {b : Addr} {o : Obj} (e : (B.hide C).get? b = some o) : b ≠ C ∧ B.get? b = some o := by
  have hne : b ≠ C := fun q => by rw [q, hide_none] at e; cases e
  exact ⟨hne, by rw [Heap.hide_ne _ hne] at e; exact e⟩
theorem comp_err {scope : Scope} {cl : List (Str × Addr)} {vsx : List Value} {nwx : Led} {mC : Str → Option Value} {Q : Value → Shared → Prop} {h' : Heap} {tk' : Nat} (cL : C ≠ L) (c0 : h₀.get? C = none) (hfrm : A.frames = some (env :: outer)) (hfe : env.frame = some L) (hoff : ∀ q ∈ keep, q.1 ≠ C) (hm1 : (C, oC) ∈ nwx) (hm2 : LCg.NsObj oC mC) (hm3 : ∀ q ∈ keep, q ∈ nwx)
    (F : Fr h₀ L g m) (u : g.UpToSlots h') (R : RaisedK base (env :: outer) e (.ref 59) t vsx nwx h')
    (err : ∀ g' fl h6 tk6, Fr h₀ L g' m → g'.UpToSlots h6 → RaisedF base (env :: outer) e (.ref 59) t vsx keep fl h6 → E (.ref e) { s₁ with heap := h6, toks := tk6 }) :
    notedBy (model prog w) A (compEnvC scope cl C env) (fun e s' => compPost (model prog w) A E none Q (.ref D) C (.error e) s') (.ref e) { s₁ with heap := h', toks := tk' } := by
  (refine hideG ?_; intro G0)
  obtain ⟨⟨B, hB, hl, hfl, hnew⟩, htup⟩ := R
  (dsimp only [G0]); clear G0
  have hBC := (hl _ hm1).1
  unfold notedBy
  rw [noteFrame_env (show (compEnvC scope cl C env).frame = env.frame from rfl)]
  refine wpAny_looks_onW hfrm hfe hfl fun h4 hh4 u4 => ?_
  have hC4 : h4.get? C = some oC := hh4.1 _ _ hBC
  refine ⟨mC, hm2.ns hC4, fun h5 hs5 cenv' hc' => ?_⟩
  (refine hideG ?_; intro G0)
  obtain ⟨x1, x2, x3, oe, vs, T, oT, ts, he, hcls, hd, h1, hnT, hTe, hT, hdT, h3⟩ := hh4
  (dsimp only [G0]); clear G0
  have heC : e ≠ C := fun q => by rw [q, hBC] at x2; cases x2
  have hTC : T ≠ C := fun q => by rw [q, hBC] at hnT; cases hnT
  have htC : t ≠ C := fun q => by rw [q, hBC] at hnew; cases hnew
  have he5 := hs5.extBut _ _ heC he
  have hT5 := hs5.extBut _ _ hTC hT
  have st5 : (B.hide C).StaysIn h5 := fun b o q => by
    obtain ⟨hne, hb⟩ := hide_some q
    exact hs5.extBut _ _ hne (x1 b o hb)
  have ff5 := funFrames_but hBC hs5 x3
  have tr5 : h5.TracedAtW (B.hide C) e (.ref 59) (.ref t) (rawInt L) := ⟨oe, vs, T, oT, ts, he5, hcls, hd, h1, by rw [Heap.hide_ne _ hTC]; exact hnT, hTe, hT5, hdT, h3⟩
  unfold passOn
  refine wpAny_bind (wpAny_field he5 hd h1 ?_)
  rw [if_neg (show ¬ ((Value.ref T == Value.none) = true) from by simp)]
  refine wpAny_bind (setFlight_any cenv'.frame st5 ff5 tr5 fun h6 k1 k2 k3 k4 => ?_)
  refine wpAny_throw ?_
  have baseC : base.get? C = none := (hl _ hm1).2
  have tup5 : h6.TupAt t vsx := by
    (refine hideG ?_; intro G0)
    obtain ⟨o, n, ho, hc, hd2⟩ := htup.of_slots u4
    (dsimp only [G0]); clear G0
    exact ⟨o, n, k4 t o (hs5.extBut _ _ htC ho) (fun ws q => by rw [hd2] at q; cases q), hc, hd2⟩
  have Fg : Fr h₀ L (g.hide C) m := ⟨F.ns.at' fun o q => by rw [Heap.hide_ne _ (Ne.symm cL)]; exact q, fun b o q => by
    rw [Heap.hide_ne _ (fun z => by rw [z, c0] at q; cases q)]
    exact F.keep b o q, F.above⟩
  refine err (g.hide C) _ h6 _ Fg (fun b o q hnf => ?_) ⟨⟨B.hide C, fun b o q => ?_, fun q hq => ?_, ⟨k1, by rw [Heap.hide_ne _ heC]; exact x2, k2, k3⟩, by rw [Heap.hide_ne _ htC]; exact hnew⟩, tup5⟩
  · obtain ⟨hne, hb⟩ := hide_some q
    obtain ⟨s1, e1⟩ := u b o hb hnf
    obtain ⟨s2, e2⟩ := u4 b _ e1 hnf
    exact ⟨s2, k4 b _ (hs5.extBut _ _ hne e2) hnf⟩
  · rw [Heap.hide_ne _ (fun z => by rw [z, baseC] at q; cases q)]
    exact hB b o q
  · rw [Heap.hide_ne _ (hoff q hq)]
    exact hl q (hm3 q hq)
end

end
section
theorem kw_X3_0 : True := by
  k_with_none
  k_with "om" => first | decide | (with_reducible first | apply om91 <;> assumption | apply om92 <;> assumption)
  k_with "k_ne" => (refine neN ?_; (try dsimp only); first | with_reducible assumption | lgec_go)
  k_with "fold_depth" => first | ((with_reducible show wpAny _ (Around.deeper (ktrTop _ _ _ _ _ _ _ _ _ _) _) _ _ _ _); refine wp_fold4 ?_; intro A1 q0 e0) | (refine wp_fold2 ?_; intro q00 e00)
  k_with "fold_lay" => ((show wpAny _ _ _ _ _ _); first | (fail_if_success k_fold) | ((try clear qf); refine wp_fold ?_; intro qf))
  k_with "k_steps" => ((try dsimp only); (try fold_lay); repeat' (first | (k_unfold; (try dsimp only)) | (k_end; wrow_close) | (walk1; (try ((first | (with_reducible show wpAny _ _ (exec _ _) _ _ _) | (with_reducible show wpAny _ _ (execs _ _) _ _ _)); (try dsimp only); fold_lay))) | (dsimp only; walk1) | (leave1; walk_say "STEP leave1"; try dsimp only) | fail "no step"))
  k_with "k_room" => first | exact fastR (by assumption) | ktr_room | (simp only [A1]; ktr_room)
  k_with "k_units" => first | ktr_units | (simp only [A1]; ktr_units)
  k_with "k_enter" => (refine' code_defC ?k1_469 ?k2_469 ?k3_469 ?k4_469 ?k5_469 ?kA_469 ?kF_469 ?kK_469 ?k6_469 ?k7_469 ?k8_469 ?k9_469 ?kB_469 ?kD_469 ?_ ?c2_469 ?c3_469 ?c4_469; (case kA_469 => exact rfl); (case kF_469 => exact rfl); (case kK_469 => assumption); (case k1_469 => k_asm); (case k2_469 => k_asm); (case k3_469 => k_asm); (case k4_469 => k_asm); (case k5_469 => k_asm); (case k6_469 => k_is); (case k7_469 => k_is); (case k8_469 => k_room); (case k9_469 => first | exact BindsTo.of_eq rfl | exact binds_K (by k_in) rfl (by k_is) rfl rfl rfl); (case kB_469 => exact rfl); (case kD_469 => decide +kernel); (case c2_469 => exact rfl); (case c3_469 => exact rfl); (case c4_469 => exact rfl); k_whole; intro g' L' h' tk' cells' FG' F' N' Y' B' X' T' l1; (try k_lt l1); refine hideG ?_; intro G0; k_cells Y'; (dsimp only [G0]); (try clear G0); (try simp only [List.cons_append, List.nil_append] at N'); (try dsimp only); (try fold_depth))
  k_with "k_enter" => (refine' code_def ?k1_470 ?k2_470 ?k3_470 ?k4_470 ?k5_470 ?kA_470 ?kF_470 ?kK_470 ?k6_470 ?k7_470 ?k8_470 ?k9_470 ?kB_470 ?_ ?c2_470 ?c3_470 ?c4_470 ?c5_470; (case kA_470 => exact rfl); (case kF_470 => exact rfl); (case kK_470 => assumption); (case k1_470 => k_asm); (case k2_470 => k_asm); (case k3_470 => k_asm); (case k4_470 => k_asm); (case k5_470 => k_asm); (case k6_470 => k_is); (case k7_470 => k_is); (case k8_470 => k_room); (case k9_470 => first | exact BindsTo.of_eq rfl | exact binds_K (by k_in) rfl (by k_is) rfl rfl rfl); (case c5_470 => decide); (case kB_470 => exact locs rfl); (case c2_470 => exact rfl); (case c3_470 => exact rfl); (case c4_470 => exact rfl); k_whole; intro g' L' h' FG' F' N' B' X' T'; (try dsimp only); (try fold_depth))
  trivial
section
variable {prog : Program} {w : World} {A : Around} {E : Value → Shared → Prop} {s : Shared} {h₀ : Heap} {L : Addr} {m : Str → Option Value} {env : Env} {base : Heap} {outer : List Env}
inductive LEG (prog : Program) (w : World) (A : Around) (E : Value → Shared → Prop) (h₀ : Heap) (L : Addr) (m : Str → Option Value) (env : Env) (base : Heap) (outer : List Env) (elt : PySem.Expr) (x : Str) (scope : Scope) (cl : List (Str × Addr)) (Q : Value → Shared → Prop) (S : Led → Prop) (s₁ : Shared) : Value → Prop
  | mk (l : Addr) (vs : List Value) (k : Nat) (news : Led) (J : Nat → List Value → Led → Prop) (keep : Led) (Bad : Prop) : A.handled = none → Fr h₀ L s₁.heap m → News h₀ L s₁.heap news → (l, PySem.W.listOf vs.toArray k) ∈ news → vs.length ≤ 1000 → J 0 [] news → (∀ i ys nw, J i ys nw → (l, PySem.W.listOf vs.toArray k) ∈ nw) → (∀ i ys nw, J i ys nw → ∀ q ∈ keep, q ∈ nw) → (∀ i ys nw v I oI C oC D m₂ h tk (E' : Value → Shared → Prop), vs[i]? = some v → J i ys nw → LCg.NsObj oC m₂ → m₂ x = some v → Fr h₀ L h m → News h₀ L h ((I, oI) :: (C, oC) :: (D, LCg.lst ys) :: nw) → LCg.Off3 I C D nw → ((@Ne Nat I C) ∧ (@Ne Nat I D) ∧ (@Ne Nat C D)) →
        (∀ e h' tk', Bad → Thrown base (env :: outer) h₀ L m ((I, oI) :: (C, oC) :: (D, LCg.lst ys) :: nw) e h' → E' (.ref e) { s₁ with heap := h', toks := tk' }) →
        wpAny (model prog w) A (eval elt (compEnvC scope cl C env)) (LCg.CompEnd h₀ L m { s₁ with heap := h, toks := tk } I oI C oC D (LCg.lst ys) S (fun y nw' => J (i + 1) (ys ++ [y]) nw')) E' { s₁ with heap := h, toks := tk }) → (∀ D h tk ys nw, J vs.length ys nw → Fr h₀ L h m → News h₀ L h ((D, LCg.lst ys) :: nw) → (∀ p ∈ nw, p.1 ≠ D) → Q (.ref D) { s₁ with heap := h, toks := tk }) → (∀ e t vsx g' fl h6 tk6, Bad → Fr h₀ L g' m → g'.UpToSlots h6 → RaisedF base (env :: outer) e (.ref 59) t vsx keep fl h6 → E (.ref e) { s₁ with heap := h6, toks := tk6 }) → LEG prog w A E h₀ L m env base outer elt x scope cl Q S s₁ (.ref l)
theorem ListComp_E {elt iter : PySem.Expr} {x : Str} {px : Pos} {scope : Scope} {cl : List (Str × Addr)} {pos : Pos} {Q : Value → Shared → Prop} (S : Led → Prop) (F₀ : Fr h₀ L s.heap m) (hfrm : A.frames = some (env :: outer)) (hfe : env.frame = some L)
    (hclos : closureFor scope env = pure cl) (hcell : ∀ y ∈ scope.names, y.2 ≠ .cell) (hkind : scope.kind = .function)
    (hnames : ∀ y ∈ scope.names, y.2 = .local → scope.names.lookup y.1 = some .local) (hx : scope.names.lookup x = some .local)
    (h : wpAny (model prog w) A (eval iter env) (fun xv s₁ => LEG prog w A E h₀ L m env base outer elt x scope cl Q S s₁ xv) E s)
    (hs : ∀ x, foldedSetIterable iter env x = pure x := by intro _; rfl) :
    wpAny (model prog w) A (eval (.ListComp elt [⟨.Name x px, iter, [], 0⟩] scope pos) env) Q E s := by
  refine comp_core (h₀ := h₀) (L := L) (m := m) (fun I cenv D v Post ER s => wpAny (model prog w) A (assign (.Name x px) cenv v) (fun _ s₂ =>
      wpAny (model prog w) A (forIn ([] : List PySem.Expr) true fun c r => if r = true then do let ok ← isTrue c cenv (eval c cenv); pure (ForInStep.yield ok) else pure (ForInStep.yield r)) (fun ok s₃ => if ok = true then wpAny (model prog w) A (eval elt cenv) (fun x s₄ =>
        wpAny (model prog w) A (call (.builtin "list.append") [.ref D, x]) (fun _ s₅ => Post s₅) ER s₄) ER s₃ else Post s₃) ER s₂) ER s)
    (fun I D cenv R Inv turn n s hI => codeAny_compLoop_tests Inv turn n hI) hclos hcell hkind hnames (wpAny_mono h (fun xv s₁ hq => ?_) fun _ _ e => e) hs
  (refine hideG ?_; intro G0)
  obtain ⟨l, vs, k, news, J, keep, Bad, hh, F, N, hm, hz, h0, hJl, hJk, turn, fin, err⟩ := hq
  (dsimp only [G0]); clear G0
  refine ⟨l, vs, k, news, J, fun C ER => ∀ e t vsx g' h' tk' oC mC nwx, Bad → (C, oC) ∈ nwx → LCg.NsObj oC mC → (∀ q ∈ keep, q ∈ nwx) → Fr h₀ L g' m → g'.UpToSlots h' → RaisedK base (env :: outer) e (.ref 59) t vsx nwx h' → ER (.ref e) { s₁ with heap := h', toks := tk' }, hh, F, N, hm, hz, h0, hJl, ?_, fin,
    fun i ys nw C D hJ cL c0 off e t vsx g' h' tk' oC mC nwx b0 c1 c2 c3 c4 c5 c6 => comp_err cL c0 hfrm hfe (fun q hq => off q (hJk _ _ _ hJ q hq)) c1 c2 c3 c4 c5 c6 fun g' fl h6 tk6 d1 d2 d3 => err e t vsx g' fl h6 tk6 b0 d1 d2 d3⟩
  intro i ys nw v I C D oI m' h tk Post ER hv hJ hyl ap hin hlit post errT
  refine wpAny_assign_Name (wpAny_storeName_local (lookup_relabel_local hx) hin.ns (fun h₃ hn₃ hs₃ => ?_) (by simp [compEnvC, relabel, hkind]))
  refine wpAny_tests_nil ?_
  simp only [if_true]
  have old3 : ∀ b o, b ≠ C → h.get? b = some o → h₃.get? b = some o := fun b o hb e => hs₃.extBut b o hb e
  obtain ⟨oC, heC, hoC⟩ := LCg.ns_obj hn₃
  have F₃ : Fr h₀ L h₃ m := hin.F.change hs₃ ap.cl ap.c0
  have N₃ : News h₀ L h₃ ((I, oI) :: (C, oC) :: (D, LCg.lst ys) :: nw) := fun p hp => by
    rcases List.mem_cons.mp hp with rfl | hp
    · exact ⟨old3 _ _ ap.ic hin.it, ap.il, ap.i0⟩
    · rcases List.mem_cons.mp hp with rfl | hp
      · exact ⟨heC, ap.cl, ap.c0⟩
      · have z := hin.N p hp
        refine ⟨old3 _ _ ?_ z.1, z.2⟩
        rcases List.mem_cons.mp hp with rfl | hp
        · exact Ne.symm ap.cd
        · exact (hin.off p hp).2.1
  have hil : i < vs.length := by
    rcases Nat.lt_or_ge i vs.length with h | h
    · exact h
    · rw [List.getElem?_eq_none h] at hv; cases hv
  refine wpAny_mono (turn i ys nw v I oI C oC D _ h₃ _ ER hv hJ hoC (by simp) F₃ N₃ (LCg.Off3.of hin.off) ⟨ap.ic, ap.id, ap.cd⟩ ?_) (fun y s₄ hy => ?_) fun _ _ e => e
  · rintro e h' tk' c0 ⟨t, vsx, g', c1, c2, c3⟩
    exact errT e t vsx g' h' tk' oC _ _ c0 (.tail _ (.head _)) hoC (fun q hq => .tail _ (.tail _ (.tail _ (hJk _ _ _ hJ q hq)))) c1 c2 c3
  · exact comp_push ap (by lgec_go) hoC hy (fun nw' r => r) fun h' tk' m'' ys' nw' a b c => post h' tk' m'' ys' nw' a (by lgec_go) c
end

end
section
theorem kw_E8_0 : True := by
  k_with_none
  k_with "om" => first | decide | (with_reducible first | apply om10 <;> assumption)
  k_with "k_ne" => (refine neN ?_; (try dsimp only); first | with_reducible assumption | lgec_go)
  k_with "fold_depth" => first | ((with_reducible show wpAny _ (Around.deeper (ktrTop _ _ _ _ _ _ _ _ _ _) _) _ _ _ _); refine wp_fold4 ?_; intro A1 q0 e0) | (refine wp_fold2 ?_; intro q00 e00)
  k_with "fold_lay" => ((show wpAny _ _ _ _ _ _); first | (fail_if_success k_fold) | ((try clear qf); refine wp_fold ?_; intro qf))
  k_with "k_steps" => ((try dsimp only); (try fold_lay); repeat' (first | (k_unfold; (try dsimp only)) | (k_end; wrow_close) | (walk1; (try ((first | (with_reducible show wpAny _ _ (exec _ _) _ _ _) | (with_reducible show wpAny _ _ (execs _ _) _ _ _)); (try dsimp only); fold_lay))) | (dsimp only; walk1) | (leave1; walk_say "STEP leave1"; try dsimp only) | fail "no step"))
  k_with "k_room" => first | exact fastR (by assumption) | ktr_room | (simp only [A1]; ktr_room)
  k_with "k_units" => first | ktr_units | (simp only [A1]; ktr_units)
  k_with "k_enter" => (refine' code_defC ?k1_476 ?k2_476 ?k3_476 ?k4_476 ?k5_476 ?kA_476 ?kF_476 ?kK_476 ?k6_476 ?k7_476 ?k8_476 ?k9_476 ?kB_476 ?kD_476 ?_ ?c2_476 ?c3_476 ?c4_476; (case kA_476 => exact rfl); (case kF_476 => exact rfl); (case kK_476 => assumption); (case k1_476 => k_asm); (case k2_476 => k_asm); (case k3_476 => k_asm); (case k4_476 => k_asm); (case k5_476 => k_asm); (case k6_476 => k_is); (case k7_476 => k_is); (case k8_476 => k_room); (case k9_476 => first | exact BindsTo.of_eq rfl | exact binds_K (by k_in) rfl (by k_is) rfl rfl rfl); (case kB_476 => exact rfl); (case kD_476 => decide +kernel); (case c2_476 => exact rfl); (case c3_476 => exact rfl); (case c4_476 => exact rfl); k_whole; intro g' L' h' tk' cells' FG' F' N' Y' B' X' T' l1; (try k_lt l1); refine hideG ?_; intro G0; k_cells Y'; (dsimp only [G0]); (try clear G0); (try simp only [List.cons_append, List.nil_append] at N'); (try dsimp only); (try fold_depth))
  k_with "k_enter" => (refine' code_def ?k1_477 ?k2_477 ?k3_477 ?k4_477 ?k5_477 ?kA_477 ?kF_477 ?kK_477 ?k6_477 ?k7_477 ?k8_477 ?k9_477 ?kB_477 ?_ ?c2_477 ?c3_477 ?c4_477 ?c5_477; (case kA_477 => exact rfl); (case kF_477 => exact rfl); (case kK_477 => assumption); (case k1_477 => k_asm); (case k2_477 => k_asm); (case k3_477 => k_asm); (case k4_477 => k_asm); (case k5_477 => k_asm); (case k6_477 => k_is); (case k7_477 => k_is); (case k8_477 => k_room); (case k9_477 => first | exact BindsTo.of_eq rfl | exact binds_K (by k_in) rfl (by k_is) rfl rfl rfl); (case c5_477 => decide); (case kB_477 => exact locs rfl); (case c2_477 => exact rfl); (case c3_477 => exact rfl); (case c4_477 => exact rfl); k_whole; intro g' L' h' FG' F' N' B' X' T'; (try dsimp only); (try fold_depth))
  k_with "klt" => skip
  k_with "k_all" => first | exact List.forall_mem_nil _ | (with_reducible refine List.forall_mem_cons.mpr ⟨?_, ?_⟩; (focus k_ne); k_all) | with_reducible assumption | with_reducible exact allLt_off (by with_reducible assumption) | with_reducible exact lt_off (by with_reducible assumption) | with_reducible exact off1_off (by with_reducible assumption) | with_reducible exact off3_1 (by with_reducible assumption) | with_reducible exact off3_2 (by with_reducible assumption) | with_reducible exact off3_3 (by with_reducible assumption) | (with_reducible refine GrowK.off (by with_reducible assumption) ?_ ?_; (focus simp only [List.mem_cons, true_or, or_true]); k_all)
  k_with "tb_rel" => with_reducible first | assumption | exact sub_self | (refine sub_tail ?_; tb_rel) | (refine sub_growK (by assumption) ?_; tb_rel) | (refine sub_app ?_ ?_; (focus tb_rel); tb_rel) | (refine sub_consApp ?_; tb_rel) | (refine sub_appL ?_; tb_rel) | (refine sub_appR ?_; tb_rel)
  k_with "k_mem" => (refine sub_mem ?_ (by assumption); tb_rel)
  trivial
theorem codeA_some (i : Int) : (codeA (.int i)).isSome = decide (0 ≤ i) := by
  unfold codeA
  by_cases h : 0 ≤ i <;> simp [h]
theorem iswhole_spec (w : World) (ro : Led) (v : Value) (a : Atom) (h : AtomIn w ro v a) : Calls w 436 2 [v] ro (fun r news' => r = .bool (codeA a).isSome ∧ news' = ro) := by
  intro mean mg mb dp un gd cn cs a₀ ccd cl outer A₀ base h₀ L m s Q E B F X N T hk hd hu hret
  cases h with
  | int h1 h2 =>
    k_steps
    exact hret _ _ _ _ (by k_asm) (by k_asm) ⟨congrArg Value.bool (codeA_some _).symm, rfl⟩
  | dec h1 =>
    cases h1
    k_steps
    exact hret _ _ _ _ (by k_asm) (by k_asm) ⟨rfl, rfl⟩
  | none =>
    k_steps
    exact hret _ _ _ _ (by k_asm) (by k_asm) ⟨rfl, rfl⟩
  | tru =>
    k_steps
    exact hret _ _ _ _ (by k_asm) (by k_asm) ⟨rfl, rfl⟩
  | name h1 h2 =>
    k_steps
    exact hret _ _ _ _ (by k_asm) (by k_asm) ⟨rfl, rfl⟩
  | sev h1 =>
    k_steps
    exact hret _ _ _ _ (by k_asm) (by k_asm) ⟨rfl, rfl⟩
theorem issize_spec (w : World) (ro : Led) (v : Value) (a : Atom) (h : AtomIn w ro v a) : Calls w 443 2 [v] ro (fun r news' => r = .bool (numA a) ∧ news' = ro) := by
  intro mean mg mb dp un gd cn cs a₀ ccd cl outer A₀ base h₀ L m s Q E B F X N T hk hd hu hret
  cases h with
  | int h1 h2 =>
    k_steps
    exact hret _ _ _ _ (by k_asm) (by k_asm) ⟨rfl, rfl⟩
  | dec h1 =>
    cases h1
    k_steps
    exact hret _ _ _ _ (by k_asm) (by k_asm) ⟨rfl, rfl⟩
  | none =>
    k_steps
    exact hret _ _ _ _ (by k_asm) (by k_asm) ⟨rfl, rfl⟩
  | tru =>
    k_steps
    exact hret _ _ _ _ (by k_asm) (by k_asm) ⟨rfl, rfl⟩
  | name h1 h2 =>
    k_steps
    exact hret _ _ _ _ (by k_asm) (by k_asm) ⟨rfl, rfl⟩
  | sev h1 =>
    k_steps
    exact hret _ _ _ _ (by k_asm) (by k_asm) ⟨rfl, rfl⟩

end
section
theorem kw_DP_0 : True := by
  k_with_none
  k_with "om" => first | decide | (with_reducible first | apply om66 <;> assumption | apply om67 <;> assumption | apply om299 <;> assumption | apply om300 <;> assumption)
  k_with "k_ne" => (refine neN ?_; (try dsimp only); first | with_reducible assumption | lgec_go)
  k_with "fold_depth" => first | ((with_reducible show wpAny _ (Around.deeper (ktrTop _ _ _ _ _ _ _ _ _ _) _) _ _ _ _); refine wp_fold4 ?_; intro A1 q0 e0) | (refine wp_fold2 ?_; intro q00 e00)
  k_with "fold_lay" => ((show wpAny _ _ _ _ _ _); first | (fail_if_success k_fold) | ((try clear qf); refine wp_fold ?_; intro qf))
  k_with "k_steps" => ((try dsimp only); (try fold_lay); repeat' (first | (k_unfold; (try dsimp only)) | (k_end; wrow_close) | (walk1; (try ((first | (with_reducible show wpAny _ _ (exec _ _) _ _ _) | (with_reducible show wpAny _ _ (execs _ _) _ _ _)); (try dsimp only); fold_lay))) | (dsimp only; walk1) | (leave1; walk_say "STEP leave1"; try dsimp only) | fail "no step"))
  k_with "k_room" => first | exact fastR (by assumption) | ktr_room | (simp only [A1]; ktr_room)
  k_with "k_units" => first | ktr_units | (simp only [A1]; ktr_units)
  k_with "k_enter" => (refine' code_defC ?k1_486 ?k2_486 ?k3_486 ?k4_486 ?k5_486 ?kA_486 ?kF_486 ?kK_486 ?k6_486 ?k7_486 ?k8_486 ?k9_486 ?kB_486 ?kD_486 ?_ ?c2_486 ?c3_486 ?c4_486; (case kA_486 => exact rfl); (case kF_486 => exact rfl); (case kK_486 => assumption); (case k1_486 => k_asm); (case k2_486 => k_asm); (case k3_486 => k_asm); (case k4_486 => k_asm); (case k5_486 => k_asm); (case k6_486 => k_is); (case k7_486 => k_is); (case k8_486 => k_room); (case k9_486 => first | exact BindsTo.of_eq rfl | exact binds_K (by k_in) rfl (by k_is) rfl rfl rfl); (case kB_486 => exact rfl); (case kD_486 => decide +kernel); (case c2_486 => exact rfl); (case c3_486 => exact rfl); (case c4_486 => exact rfl); k_whole; intro g' L' h' tk' cells' FG' F' N' Y' B' X' T' l1; (try k_lt l1); refine hideG ?_; intro G0; k_cells Y'; (dsimp only [G0]); (try clear G0); (try simp only [List.cons_append, List.nil_append] at N'); (try dsimp only); (try fold_depth))
  k_with "k_enter" => (refine' code_def ?k1_487 ?k2_487 ?k3_487 ?k4_487 ?k5_487 ?kA_487 ?kF_487 ?kK_487 ?k6_487 ?k7_487 ?k8_487 ?k9_487 ?kB_487 ?_ ?c2_487 ?c3_487 ?c4_487 ?c5_487; (case kA_487 => exact rfl); (case kF_487 => exact rfl); (case kK_487 => assumption); (case k1_487 => k_asm); (case k2_487 => k_asm); (case k3_487 => k_asm); (case k4_487 => k_asm); (case k5_487 => k_asm); (case k6_487 => k_is); (case k7_487 => k_is); (case k8_487 => k_room); (case k9_487 => first | exact BindsTo.of_eq rfl | exact binds_K (by k_in) rfl (by k_is) rfl rfl rfl); (case c5_487 => decide); (case kB_487 => exact locs rfl); (case c2_487 => exact rfl); (case c3_487 => exact rfl); (case c4_487 => exact rfl); k_whole; intro g' L' h' FG' F' N' B' X' T'; (try dsimp only); (try fold_depth))
  trivial
section
variable {prog : Program} {w : World} {A : Around} {E : Value → Shared → Prop} {h : Heap} {g : Array GenState} {d : Drawn} {t : Nat} {os : OsState} {a : Addr} {vs : List Value} {k : Nat}
noncomputable def KeysErr (h : Heap) (g : Array GenState) (d : Drawn) (os : OsState) (E : Value → Shared → Prop) : Prop :=
  ∀ h' e oe tk', (∀ b o, h.get? b = some o → h'.get? b = some o) → h'.get? e = some oe → oe.cls = .type "AttributeError" → E (.ref e) ⟨h', g, d, tk', os⟩
theorem keys_entry {tk : Tok} {Q : Fin → Shared → Prop} (hx : h.get? a = some (PySem.W.listOf vs.toArray k)) (hh : A.handled = none) (hE : KeysErr h g d os E) :
    wpAny (model prog w) A (Builtin.«object.__getattribute__» ⟨[.ref a, .str "keys" tk], []⟩) Q E ⟨h, g, d, t, os⟩ := by
  have hT : (⟨h, g, d, t, os⟩ : Shared).TypeIs (.ref a) "list" := ⟨_, hx, rfl⟩
  have f4 : typeLookup (.type "list") "keys" = pure none := by rw [typeLookup_type, builtinLookup_eq_fast]; kernel_rfl
  repeat (any_goals (first | assumption | wp_step))
  unfold raiseAttrError newExc newTuple noteAttr
  repeat (any_goals (first | assumption | wp_step))
  have sAE : isSubtype (.type "AttributeError") (.type "AttributeError") = pure true := by rw [isSubtype_type]; kernel_rfl
  rw [show isSubtype (({ cls := Value.type "AttributeError", data := Data.fields (_ ++ ownMembersOf _ _) } : Obj)).cls (Value.type "AttributeError") = pure true from sAE]
  refine wpAny_pure ?_
  repeat (any_goals (first | assumption | wp_step))
  refine wpAny_raiseNew_none hh ?_
  refine hE _ _ _ _ (fun b o hb => ?_) (Heap.get?_update_self _ (Heap.get?_push_size _ rfl) rfl) rfl
  have hlt := Heap.lt_size hb
  rw [Heap.get?_update_other _ _ (Nat.ne_of_gt (by rw [Heap.size_push]; exact Nat.lt_succ_of_lt hlt))]
  exact Heap.get?_push_of_some _ (Heap.get?_push_of_some _ hb)
theorem keys_code {tk : Tok} {R : Result → Shared → Prop} (hx : h.get? a = some (PySem.W.listOf vs.toArray k)) (hh : A.handled = none) (hE : KeysErr h g d os (fun e s' => R (.error e) s')) :
    codeAny (model prog w) A (.call (.builtin "list.__getattribute__") ⟨[.ref a, .str "keys" tk], []⟩) R ⟨h, g, d, t, os⟩ :=
  codeAny_call_builtin F.slot_list_getattribute.plain F.entry_list_ga (F.slot_list_getattribute.check _ _ _ _ _ _ _ _ (show (⟨h, g, d, t, os⟩ : Shared).TypeIs (.ref a) "list" from ⟨_, hx, rfl⟩) (F.args_list_getattribute_2 _ _) (keys_entry hx hh hE))
theorem keys_by {tk : Tok} {Q : Value → Shared → Prop} (hx : h.get? a = some (PySem.W.listOf vs.toArray k)) (hh : A.handled = none) (hE : KeysErr h g d os E) : wpAny (model prog w) A (getAttrBy (.ref a) (.str "keys" tk) false) Q E ⟨h, g, d, t, os⟩ := by
  have hT : (⟨h, g, d, t, os⟩ : Shared).TypeIs (.ref a) "list" := ⟨_, hx, rfl⟩
  have f2 := F.slot_list_getattribute.lookup
  have f3 := F.slot_list_getattribute.bind (.ref a)
  have f4 : typeLookup (.type "list") "__getattr__" = pure none := by rw [typeLookup_type, builtinLookup_eq_fast]; kernel_rfl
  repeat (any_goals (first | assumption | wp_step))
  refine keys_code hx hh fun h' e oe tk' hk he hc => ?_
  have hT' : (⟨h', g, d, tk', os⟩ : Shared).TypeIs (.ref a) "list" := ⟨_, hk _ _ hx, rfl⟩
  have hTe : (⟨h', g, d, tk', os⟩ : Shared).TypeIs (.ref e) "AttributeError" := ⟨_, he, hc⟩
  have sAE : isSubtype (.type "AttributeError") (.type "AttributeError") = pure true := by rw [isSubtype_type]; kernel_rfl
  have hQ := hE h' e oe tk' hk he hc
  dsimp only
  unfold getattributeRaised
  repeat (any_goals (first | assumption | wp_step))
theorem keys_attr {Q : Option Value → Shared → Prop} (hx : h.get? a = some (PySem.W.listOf vs.toArray k)) (hh : A.handled = none) (hq : ∀ h' tk', (∀ b o, h.get? b = some o → h'.get? b = some o) → Q none ⟨h', g, d, tk', os⟩) :
    wpAny (model prog w) A (getAttr? (.ref a) "keys") Q E ⟨h, g, d, t, os⟩ := by
  unfold getAttr? getAttrBy?
  refine wpAny_bind (wpAny_mkText (wpAny_bind (wpAny_attempt (keys_by hx hh fun h' e oe tk' hk he hc => ?_))))
  have hTe : (⟨h', g, d, tk', os⟩ : Shared).TypeIs (.ref e) "AttributeError" := ⟨_, he, hc⟩
  have sAE : isSubtype (.type "AttributeError") (.type "AttributeError") = pure true := by rw [isSubtype_type]; kernel_rfl
  have hQ := hq h' tk' hk
  dsimp only
  repeat (any_goals (first | assumption | wp_step))
end
inductive PairsAt (news : Led) : List Value → List (Int × Value) → Prop where
  | nil : PairsAt news [] []
  | cons {t : Addr} {c : Int} {tk : Tok} {v : Value} {k : Nat} {vs : List Value} {kvs : List (Int × Value)} : (t, tup2 (.int c tk) v k) ∈ news → PairsAt news vs kvs → PairsAt news (.ref t :: vs) ((c, v) :: kvs)
section
variable {prog : Program} {w : World} {A : Around} {E : Value → Shared → Prop} {R : Result → Shared → Prop}
theorem upd_entry : entryFor table "dict.update.loop" = some Builtin.«dict.update.loop» := entryFor_of_tree (by kernel_rfl)
theorem upd_plain : plainId "dict.update.loop" = true := by decide +kernel
theorem pairs_loop (hh : A.handled = none) {I l D : Addr} (hlI : l ≠ I) (hDI : D ≠ I) (hDl : D ≠ l) {vs : List Value} {kvs : List (Int × Value)} (base : Heap)
    (hp : ∀ (j : Nat) (c : Int) (v : Value), kvs[j]? = some (c, v) → ∃ (t : Addr) (tk : Tok) (k : Nat), vs[j]? = some (Value.ref t) ∧ t ≠ I ∧ t ≠ D ∧ base.get? t = some (tup2 (.int c tk) v k)) (hlen : vs.length = kvs.length) (hz : kvs.length ≤ 2000) (hlb : base.IsList l vs.toArray) :
    ∀ (r i : Nat), i + r = kvs.length → ∀ s : Shared, s.heap.IsListIter I l i → s.heap.DictOf (PySem.intKind prog w) D (merged [] (kvs.take i)) → (∀ b o, b ≠ I → b ≠ D → base.get? b = some o → s.heap.get? b = some o) →
      (∀ h' tk, h'.DictOf (PySem.intKind prog w) D (merged [] kvs) → (∀ b o, b ≠ I → b ≠ D → base.get? b = some o → h'.get? b = some o) → R (.ok (.ret .none)) { s with heap := h', toks := tk }) →
      codeAny (model prog w) A (.builtin "dict.update.loop" ⟨[.ref D, .ref I, rawInt i, .none], []⟩) R s := by
  have W : Walks prog w A.in1 I [I, l] [I] vs.toArray.size (fun i v => vs.toArray[i]? = some v) (fun i h => h.IsListIter I l i ∧ h.IsList l vs.toArray) := Walks.list (A := A.in1) hh I l hlI vs.toArray
  have keepl : ∀ h : Heap, (∀ b o, b ≠ I → b ≠ D → base.get? b = some o → h.get? b = some o) → h.IsList l vs.toArray := fun h k => let ⟨o, ho, r⟩ := hlb; ⟨o, k _ _ hlI (Ne.symm hDl) ho, r⟩
  intro r
  induction r with
  | zero =>
    intro i hi s hit hd hk hR
    refine codeAny_builtin upd_entry ?_
    rw [Around.under_plainId upd_plain _]
    unfold Builtin.«dict.update.loop»
    have hin : i = vs.toArray.size := by rw [List.size_toArray, hlen]; lgec_go
    refine wpAny_bind (W.done s _ _ (hin ▸ ⟨hit, keepl _ hk⟩) fun h' tk hk' => ?_)
    have hkvs : kvs.take i = kvs := List.take_of_length_le (by lgec_go)
    rw [hkvs] at hd
    have hd' : h'.DictOf (PySem.intKind prog w) D (merged [] kvs) := by
      (refine hideG ?_; intro G0)
      obtain ⟨o, es, ep, ho, r⟩ := hd
      (dsimp only [G0]); clear G0
      exact ⟨o, es, ep, hk' _ _ (by simpa using hDI) ho, r⟩
    exact wpAny_bind (wpAny_pure (wpAny_pure (hR h' tk hd' fun b o h1 h2 h3 => hk' b o (by simpa using h1) (hk b o h1 h2 h3))))
  | succ r ih =>
    intro i hi s hit hd hk hR
    refine codeAny_builtin upd_entry ?_
    rw [Around.under_plainId upd_plain _]
    unfold Builtin.«dict.update.loop»
    refine wpAny_bind (W.item i s _ _ (by rw [List.size_toArray, hlen]; lgec_go) ⟨hit, keepl _ hk⟩ fun v h' tk hv hst hk' => ?_)
    have hi2 : i < kvs.length := by lgec_go
    (refine hideG ?_; intro G0)
    obtain ⟨t, tk2, k, hvt, htI, htD, htup⟩ := hp i (kvs[i]).1 (kvs[i]).2 (by rw [List.getElem?_eq_getElem hi2])
    (dsimp only [G0]); clear G0
    have hv' : vs[i]? = some v := by simpa using hv
    rw [hvt] at hv'
    obtain rfl := Option.some.inj hv'
    have ht1 : h'.get? t = some (tup2 (.int (kvs[i]).1 tk2) (kvs[i]).2 k) := hk' t _ (by simpa using htI) (hk t _ htI htD htup)
    have hd' : h'.DictOf (PySem.intKind prog w) D (merged [] (kvs.take i)) := by
      (refine hideG ?_; intro G0)
      obtain ⟨o, es, ep, ho, r⟩ := hd
      (dsimp only [G0]); clear G0
      exact ⟨o, es, ep, hk' _ _ (by simpa using hDI) ho, r⟩
    refine wpAny_bind (wpAny_holding (wpAny_bind (wpAny_tryCatch ?_)))
    unfold Builtin.Dict.pairItems
    refine wpAny_bind (wpAny_typeOf (T := "tuple") ⟨_, ht1, rfl⟩ ?_)
    rw [if_pos (by decide)]
    refine wpAny_bind (wpAny_seqItems ht1 rfl (wpAny_pure ?_))
    show wpAny _ _ (holding _ (dictSet D (.int (kvs[i]).1 tk2) (kvs[i]).2)) _ _ _
    have hzz : (merged [] (kvs.take i)).length ≤ sizeLine := by
      have := merged_length_le [] (kvs.take i)
      rw [List.length_take] at this
      rw [sizeLine_eq]
      simp only [List.length_nil] at this
      lgec_go
    refine wpAny_holding (wpAny_dictSet_pairs (hsz := hzz) (intKind_is prog w _ _) hd' fun h2 hd2 hs2 => ?_)
    have hit2 : h2.IsListIter I l (i + 1) := hst.1.at fun o e => hs2.extBut _ _ (Ne.symm hDI) e
    rw [← merged_take_succ [] kvs i kvs[i] (List.getElem?_eq_getElem hi2)] at hd2
    have hk2 : ∀ b o, b ≠ I → b ≠ D → base.get? b = some o → h2.get? b = some o := fun b o h1 h2' h3 => hs2.extBut _ _ h2' (hk' b o (by simpa using h1) (hk b o h1 h2' h3))
    exact wpAny_pure ⟨plainId_quiet upd_plain _, ih (i + 1) (by lgec_go) _ hit2 hd2 hk2 hR⟩
end
section
variable {prog : Program} {w : World} {A : Around} {E : Value → Shared → Prop} {s : Shared} {h₀ : Heap} {L l : Addr} {m : Str → Option Value} {news : Led}
theorem PairsAt.get {news : Led} {vs : List Value} {kvs : List (Int × Value)} (h : PairsAt news vs kvs) : ∀ (j : Nat) (c : Int) (v : Value), kvs[j]? = some (c, v) → ∃ (t : Addr) (tk : Tok) (k : Nat), vs[j]? = some (Value.ref t) ∧ (t, tup2 (.int c tk) v k) ∈ news := by
  induction h with
  | nil => intro j c v h; simp at h
  | cons hm _ ih =>
    intro j c v h
    cases j with
    | zero =>
      simp at h
      obtain ⟨rfl, rfl⟩ := h
      exact ⟨_, _, _, rfl, hm⟩
    | succ j => exact ih j c v (by simpa using h)
theorem PairsAt.length {news : Led} {vs : List Value} {kvs : List (Int × Value)} (h : PairsAt news vs kvs) : vs.length = kvs.length := by
  induction h with
  | nil => rfl
  | cons _ _ ih => simp [ih]
theorem dict_pairs {vs : List Value} {n : Nat} {kvs : List (Int × Value)} {Q : Value → Shared → Prop} (hh : A.handled = none) (F : Fr h₀ L s.heap m) (N : News h₀ L s.heap news) (hm : (l, PySem.W.listOf vs.toArray n) ∈ news) (hp : PairsAt news vs kvs) (hz : kvs.length ≤ 2000)
    (h : ∀ D o h' tk, Fr h₀ L h' m → News h₀ L h' ((D, o) :: news) → (∀ p ∈ news, p.1 < D) → o.IsDictOf (PySem.intKind prog w) (merged [] kvs) → Q (.ref D) { s with heap := h', toks := tk }) :
    wpAny (model prog w) A (call (.type "dict") [.ref l]) Q E s := by
  refine callType_codes (Q₁ := fun obj s₁ => obj = .ref s.heap.objs.size ∧ s₁ = { s with heap := s.heap.push { cls := .type "dict", data := .dict #[] } }) PySem.F.kt_called_dict (PySem.F.kt_typeCall_dict_1 _) PySem.F.entry_dict_init (kt_code_dict_new _ ⟨rfl, rfl⟩) ?_
  rintro obj s₁ ⟨rfl, rfl⟩
  have hnew : (s.heap.push { cls := .type "dict", data := .dict #[] }).DictOf (PySem.intKind prog w) s.heap.objs.size [] := Heap.DictOf.new s.heap
  refine ⟨hnew.typeIs, PySem.F.args_dict_init_2 _ _, ?_⟩
  unfold Builtin.«dict.__init__»
  refine wpAny_bind ?_
  unfold Builtin.Dict.selfAndRest
  refine wpAny_bind (wpAny_notOrdered_dict hnew.typeIs ?_)
  show wpAny _ _ (pure (s.heap.objs.size, [Value.ref l])) _ _ _
  refine wpAny_pure ?_
  show wpAny _ _ (Builtin.Dict.updateFrom "dict.__init__" s.heap.objs.size (.ref l) [] .none) _ _ _
  unfold Builtin.Dict.updateFrom
  have hl0 := (N _ hm).1
  have hl1 := Heap.get?_push_of_some { cls := .type "dict", data := .dict #[] } hl0
  refine wpAny_bind (wpAny_typeOf (T := "list") ⟨_, hl1, rfl⟩ ?_)
  rw [if_pos (by decide)]
  refine wpAny_bind (keys_attr hl1 hh fun h1 tk1 hk1 => ?_)
  rw [if_pos (by rfl)]
  have hl2 : (⟨h1, s.gens, s.drawn, tk1, s.os⟩ : Shared).heap.IsList l vs.toArray := ⟨_, hk1 _ _ hl1, rfl, _, rfl⟩
  refine wpAny_bind (wpAny_rule (wpAny_bind (wpAny_pyIter_list hl2 ?_)))
  have hD1 : h1.get? s.heap.objs.size = some { cls := .type "dict", data := .dict #[] } := hk1 _ _ (Heap.get?_push_size _ rfl)
  have low : ∀ b o, s.heap.get? b = some o → b < s.heap.objs.size := fun b o e => Heap.lt_size e
  have hDs : s.heap.objs.size < h1.objs.size := Heap.lt_size hD1
  have up : ∀ b o, s.heap.get? b = some o → (h1.push { cls := .type "list_iterator", data := .fields #[.ref l, .int 0 0] }).get? b = some o := fun b o e => Heap.get?_push_of_some _ (hk1 _ _ (Heap.get?_push_of_some _ e))
  have nI : ∀ b, b < s.heap.objs.size → b ≠ h1.objs.size := fun b hb => Nat.ne_of_lt (Nat.lt_trans hb hDs)
  have nD : ∀ b, b < s.heap.objs.size → b ≠ s.heap.objs.size := fun b hb => Nat.ne_of_lt hb
  refine wpAny_pure ⟨plainId_quiet upd_plain _, pairs_loop (A := A.in1) hh (I := h1.objs.size) (l := l) (D := s.heap.objs.size) (nI _ (low _ _ hl0)) (Nat.ne_of_lt hDs) (Ne.symm (nD _ (low _ _ hl0))) (h1.push { cls := .type "list_iterator", data := .fields #[.ref l, .int 0 0] })
    (fun j c v e => ?_) hp.length hz ⟨_, up _ _ hl0, rfl, _, rfl⟩ kvs.length 0 (Nat.zero_add _) _ ⟨_, Heap.get?_push_size _ rfl, rfl, rfl⟩ ?_ (fun b o _ _ e => e) fun h' tk hd' hk' => ?_⟩
  · obtain ⟨t, tk, k, h1', h2'⟩ := hp.get j c v e
    exact ⟨t, tk, k, h1', nI _ (low _ _ (N _ h2').1), nD _ (low _ _ (N _ h2').1), up _ _ (N _ h2').1⟩
  · obtain ⟨o, es, ep, ho, r⟩ := hnew
    exact ⟨o, es, ep, Heap.get?_push_of_some _ (hk1 _ _ ho), r⟩
  · obtain ⟨o', ho', hd2⟩ := Heap.dictOf_iff.mp hd'
    have up2 : ∀ b o, s.heap.get? b = some o → h'.get? b = some o := fun b o e => hk' b o (nI _ (low _ _ e)) (nD _ (low _ _ e)) (up _ _ e)
    refine ⟨rfl, h _ o' h' tk (F.keeps up2) (fun p hp' => ?_) (fun p hp' => low _ _ (N p hp').1) hd2⟩
    rcases List.mem_cons.mp hp' with rfl | hp'
    · exact ⟨ho', Nat.ne_of_gt F.ns.lt, none_at_size F⟩
    · exact ⟨up2 _ _ (N p hp').1, (N p hp').2⟩
end

end
section
theorem kw_R0_0 : True := by
  k_with_none
  k_with "om" => first | decide | (with_reducible first | apply om96 <;> assumption | apply om301 <;> assumption | apply om302 <;> assumption | apply om303 <;> assumption | apply om304 <;> assumption | apply om305 <;> assumption)
  k_with "k_ne" => (refine neN ?_; (try dsimp only); first | with_reducible assumption | lgec_go)
  k_with "fold_depth" => first | ((with_reducible show wpAny _ (Around.deeper (ktrTop _ _ _ _ _ _ _ _ _ _) _) _ _ _ _); refine wp_fold4 ?_; intro A1 q0 e0) | (refine wp_fold2 ?_; intro q00 e00)
  k_with "fold_lay" => ((show wpAny _ _ _ _ _ _); first | (fail_if_success k_fold) | ((try clear qf); refine wp_fold ?_; intro qf))
  k_with "k_steps" => ((try dsimp only); (try fold_lay); repeat' (first | (k_unfold; (try dsimp only)) | (k_end; wrow_close) | (walk1; (try ((first | (with_reducible show wpAny _ _ (exec _ _) _ _ _) | (with_reducible show wpAny _ _ (execs _ _) _ _ _)); (try dsimp only); fold_lay))) | (dsimp only; walk1) | (leave1; walk_say "STEP leave1"; try dsimp only) | fail "no step"))
  k_with "k_room" => first | exact fastR (by assumption) | ktr_room | (simp only [A1]; ktr_room)
  k_with "k_units" => first | ktr_units | (simp only [A1]; ktr_units)
  k_with "k_enter" => (refine' code_defC ?k1_493 ?k2_493 ?k3_493 ?k4_493 ?k5_493 ?kA_493 ?kF_493 ?kK_493 ?k6_493 ?k7_493 ?k8_493 ?k9_493 ?kB_493 ?kD_493 ?_ ?c2_493 ?c3_493 ?c4_493; (case kA_493 => exact rfl); (case kF_493 => exact rfl); (case kK_493 => assumption); (case k1_493 => k_asm); (case k2_493 => k_asm); (case k3_493 => k_asm); (case k4_493 => k_asm); (case k5_493 => k_asm); (case k6_493 => k_is); (case k7_493 => k_is); (case k8_493 => k_room); (case k9_493 => first | exact BindsTo.of_eq rfl | exact binds_K (by k_in) rfl (by k_is) rfl rfl rfl); (case kB_493 => exact rfl); (case kD_493 => decide +kernel); (case c2_493 => exact rfl); (case c3_493 => exact rfl); (case c4_493 => exact rfl); k_whole; intro g' L' h' tk' cells' FG' F' N' Y' B' X' T' l1; (try k_lt l1); refine hideG ?_; intro G0; k_cells Y'; (dsimp only [G0]); (try clear G0); (try simp only [List.cons_append, List.nil_append] at N'); (try dsimp only); (try fold_depth))
  k_with "k_enter" => (refine' code_def ?k1_494 ?k2_494 ?k3_494 ?k4_494 ?k5_494 ?kA_494 ?kF_494 ?kK_494 ?k6_494 ?k7_494 ?k8_494 ?k9_494 ?kB_494 ?_ ?c2_494 ?c3_494 ?c4_494 ?c5_494; (case kA_494 => exact rfl); (case kF_494 => exact rfl); (case kK_494 => assumption); (case k1_494 => k_asm); (case k2_494 => k_asm); (case k3_494 => k_asm); (case k4_494 => k_asm); (case k5_494 => k_asm); (case k6_494 => k_is); (case k7_494 => k_is); (case k8_494 => k_room); (case k9_494 => first | exact BindsTo.of_eq rfl | exact binds_K (by k_in) rfl (by k_is) rfl rfl rfl); (case c5_494 => decide); (case kB_494 => exact locs rfl); (case c2_494 => exact rfl); (case c3_494 => exact rfl); (case c4_494 => exact rfl); k_whole; intro g' L' h' FG' F' N' B' X' T'; (try dsimp only); (try fold_depth))
  trivial
noncomputable def numQ : Atom → Option Num
  | .int i => some (i, 0) | .dec q => some q | _ => none
theorem numQ_some (a : Atom) : (numQ a).isSome = numA a := by cases a <;> rfl
theorem numQ_none {a : Atom} (h : numA a = false) : numQ a = none := by cases a <;> first | rfl | cases h
noncomputable def numsQ : List Atom → Option (List Num)
  | [] => some []
  | a :: as => match numQ a, numsQ as with
    | some q, some qs => some (q :: qs)
    | _, _ => none
noncomputable def codeP : Part → Option Int
  | .one a => codeA a | .list _ => none
noncomputable def numP : Part → Option Num
  | .one a => numQ a | .list _ => none
inductive RRow where
  | many (f : Int) (qs : List Num) | span (f l : Int) (q : Num)
noncomputable def readP : List Part → Option (List RRow)
  | [] => some []
  | [_] => none
  | p0 :: .list as :: r => match codeP p0, numsQ as, readP r with
    | some f, some qs, some rr => some (.many f qs :: rr)
    | _, _, _ => none
  | [_, .one _] => none
  | p0 :: .one a :: p2 :: r => match codeP p0, codeA a, numP p2, readP r with
    | some f, some l, some q, some rr => some (.span f l q :: rr)
    | _, _, _, _ => none
noncomputable def pairsR : RRow → List CW
  | .many f qs => listedCW f qs
  | .span f l q => spanCW f (l + 1 - f).toNat q
noncomputable def ReadsOn (ps : List Part) (done : List RRow) (pp : List Part) : Prop := readP ps = (readP pp).map (done ++ ·)
theorem readsOn_start (ps : List Part) : ReadsOn ps [] ps := by
  unfold ReadsOn
  cases readP ps <;> rfl
theorem readsOn_end {ps : List Part} {done : List RRow} (h : ReadsOn ps done []) : readP ps = some done := by
  rw [h]
  show some (done ++ []) = _
  rw [List.append_nil]
theorem readsOn_many {ps : List Part} {done : List RRow} {p0 : Part} {as : List Atom} {r : List Part} {f : Int} {qs : List Num} (h : ReadsOn ps done (p0 :: .list as :: r)) (h1 : codeP p0 = some f) (h2 : numsQ as = some qs) : ReadsOn ps (done ++ [.many f qs]) r := by
  unfold ReadsOn at *
  rw [h, readP, h1, h2]
  cases readP r with
  | none => rfl
  | some rr => simp
theorem readsOn_span {ps : List Part} {done : List RRow} {p0 p2 : Part} {a : Atom} {r : List Part} {f l : Int} {q : Num} (h : ReadsOn ps done (p0 :: .one a :: p2 :: r)) (h1 : codeP p0 = some f) (h2 : codeA a = some l) (h3 : numP p2 = some q) : ReadsOn ps (done ++ [.span f l q]) r := by
  unfold ReadsOn at *
  rw [h, readP, h1, h2, h3]
  cases readP r with
  | none => rfl
  | some rr => simp
theorem readsOn_no {ps : List Part} {done : List RRow} {pp : List Part} (h : ReadsOn ps done pp) (hn : readP pp = none) : readP ps = none := by
  rw [h, hn]
  rfl
theorem no_one (p : Part) : readP [p] = none := by cases p <;> rfl
theorem no_first {p0 p1 : Part} {r : List Part} (h : codeP p0 = none) : readP (p0 :: p1 :: r) = none := by
  cases p1 with
  | list as => rw [readP, h]
  | one a =>
    cases r with
    | nil => rfl
    | cons p2 r => rw [readP, h]
theorem no_many {p0 : Part} {as : List Atom} {r : List Part} (h : numsQ as = none) : readP (p0 :: .list as :: r) = none := by
  rw [readP, h]
  cases codeP p0 <;> rfl
theorem no_two {p0 : Part} {a : Atom} : readP [p0, .one a] = none := rfl
theorem no_last {p0 p2 : Part} {a : Atom} {r : List Part} (h : codeA a = none) : readP (p0 :: .one a :: p2 :: r) = none := by
  rw [readP, h]
  cases codeP p0 <;> rfl
theorem no_num {p0 p2 : Part} {a : Atom} {r : List Part} (h : numP p2 = none) : readP (p0 :: .one a :: p2 :: r) = none := by
  rw [readP, h]
  cases codeP p0 <;> cases codeA a <;> rfl
theorem numsQ_none : ∀ {as : List Atom} {a : Atom}, a ∈ as → numA a = false → numsQ as = none
  | x :: as, a, h, hn => by
    rw [numsQ]
    rcases List.mem_cons.mp h with rfl | h
    · rw [numQ_none hn]
    · rw [numsQ_none h hn]
      cases numQ x <;> rfl
theorem numsQ_all : ∀ {as : List Atom}, (∀ a ∈ as, numA a = true) → ∃ qs, numsQ as = some qs
  | [], _ => ⟨[], rfl⟩
  | x :: as, h => by
    obtain ⟨qs, hq⟩ := numsQ_all (as := as) fun a ha => h a (.tail _ ha)
    have hx := h x (.head _)
    rw [← numQ_some] at hx
    obtain ⟨q, hq2⟩ := Option.isSome_iff_exists.mp hx
    exact ⟨q :: qs, by rw [numsQ, hq2, hq]⟩
theorem numsQ_at : ∀ {as : List Atom} {qs : List Num}, numsQ as = some qs → as.length = qs.length ∧ ∀ (i : Nat) (a : Atom), as[i]? = some a → ∃ q, qs[i]? = some q ∧ numQ a = some q
  | [], _, h => by cases h; exact ⟨rfl, fun i a h => by simp at h⟩
  | x :: as, qs', h => by
    rw [numsQ] at h
    cases hx : numQ x with
    | none => rw [hx] at h; cases numsQ as <;> cases h
    | some q =>
      cases hs : numsQ as with
      | none => rw [hx, hs] at h; cases h
      | some qs =>
        rw [hx, hs] at h
        cases h
        obtain ⟨h1, h2⟩ := numsQ_at hs
        refine ⟨by simp [h1], fun i a hi => ?_⟩
        cases i with
        | zero =>
          simp at hi
          subst hi
          exact ⟨q, rfl, hx⟩
        | succ i => exact h2 i a (by simpa using hi)
theorem AtomIn.num {w : World} {ro : Led} {v : Value} {a : Atom} {q : Num} (h : AtomIn w ro v a) (hq : numQ a = some q) : NumIn w ro v q := by
  cases h with
  | int h1 h2 => cases hq; exact .int (by lgec_go) (by lgec_go)
  | dec h =>
    cases hq
    cases h with
    | mk a b c d e => exact .dec a b c d e
  | _ => cases hq
inductive RowD (w : World) (ro : Led) : Value → RRow → Prop where
  | mk {d : Addr} {o : Obj} {kvs : List (Int × Value)} {row : RRow} : (d, o) ∈ ro → o.IsDictOf (PySem.intKind PySem.Challenge.rw_nn0211_01.row.prog w) kvs → KvIn w ro kvs (pairsR row) → (d == sysModules) = false → RowD w ro (.ref d) row
inductive RowsD (w : World) (ro : Led) : List Value → List RRow → Prop where
  | nil : RowsD w ro [] []
  | cons {v : Value} {row : RRow} {vs : List Value} {rows : List RRow} : RowD w ro v row → RowsD w ro vs rows → RowsD w ro (v :: vs) (row :: rows)
theorem RowD.mono {w : World} {ro ro' : Led} {v : Value} {row : RRow} (h : RowD w ro v row) (hs : ∀ p ∈ ro, p ∈ ro') : RowD w ro' v row := by
  cases h with
  | mk a b c e => exact .mk (hs _ a) b (c.mono hs) e
theorem RowsD.mono {w : World} {ro ro' : Led} {vs : List Value} {rows : List RRow} (h : RowsD w ro vs rows) (hs : ∀ p ∈ ro, p ∈ ro') : RowsD w ro' vs rows := by
  induction h with
  | nil => exact .nil
  | cons h _ ih => exact .cons (h.mono hs) ih
theorem RowsD.snoc {w : World} {ro : Led} {vs : List Value} {rows : List RRow} {v : Value} {row : RRow} (h : RowsD w ro vs rows) (g : RowD w ro v row) : RowsD w ro (vs ++ [v]) (rows ++ [row]) := by
  induction h with
  | nil => exact .cons g .nil
  | cons h _ ih => exact .cons h ih
theorem RunIn.pairs {w : World} {ro : Led} {vs : List Value} {r : List CW} (h : RunIn w ro vs r) : ∃ kvs, PairsAt ro vs kvs ∧ KvIn w ro kvs r := by
  induction h with
  | nil => exact ⟨[], .nil, .nil⟩
  | cons hm hn _ ih =>
    obtain ⟨kvs, h1, h2⟩ := ih
    exact ⟨_, .cons hm h1, .cons hn h2⟩
theorem rises_listed : ∀ (qs : List Num) (c : Int), ((listedCW c qs).map (·.1)).Pairwise (· < ·) ∧ ∀ x ∈ listedCW c qs, c ≤ x.1
  | [], _ => ⟨List.Pairwise.nil, fun _ h => nomatch h⟩
  | q :: qs, c => by
    obtain ⟨h1, h2⟩ := rises_listed qs (c + 1)
    constructor
    · rw [listedCW, List.map_cons, List.pairwise_cons]
      refine ⟨fun a ha => ?_, h1⟩
      obtain ⟨x, hx, rfl⟩ := List.mem_map.mp ha
      have := h2 x hx
      lgec_go
    · intro x hx
      rw [listedCW] at hx
      rcases List.mem_cons.mp hx with rfl | hx
      · exact Int.le_refl _
      · have := h2 x hx
        lgec_go
theorem rises_span : ∀ (n : Nat) (c : Int) (q : Num), ((spanCW c n q).map (·.1)).Pairwise (· < ·) ∧ ∀ x ∈ spanCW c n q, c ≤ x.1
  | 0, _, _ => ⟨List.Pairwise.nil, fun _ h => nomatch h⟩
  | n + 1, c, q => by
    obtain ⟨h1, h2⟩ := rises_span n (c + 1) q
    constructor
    · rw [spanCW, List.map_cons, List.pairwise_cons]
      refine ⟨fun a ha => ?_, h1⟩
      obtain ⟨x, hx, rfl⟩ := List.mem_map.mp ha
      have := h2 x hx
      lgec_go
    · intro x hx
      rw [spanCW] at hx
      rcases List.mem_cons.mp hx with rfl | hx
      · exact Int.le_refl _
      · have := h2 x hx
        lgec_go
theorem rises_row (row : RRow) : ((pairsR row).map (·.1)).Pairwise (· < ·) := by
  cases row with
  | many f qs => exact (rises_listed qs f).1
  | span f l q => exact (rises_span _ f q).1
theorem merged_row {w : World} {ro : Led} {kvs : List (Int × Value)} {row : RRow} (h : KvIn w ro kvs (pairsR row)) : PySem.merged [] kvs = kvs := by
  have hr := rises_row row
  rw [← h.keys] at hr
  exact PySem.merged_nil_of_nodup kvs (hr.imp fun h => Int.ne_of_lt h)
theorem cell_off {news : Led} {L : Addr} (h : ∀ p ∈ news, p.1 < L) : ∀ y ∈ news, y.1 ≠ L + 1 := fun y hy => Nat.ne_of_lt (Nat.lt_succ_of_lt (h y hy))
noncomputable def atomP : Part → Atom
  | .one a => a | .list _ => .sev
theorem PartIn.atom {w : World} {ro : Led} {v : Value} {p : Part} (h : PartIn w ro v p) : AtomIn w ro v (atomP p) := by
  cases h with
  | one h _ => exact h
  | list h _ _ => exact .sev h
theorem codeP_atom (p : Part) : codeP p = codeA (atomP p) := by cases p <;> rfl
theorem numP_atom (p : Part) : numP p = numQ (atomP p) := by cases p <;> rfl
theorem iswholeP (w : World) (news ro : Led) (v : Value) (p : Part) (h : PartIn w ro v p) (hro : ∀ y ∈ ro, y ∈ news) : Calls w 436 2 [v] news (fun r news' => r = .bool (codeP p).isSome ∧ news' = news) := by
  rw [codeP_atom]
  exact iswhole_spec w news v _ (h.atom.mono hro)
theorem issizeP (w : World) (news ro : Led) (v : Value) (p : Part) (h : PartIn w ro v p) (hro : ∀ y ∈ ro, y ∈ news) : Calls w 443 2 [v] news (fun r news' => r = .bool (numP p).isSome ∧ news' = news) := by
  rw [numP_atom, numQ_some]
  exact issize_spec w news v _ (h.atom.mono hro)
theorem issizeA (w : World) (news ro : Led) (v : Value) (a : Atom) (h : AtomIn w ro v a) (hro : ∀ y ∈ ro, y ∈ news) : Calls w 443 2 [v] news (fun r news' => r = .bool (numA a) ∧ news' = news) := issize_spec w news v _ (h.mono hro)
theorem read_drop {h₀ h : Heap} {L : Addr} {a b c : Addr × Obj} {tail news : Led} (N : News h₀ L h (a :: b :: c :: tail)) (hs : ∀ y ∈ news, y ∈ tail) : News h₀ L h news := fun q hq => N q (.tail _ (.tail _ (.tail _ (hs q hq))))
theorem isn {α : Type} {x : Option α} (h : x.isSome = false) : x = none := by cases x <;> simp_all
theorem iss {α : Type} {x : Option α} (h : x.isSome = true) : ∃ y, x = some y := Option.isSome_iff_exists.mp h
theorem read_end {h₀ h : Heap} {L : Addr} {a b c : Addr × Obj} {tnew news : Led} (N : News h₀ L h (a :: b :: c :: (tnew ++ news))) : News h₀ L h ((b :: tnew) ++ news) := fun q hq => N q (by
  rcases List.mem_cons.mp hq with rfl | hq
  · exact .tail _ (.head _)
  · exact .tail _ (.tail _ (.tail _ hq)))
theorem comp_sub3r {x I C D d r c : Addr × Obj} {tl : Led} : ∀ q ∈ I :: C :: D :: d :: r :: c :: x :: tl, q ∈ x :: I :: C :: D :: d :: r :: c :: tl := subL [I, C, D, d, r, c, x] [tl] (.c 0 (.c 1 (.c 2 (.c 3 (.c 4 (.c 5 (.c 6 (.s 0)))))))) (.c 6 (.c 0 (.c 1 (.c 2 (.c 3 (.c 4 (.c 5 (.s 0)))))))) rfl
theorem codeP_int {w : World} {ro : Led} {v : Value} {p : Part} (h : PartIn w ro v p) (hc : (codeP p).isSome = true) : ∃ i t, v = .int i t ∧ codeP p = some i ∧ 0 ≤ i ∧ i ≤ 1000 := by
  cases h with
  | list _ _ _ => cases hc
  | one h hs =>
    clear hs
    cases h with
    | int h1 h2 =>
      rename_i i t
      have : 0 ≤ i := by
        rw [show codeP (.one (.int i)) = codeA (.int i) from rfl, codeA_some] at hc
        exact of_decide_eq_true hc
      exact ⟨i, t, rfl, if_pos this, this, h2⟩
    | _ => cases hc
theorem numP_val {w : World} {ro : Led} {v : Value} {p : Part} (h : PartIn w ro v p) (hc : (numP p).isSome = true) : ∃ q, numP p = some q ∧ NumIn w ro v q := by
  obtain ⟨q, hq⟩ := iss hc
  exact ⟨q, hq, h.atom.num (by rw [← numP_atom]; exact hq)⟩
theorem span_len {f l : Int} (h0 : 0 ≤ f) (h1 : l ≤ 1000) : (l + 1 - f).toNat ≤ 1001 := by lgec_go
theorem PairsAt.mono {news news' : Led} {vs : List Value} {kvs : List (Int × Value)} (h : PairsAt news vs kvs) (hs : ∀ p ∈ news, p ∈ news') : PairsAt news' vs kvs := by
  induction h with
  | nil => exact .nil
  | cons h _ ih => exact .cons (hs _ h) ih
theorem read_ag {D ra c : Addr} {cnew : Led} (h : Apart [(D, dm), (ra, dm), (c, dm)] cnew) : (∀ y ∈ cnew, y.1 ≠ D) ∧ (∀ y ∈ cnew, y.1 ≠ ra) ∧ (∀ y ∈ cnew, y.1 ≠ c) := ⟨Apart.off h (.head _), Apart.off h (.tail _ (.head _)), Apart.off h (.tail _ (.tail _ (.head _)))⟩
theorem news_rd {h₀ h : Heap} {L : Addr} {l d s D r c : Addr × Obj} {cnew tnew news : Led} (N : News h₀ L h (l :: d :: s :: D :: r :: c :: (cnew ++ (tnew ++ news)))) : News h₀ L h (l :: r :: c :: ((d :: (cnew ++ tnew)) ++ news)) := fun q hq => N q (by
  simp only [List.mem_cons, List.mem_append, List.cons_append] at hq ⊢
  grind)
theorem off_rd {d x : Addr} {o : Obj} {cnew tnew news : Led} (h1 : @Ne Nat d x) (h2 : ∀ y ∈ cnew ++ (tnew ++ news), y.1 ≠ x) : ∀ y ∈ ((d, o) :: (cnew ++ tnew)) ++ news, y.1 ≠ x := fun y hy => by
  rcases List.mem_cons.mp hy with rfl | hy
  · exact h1
  · exact h2 y (by rw [← List.append_assoc]; exact hy)
theorem apart_rd {d : Addr} {o : Obj} {cnew tnew news : Led} (h1 : ∀ y ∈ cnew ++ (tnew ++ news), y.1 ≠ d) (h2 : Apart news cnew) (h3 : Apart news tnew) : Apart news ((d, o) :: (cnew ++ tnew)) := Apart.cons (fun q hq => h1 q (List.mem_append_right _ (List.mem_append_right _ hq))) (Apart.app h2 h3)
theorem rows_rd {w : World} {d : Addr} {o : Obj} {cnew tnew ro : Led} {dvs : List Value} {done : List RRow} {row : RRow} {kvs : List (Int × Value)} (h : RowsD w (tnew ++ ro) dvs done) (hd : o.IsDictOf (PySem.intKind PySem.Challenge.rw_nn0211_01.row.prog w) (PySem.merged [] kvs)) (hk : KvIn w (cnew ++ ro) kvs (pairsR row)) (lo : (d == sysModules) = false) :
    RowsD w (((d, o) :: (cnew ++ tnew)) ++ ro) (dvs ++ [.ref d]) (done ++ [row]) := by
  refine (h.mono fun y hy => ?_).snoc (.mk (.head _) (merged_row hk ▸ hd) (hk.mono fun y hy => ?_) lo)
  · simp only [List.cons_append, List.mem_cons, List.mem_append] at hy ⊢
    grind
  · simp only [List.cons_append, List.mem_cons, List.mem_append] at hy ⊢
    grind
theorem len_rd {α : Type} {n : Nat} {ds : List α} {d : α} {v : Nat} (h : v + ds.length ≤ 20) (hv : n + 2 ≤ v) : n + (ds ++ [d]).length ≤ 20 := by
  rw [List.length_append, List.length_singleton]
  lgec_go
noncomputable def SizeInv (as : List Atom) (i : Nat) (ys : List Value) : Prop := (ys = [] ∧ ∀ (j : Nat) (a : Atom), j < i → as[j]? = some a → numA a = true) ∨ (0 < ys.length ∧ numsQ as = none)
theorem SizeInv.start (as : List Atom) : SizeInv as 0 [] := .inl ⟨rfl, fun _ _ h => absurd h (Nat.not_lt_zero _)⟩
theorem SizeInv.good {as : List Atom} {i : Nat} {ys : List Value} {a : Atom} (h : SizeInv as i ys) (ha : as[i]? = some a) (hn : numA a = true) : SizeInv as (i + 1) ys := by
  rcases h with ⟨h1, h2⟩ | h
  · refine .inl ⟨h1, fun j b hj hb => ?_⟩
    rcases Nat.lt_succ_iff_lt_or_eq.mp hj with hj | rfl
    · exact h2 j b hj hb
    · rw [ha] at hb
      cases hb
      exact hn
  · exact .inr h
theorem SizeInv.bad {as : List Atom} {i : Nat} {ys : List Value} {a : Atom} {v : Value} (_ : SizeInv as i ys) (ha : as[i]? = some a) (hn : numA a = false) : SizeInv as (i + 1) (ys ++ [v]) :=
  .inr ⟨by simp, numsQ_none (List.mem_of_getElem? ha) hn⟩
theorem SizeInv.none {as : List Atom} {n : Nat} {ys : List Value} (h : SizeInv as n ys) (hy : 0 < ys.length) : numsQ as = none := by
  rcases h with ⟨h1, _⟩ | h
  · subst h1
    exact absurd hy (Nat.not_lt_zero _)
  · exact h.2
theorem SizeInv.some {as : List Atom} {ys : List Value} (h : SizeInv as as.length ys) (hy : ¬ 0 < ys.length) : ∃ qs, numsQ as = some qs := by
  rcases h with ⟨_, h2⟩ | h
  · refine numsQ_all fun a ha => ?_
    obtain ⟨j, hj⟩ := List.getElem?_of_mem ha
    exact h2 j a (List.getElem?_eq_some_iff.mp hj).1 hj
  · exact absurd h.1 hy
theorem AtomsIn.pick {w : World} {ro : Led} {vs : List Value} {as : List Atom} {i : Nat} {v : Value} (h : AtomsIn w ro vs as) (hv : vs[i]? = some v) : ∃ a, as[i]? = some a ∧ AtomIn w ro v a := by
  obtain ⟨v', a, h1, h2, h3⟩ := h.at i (List.getElem?_eq_some_iff.mp hv).1
  rw [hv] at h1
  exact ⟨a, h2, Option.some.inj h1 ▸ h3⟩
theorem AtomsIn.pickN {w : World} {ro : Led} {vs : List Value} {as : List Atom} {qs : List Num} {i : Nat} {v : Value} (h : AtomsIn w ro vs as) (hq : numsQ as = some qs) (hv : vs[i]? = some v) : ∃ q, qs[i]? = some q ∧ NumIn w ro v q := by
  obtain ⟨a, ha, hA⟩ := h.pick hv
  obtain ⟨q, h1, h2⟩ := (numsQ_at hq).2 i a ha
  exact ⟨q, h1, hA.num h2⟩
theorem comp_sub4r {x I C D e d r c : Addr × Obj} {tl : Led} : ∀ q ∈ I :: C :: D :: e :: d :: r :: c :: x :: tl, q ∈ x :: I :: C :: D :: e :: d :: r :: c :: tl := subL [I, C, D, e, d, r, c, x] [tl] (.c 0 (.c 1 (.c 2 (.c 3 (.c 4 (.c 5 (.c 6 (.c 7 (.s 0))))))))) (.c 7 (.c 0 (.c 1 (.c 2 (.c 3 (.c 4 (.c 5 (.c 6 (.s 0))))))))) rfl
theorem news_rd2 {h₀ h : Heap} {L : Addr} {l d s e D r c : Addr × Obj} {cnew tnew news : Led} (N : News h₀ L h (l :: d :: s :: e :: D :: r :: c :: (cnew ++ (tnew ++ news)))) : News h₀ L h (l :: r :: c :: ((d :: (cnew ++ tnew)) ++ news)) := fun q hq => N q (by
  simp only [List.mem_cons, List.mem_append, List.cons_append] at hq ⊢
  grind)
theorem read_drop2 {h₀ h : Heap} {L : Addr} {e a b c : Addr × Obj} {tail news : Led} (N : News h₀ L h (e :: a :: b :: c :: tail)) (hs : ∀ y ∈ news, y ∈ tail) : News h₀ L h news := fun q hq => N q (.tail _ (.tail _ (.tail _ (.tail _ (hs q hq)))))
theorem listed_all {f : Int} {qs : List Num} {n : Nat} (h : qs.length ≤ n) : listedCW f (qs.take n) = pairsR (.many f qs) := by
  rw [List.take_of_length_le h]
  rfl
theorem pick_at {us : List Value} {i : Nat} {v : Value} (h : us[(0 + (i : Int)).toNat]? = some v) : us[i]? = some v := by
  rw [Int.zero_add, Int.toNat_natCast] at h
  exact h

end
section
theorem kw_S1_0 : True := by
  k_with_none
  k_with "om" => first | decide
  k_with "k_ne" => (refine neN ?_; (try dsimp only); first | with_reducible assumption | lgec_go)
  k_with "fold_depth" => first | ((with_reducible show wpAny _ (Around.deeper (ktrTop _ _ _ _ _ _ _ _ _ _) _) _ _ _ _); refine wp_fold4 ?_; intro A1 q0 e0) | (refine wp_fold2 ?_; intro q00 e00)
  k_with "fold_lay" => ((show wpAny _ _ _ _ _ _); first | (fail_if_success k_fold) | ((try clear qf); refine wp_fold ?_; intro qf))
  k_with "k_steps" => ((try dsimp only); (try fold_lay); repeat' (first | (k_unfold; (try dsimp only)) | (k_end; wrow_close) | (walk1; (try ((first | (with_reducible show wpAny _ _ (exec _ _) _ _ _) | (with_reducible show wpAny _ _ (execs _ _) _ _ _)); (try dsimp only); fold_lay))) | (dsimp only; walk1) | (leave1; walk_say "STEP leave1"; try dsimp only) | fail "no step"))
  k_with "k_room" => first | exact fastR (by assumption) | ktr_room | (simp only [A1]; ktr_room)
  k_with "k_units" => first | ktr_units | (simp only [A1]; ktr_units)
  k_with "k_enter" => (refine' code_defC ?k1_500 ?k2_500 ?k3_500 ?k4_500 ?k5_500 ?kA_500 ?kF_500 ?kK_500 ?k6_500 ?k7_500 ?k8_500 ?k9_500 ?kB_500 ?kD_500 ?_ ?c2_500 ?c3_500 ?c4_500; (case kA_500 => exact rfl); (case kF_500 => exact rfl); (case kK_500 => assumption); (case k1_500 => k_asm); (case k2_500 => k_asm); (case k3_500 => k_asm); (case k4_500 => k_asm); (case k5_500 => k_asm); (case k6_500 => k_is); (case k7_500 => k_is); (case k8_500 => k_room); (case k9_500 => first | exact BindsTo.of_eq rfl | exact binds_K (by k_in) rfl (by k_is) rfl rfl rfl); (case kB_500 => exact rfl); (case kD_500 => decide +kernel); (case c2_500 => exact rfl); (case c3_500 => exact rfl); (case c4_500 => exact rfl); k_whole; intro g' L' h' tk' cells' FG' F' N' Y' B' X' T' l1; (try k_lt l1); refine hideG ?_; intro G0; k_cells Y'; (dsimp only [G0]); (try clear G0); (try simp only [List.cons_append, List.nil_append] at N'); (try dsimp only); (try fold_depth))
  k_with "k_enter" => (refine' code_def ?k1_501 ?k2_501 ?k3_501 ?k4_501 ?k5_501 ?kA_501 ?kF_501 ?kK_501 ?k6_501 ?k7_501 ?k8_501 ?k9_501 ?kB_501 ?_ ?c2_501 ?c3_501 ?c4_501 ?c5_501; (case kA_501 => exact rfl); (case kF_501 => exact rfl); (case kK_501 => assumption); (case k1_501 => k_asm); (case k2_501 => k_asm); (case k3_501 => k_asm); (case k4_501 => k_asm); (case k5_501 => k_asm); (case k6_501 => k_is); (case k7_501 => k_is); (case k8_501 => k_room); (case k9_501 => first | exact BindsTo.of_eq rfl | exact binds_K (by k_in) rfl (by k_is) rfl rfl rfl); (case c5_501 => decide); (case kB_501 => exact locs rfl); (case c2_501 => exact rfl); (case c3_501 => exact rfl); (case c4_501 => exact rfl); k_whole; intro g' L' h' FG' F' N' B' X' T'; (try dsimp only); (try fold_depth))
  k_with "klt" => skip
  k_with "k_all" => first | exact List.forall_mem_nil _ | (with_reducible refine List.forall_mem_cons.mpr ⟨?_, ?_⟩; (focus k_ne); k_all) | with_reducible assumption | with_reducible exact allLt_off (by with_reducible assumption) | with_reducible exact lt_off (by with_reducible assumption) | with_reducible exact off1_off (by with_reducible assumption) | with_reducible exact off3_1 (by with_reducible assumption) | with_reducible exact off3_2 (by with_reducible assumption) | with_reducible exact off3_3 (by with_reducible assumption) | (with_reducible refine GrowK.off (by with_reducible assumption) ?_ ?_; (focus simp only [List.mem_cons, true_or, or_true]); k_all)
  k_with "tb_rel" => with_reducible first | assumption | exact sub_self | (refine sub_tail ?_; tb_rel) | (refine sub_growK (by assumption) ?_; tb_rel) | (refine sub_app ?_ ?_; (focus tb_rel); tb_rel) | (refine sub_consApp ?_; tb_rel) | (refine sub_appL ?_; tb_rel) | (refine sub_appR ?_; tb_rel)
  k_with "k_mem" => (refine sub_mem ?_ (by assumption); tb_rel)
  trivial
noncomputable abbrev shelfDict (w : World) (T T2 : Addr) (k1 k2 : Tok) (n : Nat) : Obj :=
  PySem.W.dictOf [⟨PyData.keyHash w.params (Str.ofString "table"), .str (Str.ofString "table") k1, .ref T⟩, ⟨PyData.keyHash w.params (Str.ofString "trailer"), .str (Str.ofString "trailer") k2, .ref T2⟩] n
noncomputable abbrev refDict (w : World) (c : Int) (t1 t2 k1 k2 : Tok) (n : Nat) : Obj :=
  PySem.W.dictOf [⟨PyData.keyHash w.params (Str.ofString "number"), .str (Str.ofString "number") k1, .int c t1⟩, ⟨PyData.keyHash w.params (Str.ofString "generation"), .str (Str.ofString "generation") k2, .int 0 t2⟩] n
inductive Laid (w : World) (ro : Led) (kvs : List (Int × Value)) : Value → Value → Prop where
  | self {v : Value} : Laid w ro kvs v v
  | far {r d tu : Addr} {c : Int} {t1 t2 k1 k2 t3 : Tok} {n k : Nat} {v : Value} : (r, instObj 282 d) ∈ ro → (d, refDict w c t1 t2 k1 k2 n) ∈ ro → valueAt kvs c = some (.ref tu) → (tu, tup2 (.int 0 t3) v k) ∈ ro → 0 ≤ c → c ≤ 1000 → Laid w ro kvs (.ref r) v
theorem isref_atom (w : World) (ro' ro : Led) (v : Value) (a : Atom) (h' : AtomIn w ro' v a) (hro : ∀ p ∈ ro', p ∈ ro) {mean : ExcName → Option Value} {mg mb : Str → Option Value} {A A₀ : Around} {outer : List Env} {base h₀ : Heap} {L : Addr} {m : Str → Option Value} {s : Shared} {Q E : Value → Shared → Prop}
    (B : Below A₀ base outer h₀) (F : Fr h₀ L s.heap m) (X : (hd.heap_39 w.params).In h₀) (N : News h₀ L s.heap ro) (T : Top hd.view_39 Lo mean mg mb h₀) (hq : ∀ tk', Q (.bool false) { s with toks := tk' }) :
    wpAny (model PySem.Challenge.rw_nn0211_01.row.prog w) A (call (.builtin "isinstance") [v, .ref 282]) Q E s := by
  have h := h'.mono hro
  clear h'
  cases h with
  | dec h1 =>
    cases h1
    k_steps
    exact hq _
  | _ =>
    k_steps
    exact hq _
theorem isnot_some {M : Model} {A : Around} {E : Value → Shared → Prop} {s : Shared} {v : Value} {Q : Value → Shared → Prop} (hv : v ≠ .none) (h : Q (.bool true) s) : wpAny M A (compareOp .IsNot v .none) Q E s :=
  isNot_none (by rw [beq_eq_false_iff_ne.mpr hv]; exact h)

end
section
theorem kw_S2_0 : True := by
  k_with_none
  k_with "om" => first | decide | (with_reducible first | apply om6 <;> assumption)
  k_with "k_ne" => (refine neN ?_; (try dsimp only); first | with_reducible assumption | lgec_go)
  k_with "fold_depth" => first | ((with_reducible show wpAny _ (Around.deeper (ktrTop _ _ _ _ _ _ _ _ _ _) _) _ _ _ _); refine wp_fold4 ?_; intro A1 q0 e0) | (refine wp_fold2 ?_; intro q00 e00)
  k_with "fold_lay" => ((show wpAny _ _ _ _ _ _); first | (fail_if_success k_fold) | ((try clear qf); refine wp_fold ?_; intro qf))
  k_with "k_steps" => ((try dsimp only); (try fold_lay); repeat' (first | (k_unfold; (try dsimp only)) | (k_end; wrow_close) | (walk1; (try ((first | (with_reducible show wpAny _ _ (exec _ _) _ _ _) | (with_reducible show wpAny _ _ (execs _ _) _ _ _)); (try dsimp only); fold_lay))) | (dsimp only; walk1) | (leave1; walk_say "STEP leave1"; try dsimp only) | fail "no step"))
  k_with "k_room" => first | exact fastR (by assumption) | ktr_room | (simp only [A1]; ktr_room)
  k_with "k_units" => first | ktr_units | (simp only [A1]; ktr_units)
  k_with "k_enter" => (refine' code_defC ?k1_510 ?k2_510 ?k3_510 ?k4_510 ?k5_510 ?kA_510 ?kF_510 ?kK_510 ?k6_510 ?k7_510 ?k8_510 ?k9_510 ?kB_510 ?kD_510 ?_ ?c2_510 ?c3_510 ?c4_510; (case kA_510 => exact rfl); (case kF_510 => exact rfl); (case kK_510 => assumption); (case k1_510 => k_asm); (case k2_510 => k_asm); (case k3_510 => k_asm); (case k4_510 => k_asm); (case k5_510 => k_asm); (case k6_510 => k_is); (case k7_510 => k_is); (case k8_510 => k_room); (case k9_510 => first | exact BindsTo.of_eq rfl | exact binds_K (by k_in) rfl (by k_is) rfl rfl rfl); (case kB_510 => exact rfl); (case kD_510 => decide +kernel); (case c2_510 => exact rfl); (case c3_510 => exact rfl); (case c4_510 => exact rfl); k_whole; intro g' L' h' tk' cells' FG' F' N' Y' B' X' T' l1; (try k_lt l1); refine hideG ?_; intro G0; k_cells Y'; (dsimp only [G0]); (try clear G0); (try simp only [List.cons_append, List.nil_append] at N'); (try dsimp only); (try fold_depth))
  k_with "k_enter" => (refine' code_def ?k1_511 ?k2_511 ?k3_511 ?k4_511 ?k5_511 ?kA_511 ?kF_511 ?kK_511 ?k6_511 ?k7_511 ?k8_511 ?k9_511 ?kB_511 ?_ ?c2_511 ?c3_511 ?c4_511 ?c5_511; (case kA_511 => exact rfl); (case kF_511 => exact rfl); (case kK_511 => assumption); (case k1_511 => k_asm); (case k2_511 => k_asm); (case k3_511 => k_asm); (case k4_511 => k_asm); (case k5_511 => k_asm); (case k6_511 => k_is); (case k7_511 => k_is); (case k8_511 => k_room); (case k9_511 => first | exact BindsTo.of_eq rfl | exact binds_K (by k_in) rfl (by k_is) rfl rfl rfl); (case c5_511 => decide); (case kB_511 => exact locs rfl); (case c2_511 => exact rfl); (case c3_511 => exact rfl); (case c4_511 => exact rfl); k_whole; intro g' L' h' FG' F' N' B' X' T'; (try dsimp only); (try fold_depth))
  trivial
local macro_rules | `(tactic| walk_at "pyIter ref") => `(tactic| ((with_reducible show wpAny _ _ (pyIter (Value.ref _)) (fun it s₂ => LoopAtV _ _ _ _ _ _ _ _ _ it s₂) _ _); refine Stop.mk ?_))
theorem kw_S2_1 : True := by
  k_with "klt" => skip
  k_with "k_all" => first | exact List.forall_mem_nil _ | (with_reducible refine List.forall_mem_cons.mpr ⟨?_, ?_⟩; (focus k_ne); k_all) | with_reducible assumption | with_reducible exact allLt_off (by with_reducible assumption) | with_reducible exact lt_off (by with_reducible assumption) | with_reducible exact off1_off (by with_reducible assumption) | with_reducible exact off3_1 (by with_reducible assumption) | with_reducible exact off3_2 (by with_reducible assumption) | with_reducible exact off3_3 (by with_reducible assumption) | (with_reducible refine GrowK.off (by with_reducible assumption) ?_ ?_; (focus simp only [List.mem_cons, true_or, or_true]); k_all)
  k_with "tb_rel" => with_reducible first | assumption | exact sub_self | (refine sub_tail ?_; tb_rel) | (refine sub_growK (by assumption) ?_; tb_rel) | (refine sub_app ?_ ?_; (focus tb_rel); tb_rel) | (refine sub_consApp ?_; tb_rel) | (refine sub_appL ?_; tb_rel) | (refine sub_appR ?_; tb_rel)
  k_with "k_mem" => (refine sub_mem ?_ (by assumption); tb_rel)
  k_with "call builtin:isinstance" => ((with_reducible show wpAny _ _ (call (Value.builtin "isinstance") [_, Value.ref 282]) _ _ _); refine' isref_atom _ _ _ _ _ ?k1_515 ?k3_515 ?k4_515 ?k5_515 ?k6_515 ?k7_515 ?k8_515 ?_; (case k1_515 => assumption); (case k4_515 => k_asm); (case k5_515 => k_asm); (case k7_515 => k_asm); (case k3_515 => tb_rel); (case k6_515 => k_asm); (case k8_515 => k_asm); intro tk')
  k_with "getMethod ref" => ((with_reducible show wpAny _ _ (getMethod (Value.ref _) (Str.ofString "get") _) _ _ _); k_dflt (refine' kdg_method (knd := PySem.intKind _ _) ?k1_516 ?k2_516 ?k3_516 ?_; (case k1_516 => k_asm); (case k2_516 => k_mem); (case k3_516 => assumption)))
  k_with "call builtin:dict.get" => ((with_reducible show wpAny _ _ (call (Value.builtin "dict.get") [Value.ref _, Value.int _ _, _]) _ _ _); k_dflt (refine' kdg_get2 (knd := PySem.intKind _ _) ?k1_517 ?k2_517 ?k3_517 ?k4_517 (intKind_is _ _ _ _) (some _) ?k5_517 ?_; (case k1_517 => k_asm); (case k2_517 => k_mem); (case k3_517 => assumption); (case k4_517 => assumption); (case k5_517 => assumption)); (try dsimp only [Option.getD]))
  trivial
theorem fetch_spec (w : World) (news ro : Led) (S sd T T2 : Addr) (oT : Obj) (k1 k2 : Tok) (n : Nat) (kvs : List (Int × Value)) (v' v : Value) (a : Atom) (hS : (S, instObj 332 sd) ∈ news) (hsd : (sd, shelfDict w T T2 k1 k2 n) ∈ news) (hT : (T, oT) ∈ news) (hk : oT.IsDictOf (PySem.intKind PySem.Challenge.rw_nn0211_01.row.prog w) kvs) (lo : (T == sysModules) = false) (hL : Laid w ro kvs v' v) (hA : AtomIn w ro v a) (hro : ∀ y ∈ ro, y ∈ news) :
    Calls w 322 3 [.ref S, v'] news (fun r news' => r = v ∧ news' = news) := by
  intro mean mg mb dp un gd cn cs ad ccd cl outer A₀ base h₀ L m s Q E B F X N Tc hk1 hd hu hret
  k_steps
  refine Stop.on ?_
  rename IsRange _ _ _ _ _ _ _ _ => hr
  rename Fr _ _ _ _ => F1
  rename News _ _ _ news => N1
  refine loop_range (J := fun i m news' => ∃ x, Has m [(Str.ofString "self", .ref S), (Str.ofString "here", x)] ∧ news = news' ∧ ((i = 0 ∧ x = v') ∨ (i = 1 ∧ x = v))) rfl hr (range_small (by decide) (by decide) (by lgec_go) (by lgec_go)) range_n0 F1 N1 ?h0 ?turn ?done
  case h0 => exact ⟨_, ⟨rfl, rfl, trivial⟩, rfl, .inl ⟨rfl, rfl⟩⟩
  case done =>
    rintro m₁ news₁ h tk ⟨x, hm, rfl, h | h⟩ F2 N2
    · exact absurd h.1 (by decide)
    · exact absurd h.1 (by decide)
  case turn =>
    rintro i t m₁ news₁ I oI h tk hi ⟨x, hm, rfl, hx⟩ offI ltI F2 N2
    replace F2 := pinned1 F2 hm
    simp only [pin] at F2
    have hback : Laid w ro kvs x v ∨ x = v := by
      rcases hx with ⟨_, rfl⟩ | ⟨_, rfl⟩
      · exact .inl hL
      · exact .inr rfl
    by_cases hxv : x = v
    · subst hxv
      k_steps
      try dsimp only
      unfold TurnJ
      try dsimp only
      k_steps
      rename News h₀ L _ (_ :: _) => NN
      exact hret _ _ _ _ (by k_asm) (fun q hq => NN q (.tail _ hq)) ⟨rfl, rfl⟩
    · have hi0 : i = 0 ∧ x = v' := by
        rcases hx with h | h
        · exact h
        · exact absurd h.2 hxv
      obtain ⟨rfl, rfl⟩ := hi0
      (refine hideG ?_; intro G0)
      cases hL with
      | self =>
        (dsimp only [G0]); clear G0
        exact absurd rfl hxv
      | far hr1 hr2 hr3 hr4 hr5 hr6 =>
        (dsimp only [G0]); clear G0
        replace hr1 := hro _ hr1
        replace hr2 := hro _ hr2
        replace hr4 := hro _ hr4
        k_steps
        rename News _ _ _ (_ :: _ :: _) => N5
        refine ⟨_, _, _, _, rfl, by k_asm, fun q hq => N5 q (.tail _ hq), offI, ?_⟩
        refine ⟨v, ⟨rfl, rfl, trivial⟩, rfl, .inr (by constructor <;> first | rfl | trivial)⟩

end
section
theorem kw_Q8_0 : True := by
  k_with_none
  k_with "om" => first | decide | (with_reducible first | apply om3 <;> assumption | apply om15 <;> assumption | apply om18 <;> assumption | apply om23 <;> assumption | apply om24 <;> assumption | apply om29 <;> assumption | apply om51 <;> assumption | apply om97 <;> assumption | apply om98 <;> assumption | apply om99 <;> assumption | apply om306 <;> assumption | apply om307 <;> assumption | apply om308 <;> assumption | apply om309 <;> assumption | apply om310 <;> assumption | apply om311 <;> assumption | apply om312 <;> assumption | apply om313 <;> assumption | apply om314 <;> assumption | apply om315 <;> assumption | apply om316 <;> assumption | apply om317 <;> assumption | apply om318 <;> assumption | apply om319 <;> assumption | apply om320 <;> assumption | apply om321 <;> assumption | apply om322 <;> assumption | apply om323 <;> assumption | apply om324 <;> assumption | apply om325 <;> assumption | apply om326 <;> assumption | apply om327 <;> assumption | apply om328 <;> assumption | apply om329 <;> assumption | apply om330 <;> assumption | apply om331 <;> assumption | apply om332 <;> assumption | apply om333 <;> assumption | apply om334 <;> assumption | apply om335 <;> assumption | apply om336 <;> assumption | apply om337 <;> assumption | apply om338 <;> assumption | apply om339 <;> assumption)
  k_with "k_ne" => (refine neN ?_; (try dsimp only); first | with_reducible assumption | lgec_go)
  k_with "fold_depth" => first | ((with_reducible show wpAny _ (Around.deeper (ktrTop _ _ _ _ _ _ _ _ _ _) _) _ _ _ _); refine wp_fold4 ?_; intro A1 q0 e0) | (refine wp_fold2 ?_; intro q00 e00)
  k_with "fold_lay" => ((show wpAny _ _ _ _ _ _); first | (fail_if_success k_fold) | ((try clear qf); refine wp_fold ?_; intro qf))
  k_with "k_steps" => ((try dsimp only); (try fold_lay); repeat' (first | (k_unfold; (try dsimp only)) | (k_end; wrow_close) | (walk1; (try ((first | (with_reducible show wpAny _ _ (exec _ _) _ _ _) | (with_reducible show wpAny _ _ (execs _ _) _ _ _)); (try dsimp only); fold_lay))) | (dsimp only; walk1) | (leave1; walk_say "STEP leave1"; try dsimp only) | fail "no step"))
  k_with "k_room" => first | exact fastR (by assumption) | ktr_room | (simp only [A1]; ktr_room)
  k_with "k_units" => first | ktr_units | (simp only [A1]; ktr_units)
  k_with "k_enter" => (refine' code_defC ?k1_523 ?k2_523 ?k3_523 ?k4_523 ?k5_523 ?kA_523 ?kF_523 ?kK_523 ?k6_523 ?k7_523 ?k8_523 ?k9_523 ?kB_523 ?kD_523 ?_ ?c2_523 ?c3_523 ?c4_523; (case kA_523 => exact rfl); (case kF_523 => exact rfl); (case kK_523 => assumption); (case k1_523 => k_asm); (case k2_523 => k_asm); (case k3_523 => k_asm); (case k4_523 => k_asm); (case k5_523 => k_asm); (case k6_523 => k_is); (case k7_523 => k_is); (case k8_523 => k_room); (case k9_523 => first | exact BindsTo.of_eq rfl | exact binds_K (by k_in) rfl (by k_is) rfl rfl rfl); (case kB_523 => exact rfl); (case kD_523 => decide +kernel); (case c2_523 => exact rfl); (case c3_523 => exact rfl); (case c4_523 => exact rfl); k_whole; intro g' L' h' tk' cells' FG' F' N' Y' B' X' T' l1; (try k_lt l1); refine hideG ?_; intro G0; k_cells Y'; (dsimp only [G0]); (try clear G0); (try simp only [List.cons_append, List.nil_append] at N'); (try dsimp only); (try fold_depth))
  k_with "k_enter" => (refine' code_def ?k1_524 ?k2_524 ?k3_524 ?k4_524 ?k5_524 ?kA_524 ?kF_524 ?kK_524 ?k6_524 ?k7_524 ?k8_524 ?k9_524 ?kB_524 ?_ ?c2_524 ?c3_524 ?c4_524 ?c5_524; (case kA_524 => exact rfl); (case kF_524 => exact rfl); (case kK_524 => assumption); (case k1_524 => k_asm); (case k2_524 => k_asm); (case k3_524 => k_asm); (case k4_524 => k_asm); (case k5_524 => k_asm); (case k6_524 => k_is); (case k7_524 => k_is); (case k8_524 => k_room); (case k9_524 => first | exact BindsTo.of_eq rfl | exact binds_K (by k_in) rfl (by k_is) rfl rfl rfl); (case c5_524 => decide); (case kB_524 => exact locs rfl); (case c2_524 => exact rfl); (case c3_524 => exact rfl); (case c4_524 => exact rfl); k_whole; intro g' L' h' FG' F' N' B' X' T'; (try dsimp only); (try fold_depth))
  k_with "klt" => skip
  k_with "k_all" => first | exact List.forall_mem_nil _ | (with_reducible refine List.forall_mem_cons.mpr ⟨?_, ?_⟩; (focus k_ne); k_all) | with_reducible assumption | with_reducible exact allLt_off (by with_reducible assumption) | (with_reducible refine GrowK.off (by with_reducible assumption) ?_ ?_; (focus simp only [List.mem_cons, true_or, or_true]); k_all)
  k_with "k_mem" => first | exact sub_mem (by assumption) (by assumption) | exact GrowK.mem (by assumption) (by assumption)
  k_with "tb_rel" => first | assumption | (intro p hp; solve_by_elim (maxDepth := 12) only [hp, List.Mem.tail, *])
  k_with "tb_start" => first | assumption | exact rot1 (by assumption) | exact rot2 (by assumption) | exact rot3 (by assumption) | exact rot4 (by assumption) | exact rot5 (by assumption) | exact rot6 (by assumption)
  k_with "call ref" => ((with_reducible show wpAny _ _ (call (Value.ref 400) _) _ _ _); first | (k_dflt (refine' Calls.useP ?k1_529 ?k2_529 ?k3_529 ?k4_529 ?k5_529 ?kK_529 ?C_529 ?kd_529 ?ku_529 ?_; (case k1_529 => k_asm); (case k2_529 => k_asm); (case k3_529 => k_asm); (case k4_529 => tb_start); (case k5_529 => k_asm); (case kK_529 => first | exact rfl | assumption); (case C_529 => exact draw_spec _ _ _ _ _ _ _ _ _ (by assumption) (by lgec_go) (by assumption) (by k_all) (by k_all) (by lgec_go) (by lgec_go)); (case kd_529 => first | exact fastD (by assumption) (by decide) | ktr_room); (case ku_529 => first | exact fastU (by assumption) (by decide) | ktr_units); k_whole; intro r' n' h' tk' F' N' hr'; refine hideG ?_; intro G0; (obtain ⟨x', t', e', hx0', hx1', e1', e2', hP', en'⟩ := hr'); subst e'; subst en'; (dsimp only [G0]); (try clear G0); (try k_sweep))) | refine Stop.mk ?_)
  k_with "call ref" => ((with_reducible show wpAny _ _ (call (Value.ref 407) _) _ _ _); first | (k_dflt (refine' Calls.useP ?k1_530 ?k2_530 ?k3_530 ?k4_530 ?k5_530 ?kK_530 ?C_530 ?kd_530 ?ku_530 ?_; (case k1_530 => k_asm); (case k2_530 => k_asm); (case k3_530 => k_asm); (case k4_530 => tb_start); (case k5_530 => k_asm); (case kK_530 => first | exact rfl | assumption); (case C_530 => exact width_atom _ _ _ _ _ _ _ (by assumption) (by first | assumption | lgec_go) (by assumption) (by k_all) (by k_all)); (case kd_530 => first | exact fastD (by assumption) (by decide) | ktr_room); (case ku_530 => first | exact fastU (by assumption) (by decide) | ktr_units); k_whole; intro r' n' h' tk' F' N' hr'; refine hideG ?_; intro G0; (obtain ⟨e1', e2', new', at', hP', en', hA', hn', hns'⟩ := hr'); subst en'; (first | (obtain ⟨rest', htl', N9', hG', hsn'⟩ := grow7 N' (Above.apart hA') rfl rfl) | (obtain ⟨rest', htl', N9', hG', hsn'⟩ := grow6 N' (Above.apart hA') rfl rfl) | (obtain ⟨rest', htl', N9', hG', hsn'⟩ := grow5 N' (Above.apart hA') rfl rfl) | (obtain ⟨rest', htl', N9', hG', hsn'⟩ := grow4 N' (Above.apart hA') rfl rfl) | (obtain ⟨rest', htl', N9', hG', hsn'⟩ := grow3 N' (Above.apart hA') rfl rfl) | (obtain ⟨rest', htl', N9', hG', hsn'⟩ := grow2 N' (Above.apart hA') rfl rfl) | (obtain ⟨rest', htl', N9', hG', hsn'⟩ := grow1 N' (Above.apart hA') rfl rfl) | (obtain ⟨rest', htl', N9', hG', hsn'⟩ := grow0 N' (Above.apart hA') rfl rfl)); clear N'; (try dsimp only at hG'); (dsimp only [G0]); (try clear G0); (try k_sweep))) | refine Stop.mk ?_)
  trivial
local macro_rules | `(tactic| walk_at "pyIter ref") => `(tactic| ((with_reducible show wpAny _ _ (pyIter (Value.ref _)) (fun it s₂ => LoopAtV _ _ _ _ _ _ _ _ _ it s₂) _ _); refine Stop.mk ?_))
theorem kw_Q8_1 : True := by
  k_with "setItem ref int" => (k_dflt (refine' lst_set ?k1_531 ?k2_531 ?k3_531 ?k4_531 ?k5_531 ?k6_531 ?_; (case k1_531 => k_asm); (case k2_531 => k_asm); (case k3_531 => k_upd); (case k4_531 => lgec_go); (case k5_531 => lgec_go); (case k6_531 => lgec_go); k_whole); intro h' F' N'; (try k_sweep))
  k_with "subscriptTail" => ((with_reducible show wpAny _ _ (subscriptTail (Expr.List _ _) _ (Value.ref _) (Value.int _ _)) _ _ _); k_dflt (refine' lst_pick ?k1_532 ?k2_532 ?k3_532 ?k4_532 ?k5_532 ?_; (case k1_532 => k_asm); (case k2_532 => k_mem); (case k3_532 => lgec_go); (case k4_532 => (simp only [List.length_cons, List.length_nil]; lgec_go)); (case k5_532 => exact Nat.le_of_ble_eq_true rfl)); intro v9 hv9)
  k_with "subscriptTail" => ((with_reducible show wpAny _ _ (subscriptTail (Expr.Name _ _) _ (Value.ref _) (Value.int _ _)) _ _ _); first | (k_dflt (refine' lst_item ?k1_533 ?k2_533 ?k3_533 ?k4_533 ?k5_533 ?_; (case k1_533 => k_asm); (case k2_533 => k_mem); (case k3_533 => lgec_go); (case k4_533 => lgec_go); (case k5_533 => assumption))) | (k_dflt (refine' lst_pick ?k1_533 ?k2_533 ?k3_533 ?k4_533 ?k5_533 ?_; (case k1_533 => k_asm); (case k2_533 => k_mem); (case k3_533 => lgec_go); (case k4_533 => lgec_go); (case k5_533 => lgec_go)); intro v9 hv9; (refine Stop.mk ?_)))
  k_with "subscriptTail Name Slice ref ref" => ((with_reducible show wpAny _ _ (subscriptTail (Expr.Name _ _) _ (Value.ref _) (Value.ref _)) _ _ _); k_dflt (first | (refine' lst_take ?k1_534 ?k2_534 ?k3_534 ?k4_534 ?k5_534 ?_; (case k1_534 => k_asm); (case k2_534 => k_asm); (case k3_534 => k_mem); (case k4_534 => lgec_go); (case k5_534 => lgec_go); k_whole) | (refine' lst_drop ?k1_534 ?k2_534 ?k3_534 ?k4_534 ?k5_534 ?_; (case k1_534 => k_asm); (case k2_534 => k_asm); (case k3_534 => k_mem); (case k4_534 => lgec_go); (case k5_534 => lgec_go); k_whole)); intro l' h' F' N' l1; (try k_lt l1); (try k_sweep))
  k_with "subscriptTail List BinOp ref int" => ((with_reducible show wpAny _ _ (subscriptTail (Expr.List _ _) _ (Value.ref _) (Value.int _ _)) _ _ _); k_dflt (refine' lst_pick ?k1_535 ?k2_535 ?k3_535 ?k4_535 ?k5_535 ?_; (case k1_535 => k_asm); (case k2_535 => k_mem); (case k3_535 => lgec_go); (case k4_535 => (simp only [List.length_cons, List.length_nil]; lgec_go)); (case k5_535 => exact Nat.le_of_ble_eq_true rfl)); intro v9 hv9)
  k_with "subscriptTail List Call ref int" => ((with_reducible show wpAny _ _ (subscriptTail (Expr.List _ _) _ (Value.ref _) (Value.int _ _)) _ _ _); k_dflt (refine' lst_pick ?k1_536 ?k2_536 ?k3_536 ?k4_536 ?k5_536 ?_; (case k1_536 => k_asm); (case k2_536 => k_mem); (case k3_536 => lgec_go); (case k4_536 => (simp only [List.length_cons, List.length_nil]; lgec_go)); (case k5_536 => exact Nat.le_of_ble_eq_true rfl)); intro v9 hv9)
  k_with "subscriptTail List Name ref int" => ((with_reducible show wpAny _ _ (subscriptTail (Expr.List _ _) _ (Value.ref _) (Value.int _ _)) _ _ _); k_dflt (refine' lst_pick ?k1_537 ?k2_537 ?k3_537 ?k4_537 ?k5_537 ?_; (case k1_537 => k_asm); (case k2_537 => k_mem); (case k3_537 => lgec_go); (case k4_537 => (simp only [List.length_cons, List.length_nil]; lgec_go)); (case k5_537 => exact Nat.le_of_ble_eq_true rfl)); intro v9 hv9)
  k_with "subscriptTail Name Name ref int" => ((with_reducible show wpAny _ _ (subscriptTail (Expr.Name _ _) _ (Value.ref _) (Value.int _ _)) _ _ _); first | (k_dflt (refine' lst_item ?k1_538 ?k2_538 ?k3_538 ?k4_538 ?k5_538 ?_; (case k1_538 => k_asm); (case k2_538 => k_mem); (case k3_538 => lgec_go); (case k4_538 => lgec_go); (case k5_538 => assumption))) | (k_dflt (refine' lst_pick ?k1_538 ?k2_538 ?k3_538 ?k4_538 ?k5_538 ?_; (case k1_538 => k_asm); (case k2_538 => k_mem); (case k3_538 => lgec_go); (case k4_538 => lgec_go); (case k5_538 => lgec_go)); intro v9 hv9; (refine Stop.mk ?_)))
  k_with "klt" => skip
  k_with "k_all" => first | exact List.forall_mem_nil _ | (with_reducible refine List.forall_mem_cons.mpr ⟨?_, ?_⟩; (focus k_ne); k_all) | with_reducible assumption | with_reducible exact allLt_off (by with_reducible assumption) | with_reducible exact lt_off (by with_reducible assumption) | with_reducible exact off1_off (by with_reducible assumption) | with_reducible exact off3_1 (by with_reducible assumption) | with_reducible exact off3_2 (by with_reducible assumption) | with_reducible exact off3_3 (by with_reducible assumption) | (with_reducible refine GrowK.off (by with_reducible assumption) ?_ ?_; (focus simp only [List.mem_cons, true_or, or_true]); k_all)
  k_with "tb_rel" => with_reducible first | assumption | exact sub_self | (refine sub_tail ?_; tb_rel) | (refine sub_growK (by assumption) ?_; tb_rel) | (refine sub_app ?_ ?_; (focus tb_rel); tb_rel) | (refine sub_consApp ?_; tb_rel) | (refine sub_appL ?_; tb_rel) | (refine sub_appR ?_; tb_rel)
  k_with "k_mem" => (refine sub_mem ?_ (by assumption); tb_rel)
  k_with "call builtin:len" => ((with_reducible show wpAny _ _ (call (Value.builtin "len") [Value.ref _]) _ _ _); k_dflt (refine' lst_len ?k1_542 ?k2_542 ?k3_542 ?_; (case k1_542 => k_asm); (case k2_542 => k_mem); (case k3_542 => lgec_go); k_whole))
  k_with "truthy ref" => (k_dflt (refine' lst_truthy ?k1_543 ?k2_543 ?k3_543 ?_; (case k1_543 => k_asm); (case k2_543 => k_mem); (case k3_543 => lgec_go); k_whole))
  k_with "call builtin:list.append" => ((with_reducible show wpAny _ _ (call (Value.builtin _) [Value.ref _, _]) _ _ _); k_dflt (refine' lst_append ?k1_544 ?k2_544 ?k3_544 ?k4_544 ?_; (case k1_544 => k_asm); (case k2_544 => k_asm); (case k3_544 => k_upd); (case k4_544 => lgec_go); k_whole); intro h' F' N'; (try k_sweep))
  k_with "call builtin:list.extend" => ((with_reducible show wpAny _ _ (call (Value.builtin _) [Value.ref _, Value.ref _]) _ _ _); k_dflt (refine' lst_extend ?k1_545 ?k2_545 ?k3_545 ?k4_545 ?k5_545 ?_; (case k1_545 => k_asm); (case k2_545 => k_asm); (case k3_545 => k_updF); (case k4_545 => k_mem); (case k5_545 => first | (simp only [List.length_take, List.length_drop, List.length_append, List.length_cons, List.length_nil]; lgec_go) | lgec_go); k_whole); intro h' n' F' N'; (try dsimp only at N'); (try k_sweep))
  k_with "binaryOp Add" => ((with_reducible show wpAny _ _ (binaryOp Operator.Add (Value.ref _) (Value.ref _)) _ _ _); k_dflt (refine' lst_add ?k1_546 ?k2_546 ?k3_546 ?k4_546 ?k5_546 ?_; (case k1_546 => k_asm); (case k2_546 => k_asm); (case k3_546 => k_mem); (case k4_546 => k_mem); (case k5_546 => first | (simp only [List.length_cons, List.length_nil]; lgec_go) | lgec_go); k_whole); intro l' h' F' N' l1; (try k_lt l1); (try k_sweep))
  k_with "binaryOp Add ref ref" => ((with_reducible show wpAny _ _ (binaryOp Operator.Add (Value.ref _) (Value.ref _)) _ _ _); k_dflt (refine' lst_add ?k1_547 ?k2_547 ?k3_547 ?k4_547 ?k5_547 ?_; (case k1_547 => k_asm); (case k2_547 => k_asm); (case k3_547 => k_mem); (case k4_547 => k_mem); (case k5_547 => first | (simp only [List.length_cons, List.length_nil]; lgec_go) | lgec_go); k_whole); intro l' h' F' N' l1; (try k_lt l1); (try k_sweep))
  k_with "subscriptTail Name Slice ref ref" => ((with_reducible show wpAny _ _ (subscriptTail _ _ (Value.ref _) (Value.ref _)) _ _ _); k_dflt (refine' lst_slice ?k1_548 ?k2_548 ?k3_548 ?k4_548 ?k5_548 ?k6_548 ?_; (case k1_548 => k_asm); (case k2_548 => k_asm); (case k3_548 => k_mem); (case k4_548 => lgec_go); (case k5_548 => lgec_go); (case k6_548 => lgec_go); k_whole); intro l' h' F' N' l1; (try k_lt l1); (try k_sweep))
  k_with "eval ListComp" => (first | ((with_reducible show wpAny _ _ (eval (PySem.Expr.ListComp _ [PySem.Comprehension.mk (PySem.Expr.Tuple _ _ _) _ [_] _] _ _) _) _ _ _); refine Stop.mk ?_) | (lct_look; k_dflt (refine LCt.ListComp_T (F₀ := by k_asm) (by with_unfolding_all rfl) (by decide) (by rfl) (by decide) (by rfl) ?_); k_dflt lct_toSrc) | (lcp_look; k_dflt (refine LCp.ListComp_P (F₀ := by k_asm) (by with_unfolding_all rfl) (by decide) (by rfl) (by decide) (by rfl) (by rfl) (by decide) ?_); k_dflt lcp_toSrc) | ((first | lcg_look | lcf_look); k_dflt (refine LCg.ListComp_U (F₀ := by k_asm) (by with_unfolding_all rfl) (by decide) (by rfl) (by decide) (by rfl) ?_); k_dflt lcg_toSrc) | refine Stop.mk ?_)
  k_with "exec Assign cons ListComp" => (first | (lct_look; k_dflt (refine LCt.Assign_ListComp_T (F₀ := by k_asm) (by rfl) (by with_unfolding_all rfl) (by with_unfolding_all rfl) (by decide) (by rfl) (by decide) (by rfl) (by rfl) (by rfl) ?_); k_dflt lct_toSrc) | (lcp_look; k_dflt (refine LCp.Assign_ListComp_P (F₀ := by k_asm) (by rfl) (by with_unfolding_all rfl) (by with_unfolding_all rfl) (by decide) (by rfl) (by decide) (by rfl) (by rfl) (by decide) (by rfl) (by rfl) ?_); k_dflt lcp_toSrc) | ((first | lcg_look | lcf_look); k_dflt (refine LCg.Assign_ListComp_U (F₀ := by k_asm) (by rfl) (by with_unfolding_all rfl) (by with_unfolding_all rfl) (by decide) (by rfl) (by decide) (by rfl) (by rfl) (by rfl) ?_); k_dflt lcg_toSrc))
  k_with "SrcLP" => (first | k_dflt (refine LCp.SrcLP.ledger (by rfl) (by k_asm) (by k_asm) (by k_mem) ?sz_551 ?_; (case sz_551 => rw [List.size_toArray, sizeLine_eq]; lgec_go); intro g'; refine Stop.mk ?_) | refine Stop.mk ?_)
  k_with "CompSrc" => (first | k_dflt (first | (refine LCg.CompSrc.ledger (by rfl) (by k_asm) (by k_asm) (by k_mem) ?sz_552 ?_; (case sz_552 => rw [List.size_toArray, sizeLine_eq]; lgec_go); intro g'; refine Stop.mk ?_) | (refine LCg.CompSrc.range (by rfl) (by k_asm) (by k_asm) (by assumption) (range_small (by first | decide | lgec_go) (by first | decide | lgec_go) (by lgec_go) (by lgec_go)) (by first | exact range_n0 | exact range_n) ?sz_552 ?_; (case sz_552 => rw [sizeLine_eq]; lgec_go); intro g'; refine Stop.mk ?_)) | refine Stop.mk ?_)
  k_with "CompSrcT" => (first | k_dflt (first | (refine LCt.CompSrcT.ledger (by rfl) (by k_asm) (by k_asm) (by k_mem) ?sz_553 ?_; (case sz_553 => rw [List.size_toArray, sizeLine_eq]; lgec_go); intro g'; refine Stop.mk ?_) | (refine LCt.CompSrcT.range (by rfl) (by k_asm) (by k_asm) (by assumption) (range_small (by first | decide | lgec_go) (by first | decide | lgec_go) (by lgec_go) (by lgec_go)) (by first | exact range_n0 | exact range_n) ?sz_553 ?_; (case sz_553 => rw [sizeLine_eq]; lgec_go); intro g'; refine Stop.mk ?_)) | refine Stop.mk ?_)
  k_with "k_ne" => (refine neN ?_; (try dsimp only); first | with_reducible assumption | with_reducible exact Ne.symm (by with_reducible assumption) | with_reducible exact Nat.ne_of_lt (by with_reducible assumption) | with_reducible exact Nat.ne_of_gt (by with_reducible assumption))
  k_with "call builtin:isinstance" => ((with_reducible show wpAny _ _ (call (Value.builtin "isinstance") [_, Value.type "list"]) _ _ _); refine' isl_atom _ _ _ _ _ ?k1_555 ?k2_555 ?k3_555 ?k4_555 ?k5_555 ?k6_555 ?k7_555 ?k8_555 ?_; (case k1_555 => with_reducible assumption); (case k2_555 => assumption); (case k4_555 => k_asm); (case k5_555 => k_asm); (case k7_555 => k_asm); (case k3_555 => tb_rel); (case k6_555 => k_asm); (case k8_555 => k_asm); intro tk')
  trivial
theorem perm5 {h₀ h : Heap} {L : Addr} {x p c I pa : Addr × Obj} {rest : Led} (N : News h₀ L h (x :: p :: c :: I :: pa :: rest)) : News h₀ L h (I :: p :: c :: pa :: x :: rest) := fun q hq => N q (subL [I, p, c, pa, x] [rest] (.c 0 (.c 1 (.c 2 (.c 3 (.c 4 (.s 0)))))) (.c 4 (.c 1 (.c 2 (.c 0 (.c 3 (.s 0)))))) rfl q hq)
theorem comp_sub4 {I C D p c J pa : Addr × Obj} {r : Led} : ∀ q ∈ I :: C :: D :: p :: c :: J :: pa :: r, q ∈ p :: c :: I :: C :: D :: J :: pa :: r := subL [I, C, D, p, c, J, pa] [r] (.c 0 (.c 1 (.c 2 (.c 3 (.c 4 (.c 5 (.c 6 (.s 0)))))))) (.c 3 (.c 4 (.c 0 (.c 1 (.c 2 (.c 5 (.c 6 (.s 0)))))))) rfl
noncomputable abbrev keys4 (p c pa l : Addr) (o : Obj) (rest : Led) : Led := (p, o) :: (c, o) :: (pa, o) :: (l, o) :: rest
theorem Apart.keys {p c pa l : Addr} {o : Obj} {rest new : Led} (h1 : ∀ y ∈ new, y.1 ≠ p) (h2 : ∀ y ∈ new, y.1 ≠ c) (h3 : ∀ y ∈ new, y.1 ≠ pa) (h4 : Apart ((l, o) :: rest) new) : Apart (keys4 p c pa l o rest) new := fun q hq y hy => by
  rcases List.mem_cons.mp hq with rfl | hq
  · exact h1 y hy
  · rcases List.mem_cons.mp hq with rfl | hq
    · exact h2 y hy
    · rcases List.mem_cons.mp hq with rfl | hq
      · exact h3 y hy
      · exact h4 q hq y hy
theorem db1 {Bd : Int} {i j : Nat} : Bd + 1 + 20 * (i : Int) + 3 + 3 * (j : Int) + 3 ≤ Bd + 1 + 20 * (i : Int) + 3 + 3 * ((j + 1 : Nat) : Int) := by lgec_go
theorem db2 {Bd : Int} {i : Nat} : Bd + 1 + 20 * (i : Int) + 1 + 1 + 1 ≤ Bd + 1 + 20 * (i : Int) + 3 + 3 * ((0 : Nat) : Int) := by lgec_go
theorem db3 {Bd : Int} {i : Nat} : Bd + 1 + 20 * (i : Int) + 1 + 1 + 1 + 3 ≤ Bd + 1 + 20 * ((i + 1 : Nat) : Int) := by lgec_go
theorem db4 {Bd x : Int} {i : Nat} (h0 : 0 ≤ x) (h : x < 5) : Bd + 1 + 20 * (i : Int) + 3 + 3 * ((x.toNat : Nat) : Int) ≤ Bd + 1 + 20 * ((i + 1 : Nat) : Int) := by lgec_go
theorem ib1 {w : World} {ro : Led} {x : Int} {t : Tok} (h0 : 0 ≤ x) (h1 : x < 12) : PartIn w ro (.int x t) (.one (.int x)) := .one (.int (by lgec_go) (by lgec_go)) nofun
theorem ib2 {w : World} {ro : Led} {x y : Int} {t : Tok} (h0 : 0 ≤ x) (h1 : x < 12) (g0 : 0 ≤ y) (g1 : y < 9) : PartIn w ro (.int (x + y - 2) t) (.one (.int (x + y - 2))) := .one (.int (by lgec_go) (by lgec_go)) nofun
theorem keys4_ne {p c pa l l' : Addr} {o : Obj} {rest : Led} (h1 : @Ne Nat p l') (h2 : @Ne Nat c l') (h3 : @Ne Nat pa l') (h4 : ∀ q ∈ (l, o) :: rest, q.1 ≠ l') : ∀ q ∈ keys4 p c pa l o rest, q.1 ≠ l' := fun q hq => by
  rcases List.mem_cons.mp hq with rfl | hq
  · exact h1
  · rcases List.mem_cons.mp hq with rfl | hq
    · exact h2
    · rcases List.mem_cons.mp hq with rfl | hq
      · exact h3
      · exact h4 q hq
theorem len3 {α : Type} {vs us : List α} {i k : Nat} (h : vs.length ≤ 3 * i) (hu : us.length = k) (hk : k ≤ 3) : (vs ++ us).length ≤ 3 * (i + 1) := by
  rw [List.length_append, hu]
  lgec_go
theorem perm6 {h₀ h : Heap} {L : Addr} {x y p c I pa : Addr × Obj} {cnew new tail : Led} (N : News h₀ L h (x :: y :: p :: c :: I :: pa :: (cnew ++ (new ++ tail)))) : News h₀ L h (I :: p :: c :: pa :: ((x :: y :: (cnew ++ new)) ++ tail)) := fun q hq => N q (by simp only [List.mem_cons, List.mem_append] at hq ⊢; grind)
theorem ll5 {α : Type} {ys : List α} {x : Int} (h : x < 5) (e : ys.length = x.toNat) : ys.length ≤ 4 := by lgec_go
theorem db5 {Bd x x' : Int} {i j : Nat} (hB : Bd + 100 < 1000000) (h1 : x < 5) (hi : i < x.toNat) (g1 : x' < 5) (hj : j < x'.toNat) : Bd + 1 + 20 * (i : Int) + 3 + 3 * (j : Int) + 3 < 1000000 := by lgec_go
theorem db6 {Bd x : Int} (h : x < 5) : Bd + 1 + 20 * ((x.toNat : Nat) : Int) ≤ Bd + 90 := by lgec_go
theorem len15 {α : Type} {vs : List α} {x : Int} (h : vs.length ≤ 3 * x.toNat) (h1 : x < 5) : vs.length ≤ 15 := by lgec_go
noncomputable abbrev Ex (p c : Addr) (rest extra : Led) : Prop := ∀ y ∈ extra, @Ne Nat y.1 p ∧ @Ne Nat y.1 c ∧ ∀ q ∈ rest, @Ne Nat q.1 y.1
theorem ex_nil {p c : Addr} {rest : Led} : Ex p c rest [] := fun _ h => nomatch h
theorem ex_cons {p c a : Addr} {o : Obj} {rest extra : Led} (h1 : @Ne Nat a p) (h2 : @Ne Nat a c) (h3 : ∀ q ∈ rest, @Ne Nat q.1 a) (h : Ex p c rest extra) : Ex p c rest ((a, o) :: extra) := fun y hy => by
  rcases List.mem_cons.mp hy with rfl | hy
  · exact ⟨h1, h2, h3⟩
  · exact h y hy
theorem drawn_ap {p c pa l : Addr} {oc e1 e2 : Obj} {rest new extra : Led} (hA : Apart (keys4 p c pa l oc rest) new) (hx : Ex p c rest extra) : Apart ((p, e1) :: (c, e2) :: rest) (extra ++ new) := Apart.app (fun q hq y hy => by
  obtain ⟨h1, h2, h3⟩ := hx y hy
  rcases List.mem_cons.mp hq with rfl | hq
  · exact h1
  · rcases List.mem_cons.mp hq with rfl | hq
    · exact h2
    · exact Ne.symm (h3 q hq)) (Apart.mono hA (fun q hq => by
  rcases List.mem_cons.mp hq with rfl | hq
  · exact ⟨_, .head _, rfl⟩
  · rcases List.mem_cons.mp hq with rfl | hq
    · exact ⟨_, .tail _ (.head _), rfl⟩
    · exact ⟨q, .tail _ (.tail _ (.tail _ (.tail _ hq))), rfl⟩) fun y hy => hy)
theorem db7 {Bd : Int} : Bd + 90 + 1 + 1 + 1 + 1 ≤ Bd + 100 := by lgec_go
theorem db8 {Bd : Int} : Bd + 90 + 1 ≤ Bd + 100 := by lgec_go
theorem db9 {Bd : Int} : Bd + 90 + 1 + 1 + 1 ≤ Bd + 100 := by lgec_go
theorem pick3 {a b c v : Value} {i : Nat} (h : [a, b, c][i]? = some v) : v = a ∨ v = b ∨ v = c := by
  rcases i with _ | _ | _ | i <;> simp_all
theorem pick4v {a b c d v : Value} {i : Nat} (h : [a, b, c, d][i]? = some v) : v = a ∨ v = b ∨ v = c ∨ v = d := by
  rcases i with _ | _ | _ | _ | i <;> simp_all
inductive DrR (w : World) (rest : Led) (p c : Addr) (e1 e2 : Obj) (Bd : Int) : Value → Led → Prop
  | mk (e1' e2' : Obj) (a : Addr) (vs : List Value) (k : Nat) (new : Led) (ps : List Part) : PotIn (Bd + 100) c e1' e2' → Apart ((p, e1) :: (c, e2) :: rest) new → (a, PySem.W.listOf vs.toArray k) ∈ new → PartsIn w new vs ps → vs.length ≤ 20 → DrR w rest p c e1 e2 Bd (.ref a) ((p, e1') :: (c, e2') :: (new ++ rest))
inductive DrJ (w : World) (rest : Led) (p c pa l : Addr) (oc : Obj) (Bd : Int) (i : Nat) (m : Str → Option Value) : Led → Prop
  | mk (e1 e2 : Obj) (vs : List Value) (k : Nat) (new : Led) (ps : List Part) : Has m [(Str.ofString "parts", .ref pa)] → PotIn (Bd + 1 + 20 * i) c e1 e2 → Apart (keys4 p c pa l oc rest) new → PartsIn w new vs ps → Short 4 ps → vs.length ≤ 3 * i → DrJ w rest p c pa l oc Bd i m ((p, e1) :: (c, e2) :: (pa, PySem.W.listOf vs.toArray k) :: (new ++ (l, oc) :: rest))
inductive DrC (w : World) (rest tail : Led) (p c pa l I : Addr) (oc oI oP : Obj) (B : Int) (j : Nat) (ys : List Value) : Led → Prop
  | mk (e1 e2 : Obj) (cnew : Led) (as : List Atom) : PotIn (B + 3 * j) c e1 e2 → Apart (keys4 p c pa l oc rest) cnew → (∀ y ∈ cnew, y.1 ≠ I) → AtomsIn w cnew ys as → ys.length = j → DrC w rest tail p c pa l I oc oI oP B j ys ((p, e1) :: (c, e2) :: (I, oI) :: (pa, oP) :: (cnew ++ tail))
theorem drawn_ret {w : World} {p c pa l a : Addr} {oc e1 e2 e1' e2' : Obj} {rest new extra : Led} {Bd B : Int} {vs : List Value} {k : Nat} (hP : PotIn B c e1' e2') (hB : B ≤ Bd + 100) (hA : Apart (keys4 p c pa l oc rest) new) (hx : Ex p c rest extra)
    (hm : (a, PySem.W.listOf vs.toArray k) ∈ extra ++ new) (hW : ∃ ps, PartsIn w (extra ++ new) vs ps) (hl : vs.length ≤ 20) :
    DrR w rest p c e1 e2 Bd (.ref a) ((p, e1') :: (c, e2') :: ((extra ++ new) ++ rest)) := by
  obtain ⟨ps, hW⟩ := hW
  exact .mk _ _ _ _ _ _ _ (hP.mono hB) (drawn_ap hA hx) hm hW hl
theorem set_part {w : World} {ro : Led} {vs : List Value} {ps : List Part} {v : Value} (h : PartsIn w ro vs ps) (g : ∃ p, PartIn w ro v p) (i : Nat) : ∃ ps', PartsIn w ro (vs.set i v) ps' := by
  obtain ⟨p, g⟩ := g
  exact ⟨_, h.set g i⟩
theorem name_part {w : World} {ro : Led} {a d : Addr} {es : List DictEntry} {n : Nat} {t : Tok} {v : Value} {i : Nat} (h : [Value.ref a, .none, .int (-1) t][i]? = some v) (h1 : (a, instObj 211 d) ∈ ro) (h2 : (d, PySem.W.dictOf es n) ∈ ro) : ∃ p, PartIn w ro v p := by
  rcases pick3 h with rfl | rfl | rfl
  · exact ⟨_, .one (.name h1 h2) nofun⟩
  · exact ⟨_, .one .none nofun⟩
  · exact ⟨_, .one (.int (by decide) (by decide)) nofun⟩
theorem name_atom {w : World} {ro : Led} {a d l : Addr} {es : List DictEntry} {n m : Nat} {us : List Value} {v : Value} {i : Nat} (h : [Value.ref a, .none, .bool true, .ref l][i]? = some v) (h1 : (a, instObj 211 d) ∈ ro) (h2 : (d, PySem.W.dictOf es n) ∈ ro) (h3 : (l, PySem.W.listOf us.toArray m) ∈ ro) : ∃ p, AtomIn w ro v p := by
  rcases pick4v h with rfl | rfl | rfl | rfl
  · exact ⟨_, .name h1 h2⟩
  · exact ⟨_, .none⟩
  · exact ⟨_, .tru⟩
  · exact ⟨_, .sev h3⟩
theorem more_part {w : World} {ro : Led} {l : Addr} {us : List Value} {as : List Atom} {v : Value} {k : Nat} (hm : (l, PySem.W.listOf (us ++ [v]).toArray k) ∈ ro) (h : AtomsIn w ro us as) (g : ∃ p, AtomIn w ro v p) (hl : us.length ≤ 4) : ∃ p, PartIn w ro (.ref l) p := by
  obtain ⟨p, g⟩ := g
  exact ⟨_, .list hm (h.app (.cons g .nil)) (by rw [List.length_append, List.length_singleton]; lgec_go)⟩
section
variable {h₀ h : Heap} {L : Addr} {D1 D2 D3 D4 D5 D6 p c pa cell : Addr × Obj} {new rest tail : Led}
theorem out0 (N : News h₀ L h (p :: c :: pa :: tail)) (ht : new ++ cell :: rest = tail) : News h₀ L h (p :: c :: (([pa] ++ new) ++ rest)) := fun q hq => N q (by subst ht; simp only [List.mem_cons, List.mem_append, List.not_mem_nil] at hq ⊢; grind)
theorem out1 (N : News h₀ L h (D1 :: p :: c :: pa :: tail)) (ht : new ++ cell :: rest = tail) : News h₀ L h (p :: c :: (([D1] ++ new) ++ rest)) := fun q hq => N q (by subst ht; simp only [List.mem_cons, List.mem_append, List.not_mem_nil] at hq ⊢; grind)
theorem out2 (N : News h₀ L h (D1 :: D2 :: p :: c :: pa :: tail)) (ht : new ++ cell :: rest = tail) : News h₀ L h (p :: c :: (([pa, D1, D2] ++ new) ++ rest)) := fun q hq => N q (by subst ht; simp only [List.mem_cons, List.mem_append, List.not_mem_nil] at hq ⊢; grind)
theorem out3 (N : News h₀ L h (D1 :: D2 :: D3 :: p :: c :: pa :: tail)) (ht : new ++ cell :: rest = tail) : News h₀ L h (p :: c :: (([pa, D2, D3] ++ new) ++ rest)) := fun q hq => N q (by subst ht; simp only [List.mem_cons, List.mem_append, List.not_mem_nil] at hq ⊢; grind)
theorem out4 (N : News h₀ L h (D1 :: D2 :: p :: c :: D3 :: D4 :: D5 :: D6 :: pa :: tail)) (ht : new ++ cell :: rest = tail) : News h₀ L h (p :: c :: (([pa, D1, D4, D5, D6] ++ new) ++ rest)) := fun q hq => N q (by subst ht; simp only [List.mem_cons, List.mem_append, List.not_mem_nil] at hq ⊢; grind)
end
theorem drawn_spec (w : World) (rest : Led) (p c : Addr) (e1 e2 : Obj) (Bd : Int) (hP : PotIn Bd c e1 e2) (hB : Bd + 100 < 1000000) (hpc : @Ne Nat p c) (offp : ∀ q ∈ rest, q.1 ≠ p) (offc : ∀ q ∈ rest, q.1 ≠ c) :
    Calls w 429 5 [.ref p] ((p, e1) :: (c, e2) :: rest) (DrR w rest p c e1 e2 Bd) := by
  intro mean mg mb dp un gd cn cs a ccd cl outer A₀ base h₀ L m s Q E B F X N T hk hd hu hret
  k_steps
  refine Stop.on ?_
  rename Fr _ _ _ _ => F1
  rename IsRange _ _ _ _ _ _ _ _ => hr
  rename News _ _ _ ((p, _) :: (c, _) :: (_, W.listOf _ _) :: (_, _) :: rest) => N1
  rename_i h3 tk3 pL cL oc d1 pa hh2 ll pl cl rl hh1 F2 N2 hh tk1 t1 u1 v1 up
  have rpa : ∀ y ∈ (L' + 1, oc) :: rest, y.1 ≠ pa := by k_all
  have rp : ∀ y ∈ (L' + 1, oc) :: rest, y.1 ≠ p := by k_all
  have rc : ∀ y ∈ (L' + 1, oc) :: rest, y.1 ≠ c := by k_all
  refine loop_range (J := DrJ w rest p c pa (L' + 1) oc Bd) rfl hr (range_small (by decide) (by decide) (by lgec_go) (by lgec_go)) range_n0 F1 N1 ?h0 ?turn ?done
  case h0 =>
    exact .mk _ _ [] _ [] [] ⟨rfl, trivial⟩ (PotIn.mono hP' (by lgec_go)) Apart.nil .nil Short.nil (Nat.zero_le _)
  case turn =>
    rintro i t m₁ news₁ I oI h tk hi ⟨e1, e2, vs, k, new, ps, hm, hP2, hA2, hW2, hSh, hlen⟩ offI ltI F2 N2
    replace F2 := pinned1 F2 hm
    simp only [pin] at F2
    simp only [List.forall_mem_cons] at offI
    (refine hideG ?_; intro G0)
    obtain ⟨ip, ic, id, offI⟩ := offI
    (dsimp only [G0]); clear G0
    replace ip := neN ip
    replace ic := neN ic
    replace id := neN id
    have offd : ∀ y ∈ new ++ (L' + 1, oc) :: rest, y.1 ≠ pa := fun y hy => (List.mem_append.mp hy).elim (Apart.off hA2 (.tail _ (.tail _ (.head _))) y) (rpa y)
    have offp2 : ∀ y ∈ new ++ (L' + 1, oc) :: rest, y.1 ≠ p := fun y hy => (List.mem_append.mp hy).elim (Apart.off hA2 (.head _) y) (rp y)
    have offc2 : ∀ y ∈ new ++ (L' + 1, oc) :: rest, y.1 ≠ c := fun y hy => (List.mem_append.mp hy).elim (Apart.off hA2 (.tail _ (.head _)) y) (rc y)
    have hmc : (L' + 1, oc) ∈ new ++ (L' + 1, oc) :: rest := List.mem_append_right _ (.head _)
    have hrt : ∀ q ∈ (L' + 1, oc) :: rest, q ∈ new ++ (L' + 1, oc) :: rest := fun q hq => List.mem_append_right _ hq
    have hnt : ∀ y ∈ new, y ∈ new ++ (L' + 1, oc) :: rest := fun y hy => List.mem_append_left _ hy
    generalize htl : new ++ (L' + 1, oc) :: rest = tail at *
    k_steps
    · refine Stop.on ?_
      refine comp_inv (fun j ys nw => DrC w rest tail p c pa (L' + 1) I oc oI (PySem.W.listOf vs.toArray k) (Bd + 1 + 20 * i + 3) j ys nw)
        (.mk _ _ [] [] (PotIn.mono hP' db2) Apart.nil (fun _ h => nomatch h) .nil rfl) ?cturn ?cfin
      case cturn =>
        rintro j ys news₁ v I2 oI2 C2 oC2 D2 m₂ h2 tk2 E' hj ⟨e1, e2, cnew, as, hP3, hc1, hc2, hc3, hc4⟩ hv hC hx F3 N3 off ne
        (refine hideG ?_; intro G0)
        obtain ⟨ne1, ne2, ne3⟩ := ne
        obtain ⟨⟨oa1, oa2, oa3⟩, ⟨ob1, ob2, ob3⟩, ⟨od1, od2, od3⟩, ⟨oe1, oe2, oe3⟩, off⟩ := off
        (dsimp only [G0]); clear G0
        have hmc2 : (L' + 1, oc) ∈ cnew ++ tail := List.mem_append_right _ hmc
        have hrt2 : ∀ q ∈ (L' + 1, oc) :: rest, q ∈ cnew ++ tail := fun q hq => List.mem_append_right _ (hrt q hq)
        have offd2 : ∀ y ∈ cnew ++ tail, y.1 ≠ pa := fun y hy => (List.mem_append.mp hy).elim (Apart.off hc1 (.tail _ (.tail _ (.head _))) y) (offd y)
        have offp3 : ∀ y ∈ cnew ++ tail, y.1 ≠ p := fun y hy => (List.mem_append.mp hy).elim (Apart.off hc1 (.head _) y) (offp2 y)
        have offc3 : ∀ y ∈ cnew ++ tail, y.1 ≠ c := fun y hy => (List.mem_append.mp hy).elim (Apart.off hc1 (.tail _ (.head _)) y) (offc2 y)
        generalize htl2 : cnew ++ tail = tail2 at *
        have hb9 := db5 hB (by assumption) hi (by assumption) hj
        k_steps
        have hgt : ∀ y ∈ new', @LT.lt Nat _ pa y.1 := hA' _ (.tail _ (.tail _ (.tail _ (.tail _ (.tail _ (.tail _ (.head _)))))))
        have hgI : ∀ y ∈ new', y.1 ≠ I := fun y hy => Nat.ne_of_gt (hA' _ (.tail _ (.tail _ (.tail _ (.tail _ (.tail _ (.head _)))))) y hy)
        have hkn : Apart (keys4 p c pa (L' + 1) oc rest) new' := Apart.keys (fun y hy => Nat.ne_of_gt (hA' _ (.head _) y hy)) (fun y hy => Nat.ne_of_gt (hA' _ (.tail _ (.head _)) y hy)) (fun y hy => Nat.ne_of_gt (hgt y hy)) (fun q hq y hy => Nat.ne_of_gt (hA' q (.tail _ (.tail _ (.tail _ (.tail _ (.tail _ (.tail _ (.tail _ (hrt2 q hq)))))))) y hy))
        have oI5 : ∀ y ∈ rest', y.1 ≠ I2 := by k_all
        have oC5 : ∀ y ∈ rest', y.1 ≠ C2 := by k_all
        have oD5 : ∀ y ∈ rest', y.1 ≠ D2 := by k_all
        rename News _ _ _ (_ :: _ :: _ :: _ :: _ :: _ :: _ :: rest') => N5
        refine LCg.CompEnd.intro (by k_asm) N5 (_ :: _ :: _ :: _ :: rest') comp_sub4 (off3_mk (by k_all) (by k_all) (by k_all)) trivial (by rw [show rest' = (new' ++ cnew) ++ tail by rw [htl', ← htl2, List.append_assoc]]; exact .mk _ _ (new' ++ cnew) (as ++ [at']) (PotIn.mono hP' db1) (Apart.app hkn hc1) (fun y hy => (List.mem_append.mp hy).elim (hgI y) (hc2 y)) ((hc3.mono fun y hy => List.mem_append_right _ hy).app (.cons (hn'.mono fun y hy => List.mem_append_left _ hy) .nil)) (by rw [List.length_append, hc4]; rfl))
      case cfin =>
        rintro ys news' ⟨e1, e2, cnew, as, hP3, hc1, hc2, hc3, hc4⟩
        have offd2 : ∀ y ∈ cnew ++ tail, y.1 ≠ pa := fun y hy => (List.mem_append.mp hy).elim (Apart.off hc1 (.tail _ (.tail _ (.head _))) y) (offd y)
        have offI3 : ∀ y ∈ cnew ++ tail, y.1 ≠ I := fun y hy => (List.mem_append.mp hy).elim (fun q => hc2 y q) (offI y)
        generalize htl2 : cnew ++ tail = tail2 at *
        k_steps
        rename News _ _ _ ((_, _) :: (_, LCg.lst ys) :: _) => N5
        rw [← htl2, ← htl] at N5
        rename (_ ∧ _ ∧ _ ∧ _ ∧ LCg.Off1 _ _) => oo
        (refine hideG ?_; intro G0)
        obtain ⟨q1, q2, q3, q4, q5⟩ := oo
        (dsimp only [G0]); clear G0
        have hrt2 : ∀ q ∈ (L' + 1, oc) :: rest, q ∈ tail2 := fun q hq => by rw [← htl2, ← htl]; exact List.mem_append_right _ (List.mem_append_right _ hq)
        refine TurnJ.step (by k_asm) (perm6 N5) ?off (.mk _ _ (vs ++ [_, _]) _ (_ :: _ :: (cnew ++ new)) (ps ++ [.one (.int _), .list as]) ⟨rfl, trivial⟩ (PotIn.mono hP3 (db4 (by assumption) (by assumption))) ?gt ((hW2.mono ?sp1).app (.cons (ib1 (by assumption) (by assumption)) (.cons (.list (.tail _ (.head _)) (hc3.mono ?sp2) (Nat.le_trans (ll5 (by assumption) hc4) (by decide))) .nil))) (hSh.app (Short.one (Short.list Short.nil (by rw [← hc3.length]; exact ll5 (by assumption) hc4)))) (len3 hlen rfl (Nat.le_of_ble_eq_true rfl)))
        case off =>
          have offI4 : ∀ y ∈ (cnew ++ new) ++ (L' + 1, oc) :: rest, y.1 ≠ I := fun y hy => offI3 y (by rw [← htl2, ← htl, ← List.append_assoc]; exact hy)
          exact List.forall_mem_cons.mpr ⟨by k_ne, List.forall_mem_cons.mpr ⟨by k_ne, List.forall_mem_cons.mpr ⟨by k_ne, List.forall_mem_cons.mpr ⟨by k_ne, List.forall_mem_cons.mpr ⟨by k_ne, offI4⟩⟩⟩⟩⟩
        case gt => exact Apart.cons (keys4_ne (by k_ne) (by k_ne) (by k_ne) (fun q hq => allLt_off (by assumption) q (hrt2 q hq))) (Apart.cons (keys4_ne (by k_ne) (by k_ne) (by k_ne) (fun q hq => off1_off q5 q (hrt2 q hq))) (Apart.app hc1 hA2))
        case sp1 => exact fun y hy => .tail _ (.tail _ (List.mem_append_right _ hy))
        case sp2 => exact fun y hy => .tail _ (.tail _ (List.mem_append_left _ hy))
    · have hrest : rest' = (new' ++ new) ++ (L' + 1, oc) :: rest := by rw [htl', ← htl, List.append_assoc]
      have hgt : ∀ y ∈ new', @LT.lt Nat _ pa y.1 := hA' _ (.tail _ (.tail _ (.tail _ (.head _))))
      have offI2 : ∀ y ∈ rest', y.1 ≠ I := by k_all
      have hkn : Apart (keys4 p c pa (L' + 1) oc rest) new' := Apart.keys (fun y hy => Nat.ne_of_gt (hA' _ (.head _) y hy)) (fun y hy => Nat.ne_of_gt (hA' _ (.tail _ (.head _)) y hy)) (fun y hy => Nat.ne_of_gt (hgt y hy)) (fun q hq y hy => Nat.ne_of_gt (hA' q (.tail _ (.tail _ (.tail _ (.tail _ (hrt q hq))))) y hy))
      rename News _ _ _ (_ :: _ :: _ :: _ :: _ :: _) => N5
      rw [hrest] at N5
      refine TurnJ.step (by k_asm) (perm5 N5) ?off (.mk _ _ (vs ++ [_, _, _]) _ (_ :: (new' ++ new)) (ps ++ [.one (.int _), .one (.int _), .one at']) ⟨rfl, trivial⟩ (PotIn.mono hP' db3) ?gt ((hW2.mono ?sp1).app (.cons (ib1 (by assumption) (by assumption)) (.cons (ib2 (by assumption) (by assumption) (by assumption) (by assumption)) (.cons (.one (hn'.mono ?sp2) hns') .nil)))) (hSh.app (Short.one (Short.one (Short.one Short.nil)))) (len3 hlen rfl (Nat.le_of_ble_eq_true rfl)))
      case off =>
        rw [hrest] at offI2
        exact List.forall_mem_cons.mpr ⟨by k_ne, List.forall_mem_cons.mpr ⟨by k_ne, List.forall_mem_cons.mpr ⟨by k_ne, List.forall_mem_cons.mpr ⟨by k_ne, offI2⟩⟩⟩⟩
      case gt => exact Apart.cons (keys4_ne (by k_ne) (by k_ne) (by k_ne) (fun q hq => allLt_off (by assumption) q (by rw [hrest]; exact List.mem_append_right _ hq))) (Apart.app hkn hA2)
      case sp1 => exact fun y hy => .tail _ (List.mem_append_right _ hy)
      case sp2 => exact fun y hy => .tail _ (List.mem_append_left _ hy)
  case done =>
    rintro m₁ news₁ h tk ⟨e1, e2, vs, k, new, ps, hm, hP2, hA2, hW2, hSh, hlen⟩ F2 N2
    replace F2 := pinned F2 hm
    simp only [pin] at F2
    have offd : ∀ y ∈ new ++ (L' + 1, oc) :: rest, y.1 ≠ pa := fun y hy => (List.mem_append.mp hy).elim (Apart.off hA2 (.tail _ (.tail _ (.head _))) y) (rpa y)
    have offp2 : ∀ y ∈ new ++ (L' + 1, oc) :: rest, y.1 ≠ p := fun y hy => (List.mem_append.mp hy).elim (Apart.off hA2 (.head _) y) (rp y)
    have offc2 : ∀ y ∈ new ++ (L' + 1, oc) :: rest, y.1 ≠ c := fun y hy => (List.mem_append.mp hy).elim (Apart.off hA2 (.tail _ (.head _)) y) (rc y)
    have hmc : (L' + 1, oc) ∈ new ++ (L' + 1, oc) :: rest := List.mem_append_right _ (.head _)
    have hrt : ∀ q ∈ (L' + 1, oc) :: rest, q ∈ new ++ (L' + 1, oc) :: rest := fun q hq => List.mem_append_right _ hq
    have hnt : ∀ y ∈ new, y ∈ new ++ (L' + 1, oc) :: rest := fun y hy => List.mem_append_left _ hy
    have hW3 := hW2.mono hnt
    have hP9 := PotIn.mono (B' := Bd + 90) hP2 (db6 (by assumption))
    clear hP2
    have hl15 := len15 hlen (by assumption)
    generalize htl : new ++ (L' + 1, oc) :: rest = tail at *
    have oT : ∀ {a : Addr}, AllLt a tail → ∀ q ∈ rest, @Ne Nat q.1 a := fun ha q hq => allLt_off ha q (hrt q (.tail _ hq))
    have oT2 : ∀ {a b : Addr}, @LT.lt Nat _ a b → AllLt a tail → ∀ q ∈ rest, @Ne Nat q.1 b := fun hb ha q hq => Nat.ne_of_lt (Nat.lt_trans (allLt_lt ha q (hrt q (.tail _ hq))) hb)
    have oP : ∀ q ∈ rest, @Ne Nat q.1 pa := fun q hq => rpa q (.tail _ hq)
    have hl20 : vs.length ≤ 20 := Nat.le_trans hl15 (by decide)
    k_steps
    · rename News h₀ L _ (_ :: (p, _) :: _) => NN
      exact hret _ _ _ _ (by k_asm) (out1 NN htl) (drawn_ret hP' db9 hA2 (ex_cons (by k_ne) (by k_ne) (oT (by assumption)) ex_nil) (.head _) ⟨_, (hW2.take _).mono (fun y hy => .tail _ hy)⟩ (by rw [List.length_take]; exact Nat.le_trans (Nat.min_le_right _ _) hl20))
    · rename News h₀ L _ (_ :: _ :: _ :: (p, _) :: _) => NN
      exact hret _ _ _ _ (by k_asm) (out3 NN htl) (drawn_ret hP' db9 hA2 (ex_cons (by k_ne) (by k_ne) oP (ex_cons (by lgec_go) (by lgec_go) (oT2 (by assumption) (by assumption)) (ex_cons (by k_ne) (by k_ne) (oT (by assumption)) ex_nil))) (.head _) (set_part (hW2.mono (fun y hy => .tail _ (.tail _ (.tail _ hy)))) (name_part hv9 (.tail _ (.head _)) (.tail _ (.tail _ (.head _)))) _) (by rw [List.length_set]; exact hl20))
    · refine Stop.on ?_
      (refine hideG ?_; intro G0)
      obtain ⟨p9, hp9, hP9'⟩ := PartsIn.pick hW2 hv9
      (dsimp only [G0]); clear G0
      have hPv := hP9'
      (refine hideG ?_; intro G0)
      cases hP9' with
      | one ha hs =>
        (dsimp only [G0]); clear G0
        replace ha := ha.mono hnt
        k_steps
        rename News h₀ L _ (_ :: _ :: (p, _) :: _) => NN
        exact hret _ _ _ _ (by k_asm) (out2 NN htl) (drawn_ret hP' db9 hA2 (ex_cons (by k_ne) (by k_ne) oP (ex_cons (by lgec_go) (by lgec_go) (oT2 (by assumption) (by assumption)) (ex_cons (by k_ne) (by k_ne) (oT (by assumption)) ex_nil))) (.head _) ⟨_, (hW2.mono (fun y hy => .tail _ (.tail _ (.tail _ hy)))).set (.one (.dec (.mk (top := 15) (pl := 1) (by decide) (by decide) (by decide) (.tail _ (.head _)) (.tail _ (.tail _ (.head _))))) nofun) _⟩ (by rw [List.length_set]; exact hl20))
      | list hm9 ha9 hl9 =>
        (dsimp only [G0]); clear G0
        replace hm9 := hnt _ hm9
        have hsh := hSh _ (List.mem_of_getElem? hp9)
        rw [← ha9.length] at hsh
        k_steps
        rename News h₀ L _ (_ :: _ :: (p, _) :: _) => NN
        exact hret _ _ _ _ (by k_asm) (out4 NN htl) (drawn_ret hP' db7 hA2 (ex_cons (by k_ne) (by k_ne) oP (ex_cons (by k_ne) (by k_ne) (oT (by assumption)) (ex_cons (by k_ne) (by k_ne) (oT (by assumption)) (ex_cons (by lgec_go) (by lgec_go) (oT2 (by assumption) (by assumption)) (ex_cons (by k_ne) (by k_ne) (oT (by assumption)) ex_nil))))) (.head _) (set_part (hW2.mono (fun y hy => .tail _ (.tail _ (.tail _ (.tail _ (.tail _ hy)))))) (more_part (.tail _ (.head _)) (ha9.mono (fun y hy => .tail _ (.tail _ (.tail _ (.tail _ (.tail _ hy)))))) (name_atom hv9 (.tail _ (.tail _ (.tail _ (.head _)))) (.tail _ (.tail _ (.tail _ (.tail _ (.head _))))) (.tail _ (.tail _ (.head _)))) hsh) _) (by rw [List.length_set]; exact hl20))
    · rename News h₀ L _ ((p, _) :: _) => NN
      exact hret _ _ _ _ (by k_asm) (out0 NN htl) (drawn_ret hP' db8 hA2 (ex_cons (by k_ne) (by k_ne) oP ex_nil) (.head _) ⟨_, hW2.mono (fun y hy => .tail _ hy)⟩ hl20)
    · rename News h₀ L _ ((p, _) :: _) => NN
      exact hret _ _ _ _ (by k_asm) (out0 NN htl) (drawn_ret hP' db8 hA2 (ex_cons (by k_ne) (by k_ne) oP ex_nil) (.head _) ⟨_, hW2.mono (fun y hy => .tail _ hy)⟩ hl20)

end
section
theorem kw_S3_0 : True := by
  k_with_none
  k_with "om" => first | decide | (with_reducible first | apply om19 <;> assumption | apply om23 <;> assumption | apply om24 <;> assumption | apply om100 <;> assumption | apply om340 <;> assumption | apply om341 <;> assumption | apply om342 <;> assumption | apply om343 <;> assumption)
  k_with "k_ne" => (refine neN ?_; (try dsimp only); first | with_reducible assumption | lgec_go)
  k_with "fold_depth" => first | ((with_reducible show wpAny _ (Around.deeper (ktrTop _ _ _ _ _ _ _ _ _ _) _) _ _ _ _); refine wp_fold4 ?_; intro A1 q0 e0) | (refine wp_fold2 ?_; intro q00 e00)
  k_with "fold_lay" => ((show wpAny _ _ _ _ _ _); first | (fail_if_success k_fold) | ((try clear qf); refine wp_fold ?_; intro qf))
  k_with "k_steps" => ((try dsimp only); (try fold_lay); repeat' (first | (k_unfold; (try dsimp only)) | (k_end; wrow_close) | (walk1; (try ((first | (with_reducible show wpAny _ _ (exec _ _) _ _ _) | (with_reducible show wpAny _ _ (execs _ _) _ _ _)); (try dsimp only); fold_lay))) | (dsimp only; walk1) | (leave1; walk_say "STEP leave1"; try dsimp only) | fail "no step"))
  k_with "k_room" => first | exact fastR (by assumption) | ktr_room | (simp only [A1]; ktr_room)
  k_with "k_units" => first | ktr_units | (simp only [A1]; ktr_units)
  k_with "k_enter" => (refine' code_defC ?k1_561 ?k2_561 ?k3_561 ?k4_561 ?k5_561 ?kA_561 ?kF_561 ?kK_561 ?k6_561 ?k7_561 ?k8_561 ?k9_561 ?kB_561 ?kD_561 ?_ ?c2_561 ?c3_561 ?c4_561; (case kA_561 => exact rfl); (case kF_561 => exact rfl); (case kK_561 => assumption); (case k1_561 => k_asm); (case k2_561 => k_asm); (case k3_561 => k_asm); (case k4_561 => k_asm); (case k5_561 => k_asm); (case k6_561 => k_is); (case k7_561 => k_is); (case k8_561 => k_room); (case k9_561 => first | exact BindsTo.of_eq rfl | exact binds_K (by k_in) rfl (by k_is) rfl rfl rfl); (case kB_561 => exact rfl); (case kD_561 => decide +kernel); (case c2_561 => exact rfl); (case c3_561 => exact rfl); (case c4_561 => exact rfl); k_whole; intro g' L' h' tk' cells' FG' F' N' Y' B' X' T' l1; (try k_lt l1); refine hideG ?_; intro G0; k_cells Y'; (dsimp only [G0]); (try clear G0); (try simp only [List.cons_append, List.nil_append] at N'); (try dsimp only); (try fold_depth))
  k_with "k_enter" => (refine' code_def ?k1_562 ?k2_562 ?k3_562 ?k4_562 ?k5_562 ?kA_562 ?kF_562 ?kK_562 ?k6_562 ?k7_562 ?k8_562 ?k9_562 ?kB_562 ?_ ?c2_562 ?c3_562 ?c4_562 ?c5_562; (case kA_562 => exact rfl); (case kF_562 => exact rfl); (case kK_562 => assumption); (case k1_562 => k_asm); (case k2_562 => k_asm); (case k3_562 => k_asm); (case k4_562 => k_asm); (case k5_562 => k_asm); (case k6_562 => k_is); (case k7_562 => k_is); (case k8_562 => k_room); (case k9_562 => first | exact BindsTo.of_eq rfl | exact binds_K (by k_in) rfl (by k_is) rfl rfl rfl); (case c5_562 => decide); (case kB_562 => exact locs rfl); (case c2_562 => exact rfl); (case c3_562 => exact rfl); (case c4_562 => exact rfl); k_whole; intro g' L' h' FG' F' N' B' X' T'; (try dsimp only); (try fold_depth))
  k_with "klt" => skip
  k_with "k_all" => first | exact List.forall_mem_nil _ | (with_reducible refine List.forall_mem_cons.mpr ⟨?_, ?_⟩; (focus k_ne); k_all) | with_reducible assumption | with_reducible exact allLt_off (by with_reducible assumption) | (with_reducible refine GrowK.off (by with_reducible assumption) ?_ ?_; (focus simp only [List.mem_cons, true_or, or_true]); k_all)
  k_with "k_mem" => first | exact sub_mem (by assumption) (by assumption) | exact GrowK.mem (by assumption) (by assumption)
  k_with "tb_rel" => first | assumption | (intro p hp; solve_by_elim (maxDepth := 12) only [hp, List.Mem.tail, *])
  k_with "tb_start" => first | assumption | exact rot1 (by assumption) | exact rot2 (by assumption) | exact rot3 (by assumption) | exact rot4 (by assumption) | exact rot5 (by assumption) | exact rot6 (by assumption)
  k_with "call ref" => ((with_reducible show wpAny _ _ (call (Value.ref 400) _) _ _ _); first | (k_dflt (refine' Calls.useP ?k1_567 ?k2_567 ?k3_567 ?k4_567 ?k5_567 ?kK_567 ?C_567 ?kd_567 ?ku_567 ?_; (case k1_567 => k_asm); (case k2_567 => k_asm); (case k3_567 => k_asm); (case k4_567 => tb_start); (case k5_567 => k_asm); (case kK_567 => first | exact rfl | assumption); (case C_567 => exact draw_spec _ _ _ _ _ _ _ _ _ (by assumption) (by lgec_go) (by assumption) (by k_all) (by k_all) (by lgec_go) (by lgec_go)); (case kd_567 => first | exact fastD (by assumption) (by decide) | ktr_room); (case ku_567 => first | exact fastU (by assumption) (by decide) | ktr_units); k_whole; intro r' n' h' tk' F' N' hr'; refine hideG ?_; intro G0; (obtain ⟨x', t', e', hx0', hx1', e1', e2', hP', en'⟩ := hr'); subst e'; subst en'; (dsimp only [G0]); (try clear G0); (try k_sweep))) | refine Stop.mk ?_)
  k_with "call ref" => ((with_reducible show wpAny _ _ (call (Value.ref 407) _) _ _ _); first | (k_dflt (refine' Calls.useP ?k1_568 ?k2_568 ?k3_568 ?k4_568 ?k5_568 ?kK_568 ?C_568 ?kd_568 ?ku_568 ?_; (case k1_568 => k_asm); (case k2_568 => k_asm); (case k3_568 => k_asm); (case k4_568 => tb_start); (case k5_568 => k_asm); (case kK_568 => first | exact rfl | assumption); (case C_568 => exact width_atom _ _ _ _ _ _ _ (by assumption) (by first | assumption | lgec_go) (by assumption) (by k_all) (by k_all)); (case kd_568 => first | exact fastD (by assumption) (by decide) | ktr_room); (case ku_568 => first | exact fastU (by assumption) (by decide) | ktr_units); k_whole; intro r' n' h' tk' F' N' hr'; refine hideG ?_; intro G0; (obtain ⟨e1', e2', new', at', hP', en', hA', hn', hns'⟩ := hr'); subst en'; (first | (obtain ⟨rest', htl', N9', hG', hsn'⟩ := grow7 N' (Above.apart hA') rfl rfl) | (obtain ⟨rest', htl', N9', hG', hsn'⟩ := grow6 N' (Above.apart hA') rfl rfl) | (obtain ⟨rest', htl', N9', hG', hsn'⟩ := grow5 N' (Above.apart hA') rfl rfl) | (obtain ⟨rest', htl', N9', hG', hsn'⟩ := grow4 N' (Above.apart hA') rfl rfl) | (obtain ⟨rest', htl', N9', hG', hsn'⟩ := grow3 N' (Above.apart hA') rfl rfl) | (obtain ⟨rest', htl', N9', hG', hsn'⟩ := grow2 N' (Above.apart hA') rfl rfl) | (obtain ⟨rest', htl', N9', hG', hsn'⟩ := grow1 N' (Above.apart hA') rfl rfl) | (obtain ⟨rest', htl', N9', hG', hsn'⟩ := grow0 N' (Above.apart hA') rfl rfl)); clear N'; (try dsimp only at hG'); (dsimp only [G0]); (try clear G0); (try k_sweep))) | refine Stop.mk ?_)
  trivial
local macro_rules | `(tactic| walk_at "pyIter ref") => `(tactic| ((with_reducible show wpAny _ _ (pyIter (Value.ref _)) (fun it s₂ => LoopAtV _ _ _ _ _ _ _ _ _ it s₂) _ _); refine Stop.mk ?_))
theorem kw_S3_1 : True := by
  k_with "setItem ref int" => (k_dflt (refine' kda_set (knd := PySem.intKind _ _) ?F_569 ?N_569 ?U_569 ?d_569 (intKind_is _ _ _ _) ?z_569 ?_; (case F_569 => k_asm); (case N_569 => k_asm); (case U_569 => k_updF); (case d_569 => assumption); (case z_569 => rw [sizeLine_eq]; lgec_go)); intro h' o' F' N' hd'; (try dsimp only at N'))
  k_with "klt" => skip
  k_with "k_all" => first | exact List.forall_mem_nil _ | (with_reducible refine List.forall_mem_cons.mpr ⟨?_, ?_⟩; (focus k_ne); k_all) | with_reducible assumption | with_reducible exact allLt_off (by with_reducible assumption) | with_reducible exact lt_off (by with_reducible assumption) | with_reducible exact off1_off (by with_reducible assumption) | with_reducible exact off3_1 (by with_reducible assumption) | with_reducible exact off3_2 (by with_reducible assumption) | with_reducible exact off3_3 (by with_reducible assumption) | (with_reducible refine GrowK.off (by with_reducible assumption) ?_ ?_; (focus simp only [List.mem_cons, true_or, or_true]); k_all)
  k_with "tb_rel" => with_reducible first | assumption | exact sub_self | (refine sub_tail ?_; tb_rel) | (refine sub_growK (by assumption) ?_; tb_rel) | (refine sub_app ?_ ?_; (focus tb_rel); tb_rel) | (refine sub_consApp ?_; tb_rel) | (refine sub_appL ?_; tb_rel) | (refine sub_appR ?_; tb_rel)
  k_with "k_mem" => (refine sub_mem ?_ (by assumption); tb_rel)
  k_with "k_ne" => (refine neN ?_; (try dsimp only); first | with_reducible assumption | with_reducible exact Ne.symm (by with_reducible assumption) | with_reducible exact Nat.ne_of_lt (by with_reducible assumption) | with_reducible exact Nat.ne_of_gt (by with_reducible assumption))
  k_with "compareOp IsNot" => ((with_reducible show wpAny _ _ (compareOp CmpOp.IsNot _ Value.none) _ _ _); refine isnot_some (by assumption) ?_)
  k_with "call builtin:len" => ((with_reducible show wpAny _ _ (call (Value.builtin "len") [Value.ref _]) _ _ _); k_dflt (refine' kda_len (knd := PySem.intKind _ _) ?k1_575 ?k2_575 ?k3_575 ?k4_575 ?k5_575 ?_; (case k1_575 => k_asm); (case k2_575 => k_mem); (case k3_575 => assumption); (case k4_575 => assumption); (case k5_575 => lgec_go)))
  trivial
structure Tab (kvs : List (Int × Value)) : Prop where
  keys : ∀ kv ∈ kvs, kv.1 < (kvs.length : Int) + 1
theorem valueAt_app {kvs l : List (Int × Value)} {k : Int} {x : Value} (h : valueAt kvs k = some x) : valueAt (kvs ++ l) k = some x := by
  unfold valueAt at *
  rw [List.find?_append]
  cases hf : kvs.find? (fun kv => kv.1 = k) with
  | none => rw [hf] at h; cases h
  | some kv => rw [hf] at h; exact h
theorem valueAt_new {kvs : List (Int × Value)} {k : Int} {x : Value} (h : ∀ kv ∈ kvs, kv.1 < k) : valueAt (kvs ++ [(k, x)]) k = some x := by
  unfold valueAt
  rw [List.find?_append]
  have : kvs.find? (fun kv => kv.1 = k) = none := by
    rw [List.find?_eq_none]
    intro kv hk
    have := h kv hk
    simp only [decide_eq_true_eq]
    lgec_go
  rw [this]
  simp
theorem Tab.more {kvs : List (Int × Value)} (h : Tab kvs) {x : Value} : Tab (kvs ++ [((kvs.length : Int) + 1, x)]) := ⟨fun kv hk => by
  rw [List.length_append, List.length_singleton]
  rcases List.mem_append.mp hk with hk | hk
  · have := h.keys kv hk
    lgec_go
  · rw [List.mem_singleton.mp hk]
    show (kvs.length : Int) + 1 < _
    lgec_go⟩
theorem news_ld {h₀ h : Heap} {L : Addr} {x d D p c T : Addr × Obj} {rest : Led} (N : News h₀ L h (x :: d :: D :: p :: c :: T :: rest)) : News h₀ L h (p :: c :: T :: ([x, d, D] ++ rest)) := fun q hq => N q (subL [p, c, T, x, d, D] [rest] (.c 0 (.c 1 (.c 2 (.a (.c 3 (.c 4 (.c 5 .n))) (.s 0))))) (.c 3 (.c 4 (.c 5 (.c 0 (.c 1 (.c 2 (.s 0))))))) rfl q hq)
theorem lt_all {p c T d : Addr} {e1 e2 o : Obj} {rest : Led} (h1 : @LT.lt Nat _ p d) (h2 : @LT.lt Nat _ c d) (h3 : @LT.lt Nat _ T d) (h4 : AllLt d rest) : ∀ q ∈ (p, e1) :: (c, e2) :: (T, o) :: rest, @LT.lt Nat _ q.1 d := fun q hq => by
  rcases List.mem_cons.mp hq with rfl | hq
  · exact h1
  · rcases List.mem_cons.mp hq with rfl | hq
    · exact h2
    · rcases List.mem_cons.mp hq with rfl | hq
      · exact h3
      · exact allLt_lt h4 q hq
inductive LaidR (w : World) (rest : Led) (p c T : Addr) (e1 e2 oT : Obj) (kvs : List (Int × Value)) (Bd : Int) (v r : Value) (news' : Led) : Prop
  | mk (e1' e2' oT' : Obj) (kvs' : List (Int × Value)) (new : Led) : PotIn (Bd + 1) c e1' e2' → news' = (p, e1') :: (c, e2') :: (T, oT') :: (new ++ rest) → Apart ((p, e1) :: (c, e2) :: (T, oT) :: rest) new → oT'.IsDictOf (PySem.intKind PySem.Challenge.rw_nn0211_01.row.prog w) kvs' → Tab kvs' → (∀ k x, valueAt kvs k = some x → valueAt kvs' k = some x) → kvs'.length ≤ kvs.length + 1 → Laid w new kvs' r v → LaidR w rest p c T e1 e2 oT kvs Bd v r news'
theorem laid_some (w : World) (rest ro : Led) (p c T S sd T2 : Addr) (e1 e2 oT : Obj) (k1 k2 : Tok) (n : Nat) (kvs : List (Int × Value)) (Bd : Int) (v : Value) (a : Atom) (hP : PotIn Bd c e1 e2) (hB : Bd < 1000000) (hpc : @Ne Nat p c) (hpT : @Ne Nat p T) (hcT : @Ne Nat c T) (offp : ∀ q ∈ rest, q.1 ≠ p) (offc : ∀ q ∈ rest, q.1 ≠ c) (offT : ∀ q ∈ rest, q.1 ≠ T)
    (hS : (S, instObj 332 sd) ∈ rest) (hsd : (sd, shelfDict w T T2 k1 k2 n) ∈ rest) (hk : oT.IsDictOf (PySem.intKind PySem.Challenge.rw_nn0211_01.row.prog w) kvs) (lo : (T == sysModules) = false) (hTab : Tab kvs) (hz : kvs.length ≤ 500) (hv : v ≠ .none) :
    Calls w 455 5 [.ref p, .ref S, v] ((p, e1) :: (c, e2) :: (T, oT) :: rest) (LaidR w rest p c T e1 e2 oT kvs Bd v) := by
  intro mean mg mb dp un gd cn cs ad ccd cl outer A₀ base h₀ L m s Q E B F X N Tc hk1 hd hu hret
  k_steps
  · rename News h₀ L _ ((_, instObj 282 _) :: _) => NN
    rename Obj.IsDictOf _ _ (PySem.stored _ _ _) => hd9
    rw [stored_top hTab.keys] at hd9
    rename_i tu _ p1 c1 T1 r1 _ _ x9 d9 _ _ _ Dd p2 c2 T2' r2 l2 _ _ _ _ _ _ _ _ _ _ _ _ _ _ _ _ _ _ _ _
    have ha := lt_all (e1 := e1) (e2 := e2) (o := oT) p2 c2 T2' r2
    exact hret _ _ _ _ (by k_asm) (news_ld NN) ⟨_, _, _, _, [_, _, _], hP', rfl, Apart.cons (fun q hq => Nat.ne_of_lt (Nat.lt_trans (ha q hq) l2)) (Apart.cons (fun q hq => Nat.ne_of_lt (ha q hq)) (Apart.cons (fun q hq => Nat.ne_of_lt (lt_all (e1 := e1) (e2 := e2) (o := oT) p1 c1 T1 r1 q hq)) Apart.nil)), hd9, hTab.more, fun k x h => valueAt_app h, by rw [List.length_append]; exact Nat.le_refl _,
      .far (.head _) (.tail _ (.head _)) (valueAt_new hTab.keys) (.tail _ (.tail _ (.head _))) (by lgec_go) (by lgec_go)⟩
  · exact hret _ _ _ _ (by k_asm) (by k_asm) ⟨_, _, oT, kvs, [], hP', rfl, Apart.nil, hk, hTab, fun _ _ h => h, Nat.le_succ _, .self⟩

end
section
theorem kw_S4_0 : True := by
  k_with_none
  k_with "om" => first | decide | (with_reducible first | apply om23 <;> assumption | apply om344 <;> assumption)
  k_with "k_ne" => (refine neN ?_; (try dsimp only); first | with_reducible assumption | lgec_go)
  k_with "fold_depth" => first | ((with_reducible show wpAny _ (Around.deeper (ktrTop _ _ _ _ _ _ _ _ _ _) _) _ _ _ _); refine wp_fold4 ?_; intro A1 q0 e0) | (refine wp_fold2 ?_; intro q00 e00)
  k_with "fold_lay" => ((show wpAny _ _ _ _ _ _); first | (fail_if_success k_fold) | ((try clear qf); refine wp_fold ?_; intro qf))
  k_with "k_steps" => ((try dsimp only); (try fold_lay); repeat' (first | (k_unfold; (try dsimp only)) | (k_end; wrow_close) | (walk1; (try ((first | (with_reducible show wpAny _ _ (exec _ _) _ _ _) | (with_reducible show wpAny _ _ (execs _ _) _ _ _)); (try dsimp only); fold_lay))) | (dsimp only; walk1) | (leave1; walk_say "STEP leave1"; try dsimp only) | fail "no step"))
  k_with "k_room" => first | exact fastR (by assumption) | ktr_room | (simp only [A1]; ktr_room)
  k_with "k_units" => first | ktr_units | (simp only [A1]; ktr_units)
  k_with "k_enter" => (refine' code_defC ?k1_581 ?k2_581 ?k3_581 ?k4_581 ?k5_581 ?kA_581 ?kF_581 ?kK_581 ?k6_581 ?k7_581 ?k8_581 ?k9_581 ?kB_581 ?kD_581 ?_ ?c2_581 ?c3_581 ?c4_581; (case kA_581 => exact rfl); (case kF_581 => exact rfl); (case kK_581 => assumption); (case k1_581 => k_asm); (case k2_581 => k_asm); (case k3_581 => k_asm); (case k4_581 => k_asm); (case k5_581 => k_asm); (case k6_581 => k_is); (case k7_581 => k_is); (case k8_581 => k_room); (case k9_581 => first | exact BindsTo.of_eq rfl | exact binds_K (by k_in) rfl (by k_is) rfl rfl rfl); (case kB_581 => exact rfl); (case kD_581 => decide +kernel); (case c2_581 => exact rfl); (case c3_581 => exact rfl); (case c4_581 => exact rfl); k_whole; intro g' L' h' tk' cells' FG' F' N' Y' B' X' T' l1; (try k_lt l1); refine hideG ?_; intro G0; k_cells Y'; (dsimp only [G0]); (try clear G0); (try simp only [List.cons_append, List.nil_append] at N'); (try dsimp only); (try fold_depth))
  k_with "k_enter" => (refine' code_def ?k1_582 ?k2_582 ?k3_582 ?k4_582 ?k5_582 ?kA_582 ?kF_582 ?kK_582 ?k6_582 ?k7_582 ?k8_582 ?k9_582 ?kB_582 ?_ ?c2_582 ?c3_582 ?c4_582 ?c5_582; (case kA_582 => exact rfl); (case kF_582 => exact rfl); (case kK_582 => assumption); (case k1_582 => k_asm); (case k2_582 => k_asm); (case k3_582 => k_asm); (case k4_582 => k_asm); (case k5_582 => k_asm); (case k6_582 => k_is); (case k7_582 => k_is); (case k8_582 => k_room); (case k9_582 => first | exact BindsTo.of_eq rfl | exact binds_K (by k_in) rfl (by k_is) rfl rfl rfl); (case c5_582 => decide); (case kB_582 => exact locs rfl); (case c2_582 => exact rfl); (case c3_582 => exact rfl); (case c4_582 => exact rfl); k_whole; intro g' L' h' FG' F' N' B' X' T'; (try dsimp only); (try fold_depth))
  k_with "klt" => skip
  k_with "k_all" => first | exact List.forall_mem_nil _ | (with_reducible refine List.forall_mem_cons.mpr ⟨?_, ?_⟩; (focus k_ne); k_all) | with_reducible assumption | with_reducible exact allLt_off (by with_reducible assumption) | with_reducible exact lt_off (by with_reducible assumption) | with_reducible exact off1_off (by with_reducible assumption) | with_reducible exact off3_1 (by with_reducible assumption) | with_reducible exact off3_2 (by with_reducible assumption) | with_reducible exact off3_3 (by with_reducible assumption) | (with_reducible refine GrowK.off (by with_reducible assumption) ?_ ?_; (focus simp only [List.mem_cons, true_or, or_true]); k_all)
  k_with "tb_rel" => with_reducible first | assumption | exact sub_self | (refine sub_tail ?_; tb_rel) | (refine sub_growK (by assumption) ?_; tb_rel) | (refine sub_app ?_ ?_; (focus tb_rel); tb_rel) | (refine sub_consApp ?_; tb_rel) | (refine sub_appL ?_; tb_rel) | (refine sub_appR ?_; tb_rel)
  k_with "k_mem" => (refine sub_mem ?_ (by assumption); tb_rel)
  trivial
theorem laid_none (w : World) (news : Led) (p S : Addr) : Calls w 455 5 [.ref p, .ref S, .none] news (fun r news' => r = .none ∧ news' = news) := by
  intro mean mg mb dp un gd cn cs ad ccd cl outer A₀ base h₀ L m s Q E B F X N Tc hk1 hd hu hret
  k_steps
  exact hret _ _ _ _ (by k_asm) (by k_asm) ⟨rfl, rfl⟩
theorem laid_spec (w : World) (rest : Led) (p c T S sd T2 : Addr) (e1 e2 oT : Obj) (k1 k2 : Tok) (n : Nat) (kvs : List (Int × Value)) (Bd : Int) (v : Value) (hP : PotIn Bd c e1 e2) (hB : Bd < 1000000) (hpc : @Ne Nat p c) (hpT : @Ne Nat p T) (hcT : @Ne Nat c T) (offp : ∀ q ∈ rest, q.1 ≠ p) (offc : ∀ q ∈ rest, q.1 ≠ c) (offT : ∀ q ∈ rest, q.1 ≠ T)
    (hS : (S, instObj 332 sd) ∈ rest) (hsd : (sd, shelfDict w T T2 k1 k2 n) ∈ rest) (hk : oT.IsDictOf (PySem.intKind PySem.Challenge.rw_nn0211_01.row.prog w) kvs) (lo : (T == sysModules) = false) (hTab : Tab kvs) (hz : kvs.length ≤ 500) :
    Calls w 455 5 [.ref p, .ref S, v] ((p, e1) :: (c, e2) :: (T, oT) :: rest) (LaidR w rest p c T e1 e2 oT kvs Bd v) := by
  by_cases hv : v = .none
  · subst hv
    intro mean mg mb dp un gd cn cs ad ccd cl outer A₀ base h₀ L m s Q E B F X N Tc hk1 hd hu hret
    exact laid_none w _ p S mean mg mb dp un gd cn cs ad ccd cl outer A₀ base h₀ L m s Q E B F X N Tc hk1 hd hu fun r news' h' tk' F' N' hr => hret r news' h' tk' F' N' (by
      obtain ⟨rfl, rfl⟩ := hr
      exact ⟨_, _, oT, kvs, [], hP.mono (by lgec_go), rfl, Apart.nil, hk, hTab, fun _ _ h => h, Nat.le_succ _, .self⟩)
  · exact laid_some w rest rest p c T S sd T2 e1 e2 oT k1 k2 n kvs Bd v .none hP hB hpc hpT hcT offp offc offT hS hsd hk lo hTab hz hv

end
section

theorem kw_R1_0 : True := by
  k_with_none
  k_with "om" => first | decide | (with_reducible first | apply om4 <;> assumption | apply om18 <;> assumption | apply om22 <;> assumption | apply om37 <;> assumption | apply om39 <;> assumption | apply om43 <;> assumption | apply om44 <;> assumption | apply om45 <;> assumption | apply om86 <;> assumption | apply om101 <;> assumption | apply om102 <;> assumption | apply om103 <;> assumption | apply om104 <;> assumption | apply om345 <;> assumption | apply om346 <;> assumption | apply om347 <;> assumption | apply om348 <;> assumption | apply om349 <;> assumption | apply om350 <;> assumption | apply om351 <;> assumption | apply om352 <;> assumption | apply om353 <;> assumption | apply om354 <;> assumption | apply om355 <;> assumption | apply om356 <;> assumption | apply om357 <;> assumption | apply om358 <;> assumption | apply om359 <;> assumption | apply om360 <;> assumption | apply om361 <;> assumption | apply om362 <;> assumption | apply om363 <;> assumption | apply om364 <;> assumption | apply om365 <;> assumption | apply om366 <;> assumption | apply om367 <;> assumption | apply om368 <;> assumption | apply om369 <;> assumption)
  k_with "k_ne" => (refine neN ?_; (try dsimp only); first | with_reducible assumption | lgec_go)
  k_with "fold_depth" => first | ((with_reducible show wpAny _ (Around.deeper (ktrTop _ _ _ _ _ _ _ _ _ _) _) _ _ _ _); refine wp_fold4 ?_; intro A1 q0 e0) | (refine wp_fold2 ?_; intro q00 e00)
  k_with "fold_lay" => ((show wpAny _ _ _ _ _ _); first | (fail_if_success k_fold) | ((try clear qf); refine wp_fold ?_; intro qf))
  k_with "k_steps" => ((try dsimp only); (try fold_lay); repeat' (first | (k_unfold; (try dsimp only)) | (k_end; wrow_close) | (walk1; (try ((first | (with_reducible show wpAny _ _ (exec _ _) _ _ _) | (with_reducible show wpAny _ _ (execs _ _) _ _ _)); (try dsimp only); fold_lay))) | (dsimp only; walk1) | (leave1; walk_say "STEP leave1"; try dsimp only) | fail "no step"))
  k_with "k_room" => first | exact fastR (by assumption) | ktr_room | (simp only [A1]; ktr_room)
  k_with "k_units" => first | ktr_units | (simp only [A1]; ktr_units)
  k_with "k_enter" => (refine' code_defC ?k1_591 ?k2_591 ?k3_591 ?k4_591 ?k5_591 ?kA_591 ?kF_591 ?kK_591 ?k6_591 ?k7_591 ?k8_591 ?k9_591 ?kB_591 ?kD_591 ?_ ?c2_591 ?c3_591 ?c4_591; (case kA_591 => exact rfl); (case kF_591 => exact rfl); (case kK_591 => assumption); (case k1_591 => k_asm); (case k2_591 => k_asm); (case k3_591 => k_asm); (case k4_591 => k_asm); (case k5_591 => k_asm); (case k6_591 => k_is); (case k7_591 => k_is); (case k8_591 => k_room); (case k9_591 => first | exact BindsTo.of_eq rfl | exact binds_K (by k_in) rfl (by k_is) rfl rfl rfl); (case kB_591 => exact rfl); (case kD_591 => decide +kernel); (case c2_591 => exact rfl); (case c3_591 => exact rfl); (case c4_591 => exact rfl); k_whole; intro g' L' h' tk' cells' FG' F' N' Y' B' X' T' l1; (try k_lt l1); refine hideG ?_; intro G0; k_cells Y'; (dsimp only [G0]); (try clear G0); (try simp only [List.cons_append, List.nil_append] at N'); (try dsimp only); (try fold_depth))
  k_with "k_enter" => (refine' code_def ?k1_592 ?k2_592 ?k3_592 ?k4_592 ?k5_592 ?kA_592 ?kF_592 ?kK_592 ?k6_592 ?k7_592 ?k8_592 ?k9_592 ?kB_592 ?_ ?c2_592 ?c3_592 ?c4_592 ?c5_592; (case kA_592 => exact rfl); (case kF_592 => exact rfl); (case kK_592 => assumption); (case k1_592 => k_asm); (case k2_592 => k_asm); (case k3_592 => k_asm); (case k4_592 => k_asm); (case k5_592 => k_asm); (case k6_592 => k_is); (case k7_592 => k_is); (case k8_592 => k_room); (case k9_592 => first | exact BindsTo.of_eq rfl | exact binds_K (by k_in) rfl (by k_is) rfl rfl rfl); (case c5_592 => decide); (case kB_592 => exact locs rfl); (case c2_592 => exact rfl); (case c3_592 => exact rfl); (case c4_592 => exact rfl); k_whole; intro g' L' h' FG' F' N' B' X' T'; (try dsimp only); (try fold_depth))
  k_with "klt" => skip
  k_with "k_all" => first | exact List.forall_mem_nil _ | (with_reducible refine List.forall_mem_cons.mpr ⟨?_, ?_⟩; (focus k_ne); k_all) | with_reducible assumption | with_reducible exact allLt_off (by with_reducible assumption) | with_reducible exact lt_off (by with_reducible assumption) | with_reducible exact off1_off (by with_reducible assumption) | with_reducible exact off3_1 (by with_reducible assumption) | with_reducible exact off3_2 (by with_reducible assumption) | with_reducible exact off3_3 (by with_reducible assumption) | (with_reducible refine GrowK.off (by with_reducible assumption) ?_ ?_; (focus simp only [List.mem_cons, true_or, or_true]); k_all)
  k_with "tb_rel" => with_reducible first | assumption | exact sub_self | (refine sub_tail ?_; tb_rel) | (refine sub_growK (by assumption) ?_; tb_rel) | (refine sub_app ?_ ?_; (focus tb_rel); tb_rel) | (refine sub_consApp ?_; tb_rel) | (refine sub_appL ?_; tb_rel) | (refine sub_appR ?_; tb_rel)
  k_with "k_mem" => (refine sub_mem ?_ (by assumption); tb_rel)
  k_with "exec While" => ((with_reducible show wpAny _ _ (exec (Stmt.While _ _ _ _) _) _ _ _); refine Stop.mk ?_)
  k_with "exec While Compare" => ((with_reducible show wpAny _ _ (exec (Stmt.While _ _ _ _) _) _ _ _); refine Stop.mk ?_)
  k_with "exec While BoolOp" => ((with_reducible show wpAny _ _ (exec (Stmt.While _ _ _ _) _) _ _ _); refine Stop.mk ?_)
  k_with "exec While Name" => ((with_reducible show wpAny _ _ (exec (Stmt.While _ _ _ _) _) _ _ _); refine Stop.mk ?_)
  k_with "exec While Compare cons nil" => ((with_reducible show wpAny _ _ (exec (Stmt.While _ _ _ _) _) _ _ _); refine Stop.mk ?_)
  k_with "call builtin:len" => ((with_reducible show wpAny _ _ (call (Value.builtin "len") [Value.ref _]) _ _ _); k_dflt (refine' lst_len ?k1_601 ?k2_601 ?k3_601 ?_; (case k1_601 => k_asm); (case k2_601 => k_mem); (case k3_601 => lgec_go); k_whole))
  k_with "truthy ref" => (k_dflt (refine' lst_truthy ?k1_602 ?k2_602 ?k3_602 ?_; (case k1_602 => k_asm); (case k2_602 => k_mem); (case k3_602 => lgec_go); k_whole))
  k_with "call builtin:list.append" => ((with_reducible show wpAny _ _ (call (Value.builtin _) [Value.ref _, _]) _ _ _); k_dflt (refine' lst_append ?k1_603 ?k2_603 ?k3_603 ?k4_603 ?_; (case k1_603 => k_asm); (case k2_603 => k_asm); (case k3_603 => k_upd); (case k4_603 => lgec_go); k_whole); intro h' F' N'; (try k_sweep))
  k_with "call builtin:list.extend" => ((with_reducible show wpAny _ _ (call (Value.builtin _) [Value.ref _, Value.ref _]) _ _ _); k_dflt (refine' lst_extend ?k1_604 ?k2_604 ?k3_604 ?k4_604 ?k5_604 ?_; (case k1_604 => k_asm); (case k2_604 => k_asm); (case k3_604 => k_updF); (case k4_604 => k_mem); (case k5_604 => first | (simp only [List.length_take, List.length_drop, List.length_append, List.length_cons, List.length_nil]; lgec_go) | lgec_go); k_whole); intro h' n' F' N'; (try dsimp only at N'); (try k_sweep))
  k_with "binaryOp Add" => ((with_reducible show wpAny _ _ (binaryOp Operator.Add (Value.ref _) (Value.ref _)) _ _ _); k_dflt (refine' lst_add ?k1_605 ?k2_605 ?k3_605 ?k4_605 ?k5_605 ?_; (case k1_605 => k_asm); (case k2_605 => k_asm); (case k3_605 => k_mem); (case k4_605 => k_mem); (case k5_605 => first | (simp only [List.length_cons, List.length_nil]; lgec_go) | lgec_go); k_whole); intro l' h' F' N' l1; (try k_lt l1); (try k_sweep))
  k_with "binaryOp Add ref ref" => ((with_reducible show wpAny _ _ (binaryOp Operator.Add (Value.ref _) (Value.ref _)) _ _ _); k_dflt (refine' lst_add ?k1_606 ?k2_606 ?k3_606 ?k4_606 ?k5_606 ?_; (case k1_606 => k_asm); (case k2_606 => k_asm); (case k3_606 => k_mem); (case k4_606 => k_mem); (case k5_606 => first | (simp only [List.length_cons, List.length_nil]; lgec_go) | lgec_go); k_whole); intro l' h' F' N' l1; (try k_lt l1); (try k_sweep))
  k_with "subscriptTail Name Slice ref ref" => ((with_reducible show wpAny _ _ (subscriptTail _ _ (Value.ref _) (Value.ref _)) _ _ _); k_dflt (refine' lst_slice ?k1_607 ?k2_607 ?k3_607 ?k4_607 ?k5_607 ?k6_607 ?_; (case k1_607 => k_asm); (case k2_607 => k_asm); (case k3_607 => k_mem); (case k4_607 => lgec_go); (case k5_607 => lgec_go); (case k6_607 => lgec_go); k_whole); intro l' h' F' N' l1; (try k_lt l1); (try k_sweep))
  k_with "SrcLP" => (first | k_dflt (refine LCp.SrcLP.ledger (by rfl) (by k_asm) (by k_asm) (by k_mem) ?sz_608 ?_; (case sz_608 => rw [List.size_toArray, sizeLine_eq]; lgec_go); intro g'; refine Stop.mk ?_) | refine Stop.mk ?_)
  k_with "CompSrc" => (first | k_dflt (first | (refine LCg.CompSrc.ledger (by rfl) (by k_asm) (by k_asm) (by k_mem) ?sz_609 ?_; (case sz_609 => rw [List.size_toArray, sizeLine_eq]; lgec_go); intro g'; refine Stop.mk ?_) | (refine LCg.CompSrc.range (by rfl) (by k_asm) (by k_asm) (by assumption) (range_small (by first | decide | lgec_go) (by first | decide | lgec_go) (by lgec_go) (by lgec_go)) (by first | exact range_n0 | exact range_n) ?sz_609 ?_; (case sz_609 => rw [sizeLine_eq]; lgec_go); intro g'; refine Stop.mk ?_)) | refine Stop.mk ?_)
  k_with "CompSrcT" => (first | k_dflt (first | (refine LCt.CompSrcT.ledger (by rfl) (by k_asm) (by k_asm) (by k_mem) ?sz_610 ?_; (case sz_610 => rw [List.size_toArray, sizeLine_eq]; lgec_go); intro g'; refine Stop.mk ?_) | (refine LCt.CompSrcT.range (by rfl) (by k_asm) (by k_asm) (by assumption) (range_small (by first | decide | lgec_go) (by first | decide | lgec_go) (by lgec_go) (by lgec_go)) (by first | exact range_n0 | exact range_n) ?sz_610 ?_; (case sz_610 => rw [sizeLine_eq]; lgec_go); intro g'; refine Stop.mk ?_)) | refine Stop.mk ?_)
  k_with "eval ListComp" => (first | ((with_reducible show wpAny _ _ (eval (PySem.Expr.ListComp _ [PySem.Comprehension.mk (PySem.Expr.Tuple _ _ _) _ [_] _] _ _) _) _ _ _); refine Stop.mk ?_) | (lct_look; k_dflt (refine LCt.ListComp_T (F₀ := by k_asm) (by with_unfolding_all rfl) (by decide) (by rfl) (by decide) (by rfl) ?_); k_dflt lct_toSrc) | (lcp_look; k_dflt (refine LCp.ListComp_P (F₀ := by k_asm) (by with_unfolding_all rfl) (by decide) (by rfl) (by decide) (by rfl) (by rfl) (by decide) ?_); k_dflt lcp_toSrc) | ((first | lcg_look | lcf_look); k_dflt (refine LCg.ListComp_U (F₀ := by k_asm) (by with_unfolding_all rfl) (by decide) (by rfl) (by decide) (by rfl) ?_); k_dflt lcg_toSrc) | refine Stop.mk ?_)
  k_with "exec Assign cons ListComp" => (first | (lct_look; k_dflt (refine LCt.Assign_ListComp_T (F₀ := by k_asm) (by rfl) (by with_unfolding_all rfl) (by with_unfolding_all rfl) (by decide) (by rfl) (by decide) (by rfl) (by rfl) (by rfl) ?_); k_dflt lct_toSrc) | (lcp_look; k_dflt (refine LCp.Assign_ListComp_P (F₀ := by k_asm) (by rfl) (by with_unfolding_all rfl) (by with_unfolding_all rfl) (by decide) (by rfl) (by decide) (by rfl) (by rfl) (by decide) (by rfl) (by rfl) ?_); k_dflt lcp_toSrc) | ((first | lcg_look | lcf_look); k_dflt (refine LCg.Assign_ListComp_U (F₀ := by k_asm) (by rfl) (by with_unfolding_all rfl) (by with_unfolding_all rfl) (by decide) (by rfl) (by decide) (by rfl) (by rfl) (by rfl) ?_); k_dflt lcg_toSrc))
  k_with "call type:list" => ((with_reducible show wpAny _ _ (call (Value.type _) [Value.ref _]) _ _ _); k_dflt (refine' lst_copy ?k1_613 ?k2_613 ?k3_613 ?k4_613 ?_; (case k1_613 => k_asm); (case k2_613 => k_asm); (case k3_613 => k_mem); (case k4_613 => lgec_go); k_whole); intro D' c' h' F' N' l1; (try k_lt l1); (try k_sweep))
  k_with "call builtin:isinstance" => ((with_reducible show wpAny _ _ (call (Value.builtin "isinstance") [_, Value.type "list"]) _ _ _); refine' isl_atom _ _ _ _ _ ?k1_614 ?k2_614 ?k3_614 ?k4_614 ?k5_614 ?k6_614 ?k7_614 ?k8_614 ?_; (case k1_614 => with_reducible assumption); (case k2_614 => assumption); (case k4_614 => k_asm); (case k5_614 => k_asm); (case k7_614 => k_asm); (case k3_614 => tb_rel); (case k6_614 => k_asm); (case k8_614 => k_asm); intro tk')
  k_with "k_ne" => (refine neN ?_; (try dsimp only); first | with_reducible assumption | with_reducible exact Ne.symm (by with_reducible assumption) | with_reducible exact Nat.ne_of_lt (by with_reducible assumption) | with_reducible exact Nat.ne_of_gt (by with_reducible assumption))
  k_with "k_all" => with_reducible exact cell_off (by with_reducible assumption)
  k_with "call ref" => ((with_reducible show wpAny _ _ (call (Value.ref 436) _) _ _ _); first | (k_dflt (refine' Calls.use ?k1_617 ?k2_617 ?k3_617 ?k4_617 ?k5_617 ?kK_617 ?C_617 ?kd_617 ?ku_617 ?_; (case k1_617 => k_asm); (case k2_617 => k_asm); (case k3_617 => k_asm); (case k4_617 => k_asm); (case k5_617 => k_asm); (case kK_617 => first | exact rfl | assumption); (case C_617 => exact iswholeP _ _ _ _ _ (by assumption) (by tb_rel)); (case kd_617 => first | exact fastD (by assumption) (by decide) | ktr_room); (case ku_617 => first | exact fastU (by assumption) (by decide) | ktr_units); k_whole; intro r' n' h' tk' F' N' hr'; refine hideG ?_; intro G0; (obtain ⟨e', en'⟩ := hr'); subst e'; replace en' := Eq.symm en'; subst en'; (dsimp only [G0]); (try clear G0); (try k_sweep))) | refine Stop.mk ?_)
  k_with "call ref" => ((with_reducible show wpAny _ _ (call (Value.ref 443) _) _ _ _); first | (k_dflt (refine' Calls.use ?k1_618 ?k2_618 ?k3_618 ?k4_618 ?k5_618 ?kK_618 ?C_618 ?kd_618 ?ku_618 ?_; (case k1_618 => k_asm); (case k2_618 => k_asm); (case k3_618 => k_asm); (case k4_618 => k_asm); (case k5_618 => k_asm); (case kK_618 => first | exact rfl | assumption); (case C_618 => first | exact issizeP _ _ _ _ _ (by assumption) (by tb_rel) | exact issizeA _ _ _ _ _ (by assumption) (by tb_rel)); (case kd_618 => first | exact fastD (by assumption) (by decide) | ktr_room); (case ku_618 => first | exact fastU (by assumption) (by decide) | ktr_units); k_whole; intro r' n' h' tk' F' N' hr'; refine hideG ?_; intro G0; (obtain ⟨e', en'⟩ := hr'); subst e'; replace en' := Eq.symm en'; subst en'; (dsimp only [G0]); (try clear G0); (try k_sweep))) | refine Stop.mk ?_)
  k_with "subscriptTail Name Constant ref int" => ((with_reducible show wpAny _ _ (subscriptTail (Expr.Name _ _) _ (Value.ref _) (Value.int _ _)) _ _ _); k_dflt (refine' lst_item ?k1_619 ?k2_619 ?k3_619 ?k4_619 ?k5_619 ?_; (case k1_619 => k_asm); (case k2_619 => k_mem); (case k3_619 => decide); (case k4_619 => decide); (case k5_619 => rfl)))
  k_with "subscriptTail Name Slice ref ref" => ((with_reducible show wpAny _ _ (subscriptTail (Expr.Name _ _) _ (Value.ref _) (Value.ref _)) _ _ _); k_dflt (refine' lst_drop ?k1_620 ?k2_620 ?k3_620 ?k4_620 ?k5_620 ?_; (case k1_620 => k_asm); (case k2_620 => k_asm); (case k3_620 => k_mem); (case k4_620 => (simp only [List.length_cons]; lgec_go)); (case k5_620 => decide); k_whole); intro l' h' F' N' l1; (try k_lt l1); (try dsimp only [List.drop_succ_cons] at N'); (try k_sweep))
  k_with "eval ListComp" => ((with_reducible show wpAny _ _ (eval (PySem.Expr.ListComp (PySem.Expr.Tuple _ _ _) [PySem.Comprehension.mk (PySem.Expr.Name _ _) _ [] _] _ _) _) _ _ _); k_dflt (refine LCg.ListComp_U (F₀ := by k_asm) (by with_unfolding_all rfl) (by decide) (by rfl) (by decide) (by rfl) ?_); k_dflt lcg_toSrc)
  k_with "call type:dict" => ((with_reducible show wpAny _ _ (call (Value.type "dict") [Value.ref _]) _ _ _); k_dflt (refine' dict_pairs ?k1_622 ?k2_622 ?k3_622 ?k4_622 ?k5_622 ?k6_622 ?_; (case k1_622 => first | rfl | assumption); (case k2_622 => k_asm); (case k3_622 => k_asm); (case k4_622 => k_mem); (case k5_622 => exact PairsAt.mono (by assumption) (by tb_rel)); (case k6_622 => lgec_go)); intro D' o' h' tk' F' N' l1 hd'; (try k_lt l1); (try k_sweep))
  k_with "subscriptTail Subscript Name ref int" => ((with_reducible show wpAny _ _ (subscriptTail _ _ (Value.ref _) (Value.int _ _)) _ _ _); k_dflt (refine' lst_pick ?k1_623 ?k2_623 ?k3_623 ?k4_623 ?k5_623 ?_; (case k1_623 => k_asm); (case k2_623 => k_mem); (case k3_623 => lgec_go); (case k4_623 => lgec_go); (case k5_623 => lgec_go)); intro v9 hv9)
  k_with "subscriptTail Name Name ref int" => ((with_reducible show wpAny _ _ (subscriptTail _ _ (Value.ref _) (Value.int _ _)) _ _ _); k_dflt (refine' lst_pick ?k1_624 ?k2_624 ?k3_624 ?k4_624 ?k5_624 ?_; (case k1_624 => k_asm); (case k2_624 => k_mem); (case k3_624 => lgec_go); (case k4_624 => lgec_go); (case k5_624 => lgec_go)); intro v9 hv9)
  trivial
inductive RdJ (w : World) (news ro : Led) (ra L : Addr) (ps : List Part) (m : Str → Option Value) : Nat → Led → Prop
  | mk (pp : List Part) (done : List RRow) (lvs : List Value) (ln : Nat) (D : Addr) (dvs : List Value) (dn : Nat) (x1 : Obj) (tnew : Led) :
    Has m [(Str.ofString "rows", .ref ra)] → x1.data = .cell (some (.ref D)) → @Ne Nat D ra → @Ne Nat D (L + 1) → (∀ y ∈ tnew ++ news, y.1 ≠ D) → (∀ y ∈ tnew ++ news, y.1 ≠ ra) → (∀ y ∈ tnew ++ news, y.1 ≠ L + 1) → Apart news tnew →
    PartsIn w ro lvs pp → RowsD w (tnew ++ ro) dvs done → ReadsOn ps done pp → lvs.length + dvs.length ≤ 20 → RdJ w news ro ra L ps m pp.length ((D, PySem.W.listOf lvs.toArray ln) :: (ra, PySem.W.listOf dvs.toArray dn) :: (L + 1, x1) :: (tnew ++ news))
inductive RdC (w : World) (news ro tail : Led) (D ra L : Addr) (o1 o2 o3 : Obj) (told : List CW) (ys : List Value) : Led → Prop
  | mk (cnew : Led) : Apart [(D, dm), (ra, dm), (L + 1, dm)] cnew → Apart news cnew → RunIn w (cnew ++ ro) ys told → RdC w news ro tail D ra L o1 o2 o3 told ys ((D, o1) :: (ra, o2) :: (L + 1, o3) :: (cnew ++ tail))
inductive RdD (w : World) (news ro tail : Led) (Y D ra L : Addr) (oY o1 o2 o3 : Obj) (told : List CW) (ys : List Value) : Led → Prop
  | mk (cnew : Led) : Apart [(D, dm), (ra, dm), (L + 1, dm)] cnew → Apart news cnew → RunIn w (cnew ++ ro) ys told → RdD w news ro tail Y D ra L oY o1 o2 o3 told ys ((Y, oY) :: (D, o1) :: (ra, o2) :: (L + 1, o3) :: (cnew ++ tail))
theorem read_spec (w : World) (news ro : Led) (l : Addr) (vs : List Value) (n : Nat) (ps : List Part) (hm : (l, PySem.W.listOf vs.toArray n) ∈ news) (hW : PartsIn w ro vs ps) (hro : ∀ y ∈ ro, y ∈ news) (hz : vs.length ≤ 20) :
    Calls w 448 4 [.ref l] news (fun r news' => ∃ new, news' = new ++ news ∧ Apart news new ∧ ((r = .none ∧ readP ps = none) ∨ ∃ a ds k rows, r = .ref a ∧ readP ps = some rows ∧ (a, PySem.W.listOf ds.toArray k) ∈ new ∧ RowsD w (new ++ ro) ds rows ∧ ds.length ≤ 20)) := by
  intro mean mg mb dp un gd cn cs a ccd cl outer A₀ base h₀ L m s Q E B F X N T hk hd hu hret
  k_steps
  refine Stop.on ?_
  rename_i lL _ _ ra _ hra lra _ hD1 hD2 _ x0 F1 N1 dx0
  have hms : @LT.lt Nat _ sysModules L' := Nat.lt_of_lt_of_le (modules_low (Top.nolimit (by assumption))) F1.above
  refine While_inv2 (n₀ := ps.length) (fun n' m news' => RdJ w news ro ra L' ps m n' news') F1 N1 ?h0 ?turn (by passes_own)
  case h0 =>
    exact .mk ps [] vs _ D' [] _ _ [] ⟨rfl, trivial⟩ dx0 (Ne.symm (Nat.ne_of_lt hD1)) (Ne.symm (Nat.ne_of_lt hD2)) (allLt_off l1) (allLt_off lra) (cell_off lL) Apart.nil hW .nil (readsOn_start ps) hz
  case turn =>
    rintro n' m₁ news₁ h₁ tk₁ F2 N2 hX9
    revert N2
    obtain ⟨pp, done, lvs, ln, D, dvs, dn, x1, tnew, hma, dx1, nD1, nD2, oD, oR, oC, hAp, hP, hR, hOn, hlz⟩ := hX9
    intro N2
    replace F2 := pinned F2 hma
    simp only [pin] at F2
    have hro1 : ∀ y ∈ ro, y ∈ tnew ++ news := sub_appR hro
    have hro2 : ∀ y ∈ tnew ++ ro, y ∈ tnew ++ news := sub_app (sub_appL sub_self) (sub_appR hro)
    have hnt : ∀ y ∈ news, y ∈ tnew ++ news := sub_appR sub_self
    generalize htl : tnew ++ news = tail at *
    (refine hideG ?_; intro G0)
    cases hP with
    | nil =>
      (dsimp only [G0]); clear G0
      have hlen0 : ([] : List Value).length = 0 := rfl
      k_steps
      rename News h₀ L _ ((D, _) :: _) => NN
      subst htl
      exact hret _ _ _ _ (by k_asm) (read_end NN) ⟨(ra, PySem.W.listOf dvs.toArray dn) :: tnew, rfl, Apart.cons (fun q hq => oR q (hnt q hq)) hAp, Or.inr ⟨ra, dvs, dn, done, rfl, readsOn_end hOn, .head _, hR.mono (fun y hy => .tail _ hy), by simp only [List.length_nil] at hlz; lgec_go⟩⟩
    | cons hp0 hP1 =>
      (dsimp only [G0]); clear G0
      rename_i v0 p0 vs1 ps1
      (refine hideG ?_; intro G0)
      cases hP1 with
      | nil =>
        (dsimp only [G0]); clear G0
        have hlen1 : [v0].length = 1 := rfl
        k_steps
        unfold WhileStep2
        dsimp only
        k_steps
        rename News h₀ L _ ((D, _) :: _) => NN
        exact hret _ _ _ _ (by k_asm) (read_drop NN hnt) ⟨[], rfl, Apart.nil, Or.inl ⟨rfl, readsOn_no hOn (no_one _)⟩⟩
      | cons hp1 hP2 =>
        (dsimp only [G0]); clear G0
        rename_i v1 p1 vs2 ps2
        have hlen2 : (v0 :: v1 :: vs2).length = vs2.length + 2 := rfl
        (refine hideG ?_; intro G0)
        cases hp1 with
        | one ha1 hs1 =>
          (dsimp only [G0]); clear G0
          have hp1 := PartIn.one ha1 hs1
          (refine hideG ?_; intro G0)
          cases hP2 with
          | nil =>
            (dsimp only [G0]); clear G0
            have hlen3 : ([] : List Value).length = 0 := rfl
            k_steps
            · unfold WhileStep2
              dsimp only
              k_steps
              rename News h₀ L _ ((D, _) :: _) => NN
              exact hret _ _ _ _ (by k_asm) (read_drop NN hnt) ⟨[], rfl, Apart.nil, Or.inl ⟨rfl, readsOn_no hOn no_two⟩⟩
            · unfold WhileStep2
              dsimp only
              k_steps
              rename News h₀ L _ ((D, _) :: _) => NN
              exact hret _ _ _ _ (by k_asm) (read_drop NN hnt) ⟨[], rfl, Apart.nil, Or.inl ⟨rfl, readsOn_no hOn (no_first (isn (by assumption)))⟩⟩
          | cons hp2 hP3 =>
            (dsimp only [G0]); clear G0
            rename_i v2 p2 vs3 ps3
            have hlen3 : (v2 :: vs3).length = vs3.length + 1 := rfl
            k_steps
            · refine Stop.on ?_
              (refine hideG ?_; intro G0)
              obtain ⟨f, t0, rfl, hcf, hf0, hf1⟩ := codeP_int hp0 (by assumption)
              obtain ⟨l1, t1, rfl, hcl1, hl0, hl1⟩ := codeP_int hp1 (by assumption)
              obtain ⟨q2, hq2, hn2⟩ := numP_val hp2 (by assumption)
              (dsimp only [G0]); clear G0
              have hsl := span_len hf0 hl1
              k_steps
              refine Stop.on ?_
              refine comp_inv (fun i ys news₁ => RdC w news ro tail D ra L' (PySem.W.listOf (Value.int f t0 :: Value.int l1 t1 :: v2 :: vs3).toArray ln) (PySem.W.listOf dvs.toArray dn) x1 (spanCW f i q2) ys news₁) (.mk [] Apart.nil Apart.nil .nil) ?turn2 ?fin2
              case turn2 =>
                rintro i ys news₁ v I oI C oC D3 m₂ h tk E' hi ⟨cnew, hc1, hc2, hc3⟩ ⟨tv, rfl⟩ hC hx F2 N2 off ne
                (refine hideG ?_; intro G0)
                obtain ⟨ne1, ne2, ne3⟩ := ne
                (dsimp only [G0]); clear G0
                simp only [LCg.Off3] at off
                (refine hideG ?_; intro G0)
                obtain ⟨⟨oa1, oa2, oa3⟩, ⟨ob1, ob2, ob3⟩, ⟨oc1, oc2, oc3⟩, off⟩ := off
                (dsimp only [G0]); clear G0
                have ht2 : ∀ y ∈ tail, y ∈ cnew ++ tail := sub_appR sub_self
                generalize htl2 : cnew ++ tail = tail2 at *
                k_steps
                rename News _ _ _ (_ :: _ :: _ :: _ :: _ :: _ :: _ :: tail2) => N5
                rename AllLt _ tail2 => hl5
                refine LCg.CompEnd.intro (by k_asm) N5 (_ :: _ :: _ :: _ :: tail2) comp_sub3r (off3_mk (by k_all) (by k_all) (by k_all)) trivial (htl2 ▸ .mk ((_, _) :: cnew) (Apart.cons (by k_all) hc1) (Apart.cons (off_sub (allLt_off hl5) fun y hy => ht2 y (hnt y hy)) hc2) ?_)
                rw [spanCW_snoc]
                exact (hc3.mono (by tb_rel)).snoc (.head _) (hn2.mono (by tb_rel))
              case fin2 =>
                rintro ys news' ⟨cnew, hc1, hc2, hc3⟩
                have ht2 : ∀ y ∈ tail, y ∈ cnew ++ tail := sub_appR sub_self
                have hcr : ∀ y ∈ cnew ++ ro, y ∈ cnew ++ tail := sub_app (sub_appL sub_self) (sub_appR hro1)
                (refine hideG ?_; intro G0)
                obtain ⟨oD2, oR2, oC2⟩ := read_ag hc1
                (dsimp only [G0]); clear G0
                have oD3 := off_app oD2 oD
                have oR3 := off_app oR2 oR
                have oC3 := off_app oC2 oC
                have hcl := hc3.length
                rw [spanCW_length] at hcl
                (refine hideG ?_; intro G0)
                obtain ⟨kvs, hPA, hKv⟩ := hc3.pairs
                (dsimp only [G0]); clear G0
                have hPl := hPA.length
                generalize htl2 : cnew ++ tail = tail2 at *
                k_steps
                rename News _ _ _ (_ :: _ :: (_, LCg.lst ys) :: _) => N5
                have hl' := allLt_off l1
                rename Obj.IsDictOf _ _ (PySem.merged [] kvs) => hd9
                rename AllLt D' tail2 => hlD
                have hD' := allLt_off hlD
                have nDr : @Ne Nat D' ra := by k_ne
                have nDc : @Ne Nat D' (L' + 1) := by k_ne
                have nlD : @Ne Nat D' l' := by k_ne
                have nlr : @Ne Nat l' ra := by k_ne
                have nlc : @Ne Nat l' (L' + 1) := by k_ne
                subst htl2 htl
                exact wstep (n' := ps3.length) (by k_asm) (news_rd N5) (Nat.lt_succ_of_lt (Nat.lt_succ_of_lt (Nat.lt_succ_self _))) (.mk ps3 (done ++ [.span f _ q2]) vs3 _ l' (dvs ++ [.ref D']) _ _ _ ⟨rfl, trivial⟩ (by assumption) nlr nlc (off_rd nlD hl') (off_rd nDr oR3) (off_rd nDc oC3) (apart_rd hD' hc2 hAp) hP3 (rows_rd hR hd9 hKv (beq_eq_false_iff_ne.mpr (Nat.ne_of_gt (by lgec_go)))) (readsOn_span hOn hcf hcl1 hq2) (len_rd hlz (Nat.le_succ _)))
            · unfold WhileStep2
              dsimp only
              k_steps
              rename News h₀ L _ ((D, _) :: _) => NN
              exact hret _ _ _ _ (by k_asm) (read_drop NN hnt) ⟨[], rfl, Apart.nil, Or.inl ⟨rfl, readsOn_no hOn (no_num (isn (by assumption)))⟩⟩
            · unfold WhileStep2
              dsimp only
              k_steps
              rename News h₀ L _ ((D, _) :: _) => NN
              exact hret _ _ _ _ (by k_asm) (read_drop NN hnt) ⟨[], rfl, Apart.nil, Or.inl ⟨rfl, readsOn_no hOn (no_last (isn (by assumption)))⟩⟩
            · unfold WhileStep2
              dsimp only
              k_steps
              rename News h₀ L _ ((D, _) :: _) => NN
              exact hret _ _ _ _ (by k_asm) (read_drop NN hnt) ⟨[], rfl, Apart.nil, Or.inl ⟨rfl, readsOn_no hOn (no_first (isn (by assumption)))⟩⟩
        | list hm1 ha1 hl1 =>
          (dsimp only [G0]); clear G0
          rename_i l9 us kk as9
          have hp1 := PartIn.list hm1 ha1 hl1
          have hm1' := hro1 _ hm1
          k_steps
          · refine Stop.on ?_
            (refine hideG ?_; intro G0)
            obtain ⟨f, t0, rfl, hcf, hf0, hf1⟩ := codeP_int hp0 (by assumption)
            (dsimp only [G0]); clear G0
            have hus := ha1.length
            refine compT_invC (fun i ys => SizeInv as9 i ys ∧ ys.length ≤ i) ⟨SizeInv.start as9, Nat.le_refl _⟩ ?turnA ?finA
            case turnA =>
              intro i ys v I oI C oC D3 m₂ h tk E' hi hJ hv hC hx F2 N2 off ne
              (refine hideG ?_; intro G0)
              obtain ⟨ne1, ne2, ne3⟩ := ne
              (dsimp only [G0]); clear G0
              have hv' : us[i]? = some v := by simpa using hv
              (refine hideG ?_; intro G0)
              obtain ⟨a9, ha9, hA9⟩ := ha1.pick hv'
              (dsimp only [G0]); clear G0
              have hJ9 := And.intro hJ trivial
              k_steps
              · refine LCg.CompEnd.intro (by k_asm) (by k_asm) _ (fun p hp => hp) off (Or.inr ⟨_, sub_mem (by tb_rel) hm1', rfl, _, rfl⟩) ⟨?_, rfl⟩
                exact ⟨hJ.1.good ha9 (by assumption), Nat.le_succ_of_le hJ.2⟩
              · refine LCg.CompEnd.intro (by k_asm) (by k_asm) _ (fun p hp => hp) off (Or.inr ⟨_, sub_mem (by tb_rel) hm1', rfl, _, rfl⟩) ⟨?_, rfl⟩
                exact ⟨hJ.1.bad ha9 (by assumption), by rw [List.length_append, List.length_singleton]; exact Nat.succ_le_succ hJ.2⟩
            case finA =>
              intro ys hJ
              rw [List.size_toArray, hus] at hJ
              obtain ⟨hJ, hyl⟩ := hJ
              have hJ9 := And.intro hJ trivial
              k_steps
              · unfold WhileStep2
                dsimp only
                k_steps
                rename News h₀ L _ (_ :: (D, _) :: _) => NN
                exact hret _ _ _ _ (by k_asm) (read_drop2 NN hnt) ⟨[], rfl, Apart.nil, Or.inl ⟨rfl, readsOn_no hOn (no_many (hJ9.1.none (by assumption)))⟩⟩
              · refine Stop.on ?_
                obtain ⟨qs, hqs⟩ := hJ9.1.some (by assumption)
                have hql := (numsQ_at hqs).1
                rename (_ ∧ _ ∧ _ ∧ LCg.Off1 _ tail) => oo
                (refine hideG ?_; intro G0)
                obtain ⟨g1, g2, g3, g4⟩ := oo
                (dsimp only [G0]); clear G0
                refine comp_inv (fun i zs news₁ => RdD w news ro tail _ D ra L' (LCg.lst ys) (PySem.W.listOf (Value.int f t0 :: Value.ref l9 :: vs2).toArray ln) (PySem.W.listOf dvs.toArray dn) x1 (listedCW f (qs.take i)) zs news₁) (.mk [] Apart.nil Apart.nil .nil) ?turn3 ?fin3
                case turn3 =>
                  rintro i zs news₁ v I oI C oC D3 m₂ h tk E' hi ⟨cnew, hc1, hc2, hc3⟩ ⟨tv, rfl⟩ hC hx F2 N2 off ne
                  (refine hideG ?_; intro G0)
                  obtain ⟨ne1, ne2, ne3⟩ := ne
                  (dsimp only [G0]); clear G0
                  simp only [LCg.Off3] at off
                  (refine hideG ?_; intro G0)
                  obtain ⟨⟨od1, od2, od3⟩, ⟨oa1, oa2, oa3⟩, ⟨ob1, ob2, ob3⟩, ⟨oc1, oc2, oc3⟩, off⟩ := off
                  (dsimp only [G0]); clear G0
                  rw [Int.toNat_natCast] at hi
                  have ht2 : ∀ y ∈ tail, y ∈ cnew ++ tail := sub_appR sub_self
                  have hm2 := ht2 _ hm1'
                  generalize htl2 : cnew ++ tail = tail2 at *
                  k_steps
                  rename News _ _ _ (_ :: _ :: _ :: _ :: _ :: _ :: _ :: _ :: tail2) => N5
                  rename AllLt _ tail2 => hl5
                  (refine hideG ?_; intro G0)
                  obtain ⟨q9, hq9, hn9⟩ := ha1.pickN hqs (pick_at hv9)
                  (dsimp only [G0]); clear G0
                  have e : f + (0 + (i : Int)) = f + i := by lgec_go
                  refine LCg.CompEnd.intro (by k_asm) N5 (_ :: _ :: _ :: _ :: _ :: tail2) comp_sub4r (off3_mk (by k_all) (by k_all) (by k_all)) trivial (htl2 ▸ .mk ((_, _) :: cnew) (Apart.cons (by k_all) hc1) (Apart.cons (off_sub (allLt_off hl5) fun y hy => ht2 y (hnt y hy)) hc2) ?_)
                  rw [listedCW_take qs f i q9 hq9, ← e]
                  exact (hc3.mono (by tb_rel)).snoc (.head _) (hn9.mono (by tb_rel))
                case fin3 =>
                  rintro zs news' ⟨cnew, hc1, hc2, hc3⟩
                  rw [Int.toNat_natCast, listed_all (by lgec_go)] at hc3
                  have hcr : ∀ y ∈ cnew ++ ro, y ∈ cnew ++ tail := sub_app (sub_appL sub_self) (sub_appR hro1)
                  (refine hideG ?_; intro G0)
                  obtain ⟨kvs, hPA, hKv⟩ := hc3.pairs
                  (dsimp only [G0]); clear G0
                  have hPl := hPA.length
                  have hKl := hKv.length
                  have hpl : (pairsR (.many f qs)).length = qs.length := listedCW_length qs f
                  (refine hideG ?_; intro G0)
                  obtain ⟨oD2, oR2, oC2⟩ := read_ag hc1
                  (dsimp only [G0]); clear G0
                  have oD3 := off_app oD2 oD
                  have oR3 := off_app oR2 oR
                  have oC3 := off_app oC2 oC
                  generalize htl2 : cnew ++ tail = tail2 at *
                  k_steps
                  rename News _ _ _ (_ :: _ :: (_, LCg.lst zs) :: _ :: _) => N5
                  have hl' := allLt_off l1
                  rename Obj.IsDictOf _ _ (PySem.merged [] kvs) => hd9
                  rename AllLt D' tail2 => hlD
                  have hD' := allLt_off hlD
                  have nDr : @Ne Nat D' ra := by k_ne
                  have nDc : @Ne Nat D' (L' + 1) := by k_ne
                  have nlD : @Ne Nat D' l' := by k_ne
                  have nlr : @Ne Nat l' ra := by k_ne
                  have nlc : @Ne Nat l' (L' + 1) := by k_ne
                  subst htl2 htl
                  exact wstep (n' := ps2.length) (by k_asm) (news_rd2 N5) (Nat.lt_succ_of_lt (Nat.lt_succ_self _)) (.mk ps2 (done ++ [.many f qs]) vs2 _ l' (dvs ++ [.ref D']) _ _ _ ⟨rfl, trivial⟩ (by assumption) nlr nlc (off_rd nlD hl') (off_rd nDr oR3) (off_rd nDc oC3) (apart_rd hD' hc2 hAp) hP2 (rows_rd hR hd9 hKv (beq_eq_false_iff_ne.mpr (Nat.ne_of_gt (by lgec_go)))) (readsOn_many hOn hcf hqs) (len_rd hlz (Nat.le_refl _)))
          · unfold WhileStep2
            dsimp only
            k_steps
            rename News h₀ L _ ((D, _) :: _) => NN
            exact hret _ _ _ _ (by k_asm) (read_drop NN hnt) ⟨[], rfl, Apart.nil, Or.inl ⟨rfl, readsOn_no hOn (no_first (isn (by assumption)))⟩⟩

end
section
theorem kw_Y0_0 : True := by
  k_with_none
  k_with "om" => first | decide
  k_with "k_ne" => (refine neN ?_; (try dsimp only); first | with_reducible assumption | lgec_go)
  k_with "fold_depth" => first | ((with_reducible show wpAny _ (Around.deeper (ktrTop _ _ _ _ _ _ _ _ _ _) _) _ _ _ _); refine wp_fold4 ?_; intro A1 q0 e0) | (refine wp_fold2 ?_; intro q00 e00)
  k_with "fold_lay" => ((show wpAny _ _ _ _ _ _); first | (fail_if_success k_fold) | ((try clear qf); refine wp_fold ?_; intro qf))
  k_with "k_steps" => ((try dsimp only); (try fold_lay); repeat' (first | (k_unfold; (try dsimp only)) | (k_end; wrow_close) | (walk1; (try ((first | (with_reducible show wpAny _ _ (exec _ _) _ _ _) | (with_reducible show wpAny _ _ (execs _ _) _ _ _)); (try dsimp only); fold_lay))) | (dsimp only; walk1) | (leave1; walk_say "STEP leave1"; try dsimp only) | fail "no step"))
  k_with "k_room" => first | exact fastR (by assumption) | ktr_room | (simp only [A1]; ktr_room)
  k_with "k_units" => first | ktr_units | (simp only [A1]; ktr_units)
  k_with "k_enter" => (refine' code_defC ?k1_630 ?k2_630 ?k3_630 ?k4_630 ?k5_630 ?kA_630 ?kF_630 ?kK_630 ?k6_630 ?k7_630 ?k8_630 ?k9_630 ?kB_630 ?kD_630 ?_ ?c2_630 ?c3_630 ?c4_630; (case kA_630 => exact rfl); (case kF_630 => exact rfl); (case kK_630 => assumption); (case k1_630 => k_asm); (case k2_630 => k_asm); (case k3_630 => k_asm); (case k4_630 => k_asm); (case k5_630 => k_asm); (case k6_630 => k_is); (case k7_630 => k_is); (case k8_630 => k_room); (case k9_630 => first | exact BindsTo.of_eq rfl | exact binds_K (by k_in) rfl (by k_is) rfl rfl rfl); (case kB_630 => exact rfl); (case kD_630 => decide +kernel); (case c2_630 => exact rfl); (case c3_630 => exact rfl); (case c4_630 => exact rfl); k_whole; intro g' L' h' tk' cells' FG' F' N' Y' B' X' T' l1; (try k_lt l1); refine hideG ?_; intro G0; k_cells Y'; (dsimp only [G0]); (try clear G0); (try simp only [List.cons_append, List.nil_append] at N'); (try dsimp only); (try fold_depth))
  k_with "k_enter" => (refine' code_def ?k1_631 ?k2_631 ?k3_631 ?k4_631 ?k5_631 ?kA_631 ?kF_631 ?kK_631 ?k6_631 ?k7_631 ?k8_631 ?k9_631 ?kB_631 ?_ ?c2_631 ?c3_631 ?c4_631 ?c5_631; (case kA_631 => exact rfl); (case kF_631 => exact rfl); (case kK_631 => assumption); (case k1_631 => k_asm); (case k2_631 => k_asm); (case k3_631 => k_asm); (case k4_631 => k_asm); (case k5_631 => k_asm); (case k6_631 => k_is); (case k7_631 => k_is); (case k8_631 => k_room); (case k9_631 => first | exact BindsTo.of_eq rfl | exact binds_K (by k_in) rfl (by k_is) rfl rfl rfl); (case c5_631 => decide); (case kB_631 => exact locs rfl); (case c2_631 => exact rfl); (case c3_631 => exact rfl); (case c4_631 => exact rfl); k_whole; intro g' L' h' FG' F' N' B' X' T'; (try dsimp only); (try fold_depth))
  trivial
noncomputable abbrev tupW (a b c : Value) (k : Nat) : Obj := { cls := .type "tuple", data := .seq #[a, b, c] k }
inductive LAts (w : World) (ro : Led) (kvs : List (Int × Value)) : List Value → List Atom → Prop where
  | nil : LAts w ro kvs [] []
  | cons {v' v : Value} {a : Atom} {vs : List Value} {as : List Atom} : Laid w ro kvs v' v → AtomIn w ro v a → LAts w ro kvs vs as → LAts w ro kvs (v' :: vs) (a :: as)
inductive LPt (w : World) (ro : Led) (kvs : List (Int × Value)) : Value → Part → Prop where
  | one {v' v : Value} {a : Atom} : Laid w ro kvs v' v → AtomIn w ro v a → a ≠ .sev → LPt w ro kvs v' (.one a)
  | list {v' : Value} {l : Addr} {us : List Value} {k : Nat} {as : List Atom} : Laid w ro kvs v' (.ref l) → (l, PySem.W.listOf us.toArray k) ∈ ro → LAts w ro kvs us as → us.length ≤ 6 → LPt w ro kvs v' (.list as)
inductive LPts (w : World) (ro : Led) (kvs : List (Int × Value)) : List Value → List Part → Prop where
  | nil : LPts w ro kvs [] []
  | cons {v : Value} {p : Part} {vs : List Value} {ps : List Part} : LPt w ro kvs v p → LPts w ro kvs vs ps → LPts w ro kvs (v :: vs) (p :: ps)
inductive NumsIn2 (w : World) (ro : Led) : List Value → List Num → Prop where
  | nil : NumsIn2 w ro [] []
  | cons {v : Value} {q : Num} {vs : List Value} {qs : List Num} : NumIn w ro v q → NumsIn2 w ro vs qs → NumsIn2 w ro (v :: vs) (q :: qs)
inductive WideR (w : World) (ro : Led) : Value → RRow → Prop where
  | many {t wl : Addr} {f : Int} {t1 t2 : Tok} {ws : List Value} {k1 k2 : Nat} {qs : List Num} : (t, tupW (.int f t1) (.int (f + qs.length - 1) t2) (.ref wl) k1) ∈ ro → (wl, PySem.W.listOf ws.toArray k2) ∈ ro → NumsIn2 w ro ws qs → 0 ≤ f → f ≤ 1000 → qs.length ≤ 6 → WideR w ro (.ref t) (.many f qs)
  | span {t wl : Addr} {f l : Int} {t1 t2 : Tok} {v : Value} {k1 k2 : Nat} {q : Num} : (t, tupW (.int f t1) (.int l t2) (.ref wl) k1) ∈ ro → (wl, PySem.W.listOf #[v] k2) ∈ ro → NumIn w ro v q → 0 ≤ f → f ≤ 1000 → 0 ≤ l → l ≤ 1000 → WideR w ro (.ref t) (.span f l q)
inductive WidesIn (w : World) (ro : Led) : List Value → List RRow → Prop where
  | nil : WidesIn w ro [] []
  | cons {v : Value} {row : RRow} {vs : List Value} {rows : List RRow} : WideR w ro v row → WidesIn w ro vs rows → WidesIn w ro (v :: vs) (row :: rows)
theorem NumsIn2.mono {w : World} {ro ro' : Led} {vs : List Value} {qs : List Num} (h : NumsIn2 w ro vs qs) (hs : ∀ p ∈ ro, p ∈ ro') : NumsIn2 w ro' vs qs := by
  induction h with
  | nil => exact .nil
  | cons h _ ih => exact .cons (h.mono hs) ih
theorem NumsIn2.snoc {w : World} {ro : Led} {vs : List Value} {qs : List Num} {v : Value} {q : Num} (h : NumsIn2 w ro vs qs) (g : NumIn w ro v q) : NumsIn2 w ro (vs ++ [v]) (qs ++ [q]) := by
  induction h with
  | nil => exact .cons g .nil
  | cons h _ ih => exact .cons h ih
theorem NumsIn2.length {w : World} {ro : Led} {vs : List Value} {qs : List Num} (h : NumsIn2 w ro vs qs) : vs.length = qs.length := by
  induction h with
  | nil => rfl
  | cons _ _ ih => simp [ih]
theorem NumsIn2.at {w : World} {ro : Led} {vs : List Value} {qs : List Num} (h : NumsIn2 w ro vs qs) : ∀ (i : Nat) (v : Value), vs[i]? = some v → ∃ q, qs[i]? = some q ∧ NumIn w ro v q := by
  induction h with
  | nil => intro i v h; simp at h
  | cons h _ ih =>
    intro i v hv
    cases i with
    | zero =>
      simp at hv
      subst hv
      exact ⟨_, rfl, h⟩
    | succ i => exact ih i v (by simpa using hv)
theorem WideR.mono {w : World} {ro ro' : Led} {v : Value} {row : RRow} (h : WideR w ro v row) (hs : ∀ p ∈ ro, p ∈ ro') : WideR w ro' v row := by
  cases h with
  | many a b c d e f => exact .many (hs _ a) (hs _ b) (c.mono hs) d e f
  | span a b c d e f g => exact .span (hs _ a) (hs _ b) (c.mono hs) d e f g
theorem WidesIn.mono {w : World} {ro ro' : Led} {vs : List Value} {rows : List RRow} (h : WidesIn w ro vs rows) (hs : ∀ p ∈ ro, p ∈ ro') : WidesIn w ro' vs rows := by
  induction h with
  | nil => exact .nil
  | cons h _ ih => exact .cons (h.mono hs) ih
theorem WidesIn.snoc {w : World} {ro : Led} {vs : List Value} {rows : List RRow} {v : Value} {row : RRow} (h : WidesIn w ro vs rows) (g : WideR w ro v row) : WidesIn w ro (vs ++ [v]) (rows ++ [row]) := by
  induction h with
  | nil => exact .cons g .nil
  | cons h _ ih => exact .cons h ih
theorem LAts.length {w : World} {ro : Led} {kvs : List (Int × Value)} {vs : List Value} {as : List Atom} (h : LAts w ro kvs vs as) : vs.length = as.length := by
  induction h with
  | nil => rfl
  | cons _ _ _ ih => simp [ih]
theorem LAts.pick {w : World} {ro : Led} {kvs : List (Int × Value)} {vs : List Value} {as : List Atom} (h : LAts w ro kvs vs as) : ∀ (i : Nat) (v' : Value), vs[i]? = some v' → ∃ v a, as[i]? = some a ∧ Laid w ro kvs v' v ∧ AtomIn w ro v a := by
  induction h with
  | nil => intro i v h; simp at h
  | cons h1 h2 _ ih =>
    intro i v hv
    cases i with
    | zero =>
      simp at hv
      subst hv
      exact ⟨_, _, rfl, h1, h2⟩
    | succ i => exact ih i v (by simpa using hv)
theorem LPts.length {w : World} {ro : Led} {kvs : List (Int × Value)} {vs : List Value} {ps : List Part} (h : LPts w ro kvs vs ps) : vs.length = ps.length := by
  induction h with
  | nil => rfl
  | cons _ _ ih => simp [ih]
theorem LPt.val {w : World} {ro : Led} {kvs : List (Int × Value)} {v' : Value} {p : Part} (h : LPt w ro kvs v' p) : ∃ v, Laid w ro kvs v' v ∧ AtomIn w ro v (atomP p) := by
  cases h with
  | one h1 h2 _ => exact ⟨_, h1, h2⟩
  | list h1 h2 _ _ => exact ⟨_, h1, .sev h2⟩
theorem drop_get {vs : List Value} {p : Nat} {v : Value} {r : List Value} (h : vs.drop p = v :: r) : vs[p]? = some v ∧ vs.drop (p + 1) = r := by
  constructor
  · have := congrArg (fun l => l[0]?) h
    simpa using this
  · have := congrArg List.tail h
    simpa [List.tail_drop] using this
theorem drop_len {vs : List Value} {p : Nat} {r : List Value} (h : vs.drop p = r) : vs.length - p = r.length := by
  rw [← h, List.length_drop]
theorem no_first' {p0 : Part} {r : List Part} (h : codeP p0 = none) : readP (p0 :: r) = none := by
  cases r with
  | nil => exact no_one p0
  | cons p1 r => exact no_first h
theorem whole_mono {w : World} {ro news : Led} {v : Value} {a : Atom} (h : AtomIn w ro v a) (hs : ∀ y ∈ ro, y ∈ news) : CallsE w 350 8 [v] news (fun r news' => r = v ∧ (∃ i t, v = .int i t ∧ a = .int i ∧ 0 ≤ i) ∧ news' = news) (codeA a = none) := whole_spec w news v a (h.mono hs)
theorem numof_mono {w : World} {ro news : Led} {v : Value} {a : Atom} (h : AtomIn w ro v a) (hs : ∀ y ∈ ro, y ∈ news) : CallsE w 343 8 [v] news (fun r news' => r = v ∧ numA a = true ∧ news' = news) (numA a = false) := numof_spec w news v a (h.mono hs)
theorem get_at0 {lvs r : List Value} {p : Nat} {v : Value} (h : lvs.drop p = v :: r) : lvs[(p : Int).toNat]? = some v := by
  rw [Int.toNat_natCast]
  exact (drop_get h).1
theorem get_at1 {lvs r : List Value} {p : Nat} {v0 v : Value} (h : lvs.drop p = v0 :: v :: r) : lvs[((p : Int) + 1).toNat]? = some v := by
  rw [show ((p : Int) + 1) = ((p + 1 : Nat) : Int) from rfl, Int.toNat_natCast]
  exact (drop_get (drop_get h).2).1
theorem get_at2 {lvs r : List Value} {p : Nat} {v0 v1 v : Value} (h : lvs.drop p = v0 :: v1 :: v :: r) : lvs[((p : Int) + 2).toNat]? = some v := by
  rw [show ((p : Int) + 2) = ((p + 2 : Nat) : Int) from rfl, Int.toNat_natCast]
  exact (drop_get (drop_get (drop_get h).2).2).1
theorem wide_end {h₀ h : Heap} {L : Addr} {b c : Addr × Obj} {tnew news : Led} (N : News h₀ L h (b :: c :: (tnew ++ news))) : News h₀ L h ((b :: tnew) ++ news) := fun q hq => N q (by
  rcases List.mem_cons.mp hq with rfl | hq
  · exact .head _
  · exact .tail _ (.tail _ hq))
noncomputable def FontPost (w : World) (E : Value → Shared → Prop) : Value → Shared → Prop := fun v s₃ => ∃ e t d, v = .ref e ∧ (hd.heap_39 w.params).In s₃.heap ∧ s₃.heap.get? e = some (excD 59 t d) ∧ E (.ref e) s₃
theorem raise_font2 {prog : Program} {w : World} {A : Around} {E : Value → Shared → Prop} {s : Shared} {env : Env} {x tx : Str} {k : Nat} {np cp cpos pos : Pos} {Q : Flow → Shared → Prop} (hev : ∀ Q' : Value → Shared → Prop, Q' (.ref 59) s → wpAny (model prog w) A (eval (.Name x np) env) Q' E s) (hh : A.handled = none) (X : (hd.heap_39 w.params).In s.heap)
    (h : wpAny (model prog w) A (call (.ref 59) [.str tx s.toks]) (FontPost w E) E { s with toks := s.toks + 1 }) :
    wpAny (model prog w) A (exec (.Raise (some (.Call (.Name x np) [.Constant (.str tx) k cp] [] cpos)) none pos) env) Q E s := raise_font hev hh X h
theorem font_use2 {w : World} {tx : Str} {tk : Tok} {news : Led} {mean : ExcName → Option Value} {mg mb : Str → Option Value} {dp un : Nat} {gd : Option (List Code)} {cn : Str} {cs : Scope} {a : Addr} {ccd : Value} {cl : List (Str × Addr)} {outer : List Env} {A₀ : Around} {base h₀ : Heap} {L : Addr} {m : Str → Option Value} {s : Shared}
    {E : Value → Shared → Prop} (B : Below A₀ base outer h₀) (F : Fr h₀ L s.heap m) (X : (hd.heap_39 w.params).In h₀) (N : News h₀ L s.heap news) (T : Top hd.view_39 Lo mean mg mb h₀) (hk : cs.kind = .function)
    (hd' : dp + 2 < recursionLimit) (hu : un + 8 * 2 < cLine)
    (h : ∀ e t d h' tk', Fr h₀ L h' m → News h₀ L h' ((e, excD 59 t d) :: (t, tupO [.str tx tk]) :: news) → (∀ q ∈ news, q.1 ≠ e ∧ q.1 ≠ t) → t ≠ e → E (.ref e) { s with heap := h', toks := tk' }) :
    wpAny (model PySem.Challenge.rw_nn0211_01.row.prog w) (ktrTop dp un gd cn cs L a ccd cl outer) (call (.ref 59) [.str tx tk]) (FontPost w E) E s := font_use B F X N T hk hd' hu h
theorem numP_none {p : Part} (h : numA (atomP p) = false) : numP p = none := by
  rw [numP_atom]
  exact numQ_none h
theorem codeP_some {p : Part} {i : Int} (h : atomP p = .int i) (h0 : 0 ≤ i) : codeP p = some i := by
  rw [codeP_atom, h]
  exact if_pos h0
theorem codeA_some' {a : Atom} {i : Int} (h : a = .int i) (h0 : 0 ≤ i) : codeA a = some i := by
  rw [h]
  exact if_pos h0
theorem AtomIn.le {w : World} {ro : Led} {v : Value} {a : Atom} {i : Int} (h : AtomIn w ro v a) (e : a = .int i) : i ≤ 1000 := by
  subst e
  cases h with
  | int _ h => exact h
theorem numP_ok {w : World} {ro : Led} {v : Value} {p : Part} (h : AtomIn w ro v (atomP p)) (hn : numA (atomP p) = true) : ∃ q, numP p = some q ∧ NumIn w ro v q := by
  rw [← numQ_some] at hn
  obtain ⟨q, hq⟩ := Option.isSome_iff_exists.mp hn
  exact ⟨q, by rw [numP_atom]; exact hq, h.num hq⟩
theorem news_wd {h₀ h : Heap} {L : Addr} {D l r c : Addr × Obj} {tnew news : Led} (N : News h₀ L h (D :: l :: r :: c :: (tnew ++ news))) : News h₀ L h (r :: c :: ((D :: l :: tnew) ++ news)) := fun q hq => N q (subL [r, c, D, l] [tnew, news] (.c 0 (.c 1 (.a (.c 2 (.c 3 (.s 0))) (.s 1)))) (.c 2 (.c 3 (.c 0 (.c 1 (.a (.s 0) (.s 1)))))) rfl q hq)
theorem off_wd {D l x : Addr} {o1 o2 : Obj} {tnew news : Led} (h1 : @Ne Nat D x) (h2 : @Ne Nat l x) (h3 : ∀ y ∈ tnew ++ news, y.1 ≠ x) : ∀ y ∈ ((D, o1) :: (l, o2) :: tnew) ++ news, y.1 ≠ x := fun y hy => by
  rcases List.mem_cons.mp hy with rfl | hy
  · exact h1
  · rcases List.mem_cons.mp hy with rfl | hy
    · exact h2
    · exact h3 y hy

end
section
theorem kw_Y1_0 : True := by
  k_with_none
  k_with "om" => first | decide | (with_reducible first | apply om4 <;> assumption | apply om7 <;> assumption | apply om19 <;> assumption | apply om44 <;> assumption | apply om370 <;> assumption | apply om371 <;> assumption | apply om372 <;> assumption | apply om373 <;> assumption | apply om374 <;> assumption | apply om375 <;> assumption | apply om376 <;> assumption | apply om377 <;> assumption | apply om378 <;> assumption | apply om379 <;> assumption | apply om380 <;> assumption | apply om381 <;> assumption | apply om382 <;> assumption | apply om383 <;> assumption | apply om384 <;> assumption | apply om385 <;> assumption | apply om386 <;> assumption | apply om387 <;> assumption | apply om388 <;> assumption | apply om389 <;> assumption | apply om390 <;> assumption | apply om391 <;> assumption | apply om392 <;> assumption | apply om393 <;> assumption | apply om394 <;> assumption | apply om395 <;> assumption | apply om396 <;> assumption | apply om397 <;> assumption | apply om398 <;> assumption | apply om399 <;> assumption | apply om400 <;> assumption | apply om401 <;> assumption | apply om402 <;> assumption | apply om403 <;> assumption | apply om404 <;> assumption | apply om405 <;> assumption | apply om406 <;> assumption | apply om407 <;> assumption | apply om408 <;> assumption)
  k_with "k_ne" => (refine neN ?_; (try dsimp only); first | with_reducible assumption | lgec_go)
  k_with "fold_depth" => first | ((with_reducible show wpAny _ (Around.deeper (ktrTop _ _ _ _ _ _ _ _ _ _) _) _ _ _ _); refine wp_fold4 ?_; intro A1 q0 e0) | (refine wp_fold2 ?_; intro q00 e00)
  k_with "fold_lay" => ((show wpAny _ _ _ _ _ _); first | (fail_if_success k_fold) | ((try clear qf); refine wp_fold ?_; intro qf))
  k_with "k_steps" => ((try dsimp only); (try fold_lay); repeat' (first | (k_unfold; (try dsimp only)) | (k_end; wrow_close) | (walk1; (try ((first | (with_reducible show wpAny _ _ (exec _ _) _ _ _) | (with_reducible show wpAny _ _ (execs _ _) _ _ _)); (try dsimp only); fold_lay))) | (dsimp only; walk1) | (leave1; walk_say "STEP leave1"; try dsimp only) | fail "no step"))
  k_with "k_room" => first | exact fastR (by assumption) | ktr_room | (simp only [A1]; ktr_room)
  k_with "k_units" => first | ktr_units | (simp only [A1]; ktr_units)
  k_with "k_enter" => (refine' code_defC ?k1_637 ?k2_637 ?k3_637 ?k4_637 ?k5_637 ?kA_637 ?kF_637 ?kK_637 ?k6_637 ?k7_637 ?k8_637 ?k9_637 ?kB_637 ?kD_637 ?_ ?c2_637 ?c3_637 ?c4_637; (case kA_637 => exact rfl); (case kF_637 => exact rfl); (case kK_637 => assumption); (case k1_637 => k_asm); (case k2_637 => k_asm); (case k3_637 => k_asm); (case k4_637 => k_asm); (case k5_637 => k_asm); (case k6_637 => k_is); (case k7_637 => k_is); (case k8_637 => k_room); (case k9_637 => first | exact BindsTo.of_eq rfl | exact binds_K (by k_in) rfl (by k_is) rfl rfl rfl); (case kB_637 => exact rfl); (case kD_637 => decide +kernel); (case c2_637 => exact rfl); (case c3_637 => exact rfl); (case c4_637 => exact rfl); k_whole; intro g' L' h' tk' cells' FG' F' N' Y' B' X' T' l1; (try k_lt l1); refine hideG ?_; intro G0; k_cells Y'; (dsimp only [G0]); (try clear G0); (try simp only [List.cons_append, List.nil_append] at N'); (try dsimp only); (try fold_depth))
  k_with "k_enter" => (refine' code_def ?k1_638 ?k2_638 ?k3_638 ?k4_638 ?k5_638 ?kA_638 ?kF_638 ?kK_638 ?k6_638 ?k7_638 ?k8_638 ?k9_638 ?kB_638 ?_ ?c2_638 ?c3_638 ?c4_638 ?c5_638; (case kA_638 => exact rfl); (case kF_638 => exact rfl); (case kK_638 => assumption); (case k1_638 => k_asm); (case k2_638 => k_asm); (case k3_638 => k_asm); (case k4_638 => k_asm); (case k5_638 => k_asm); (case k6_638 => k_is); (case k7_638 => k_is); (case k8_638 => k_room); (case k9_638 => first | exact BindsTo.of_eq rfl | exact binds_K (by k_in) rfl (by k_is) rfl rfl rfl); (case c5_638 => decide); (case kB_638 => exact locs rfl); (case c2_638 => exact rfl); (case c3_638 => exact rfl); (case c4_638 => exact rfl); k_whole; intro g' L' h' FG' F' N' B' X' T'; (try dsimp only); (try fold_depth))
  k_with "klt" => skip
  k_with "k_all" => first | exact List.forall_mem_nil _ | (with_reducible refine List.forall_mem_cons.mpr ⟨?_, ?_⟩; (focus k_ne); k_all) | with_reducible assumption | with_reducible exact allLt_off (by with_reducible assumption) | with_reducible exact lt_off (by with_reducible assumption) | with_reducible exact off1_off (by with_reducible assumption) | with_reducible exact off3_1 (by with_reducible assumption) | with_reducible exact off3_2 (by with_reducible assumption) | with_reducible exact off3_3 (by with_reducible assumption) | (with_reducible refine GrowK.off (by with_reducible assumption) ?_ ?_; (focus simp only [List.mem_cons, true_or, or_true]); k_all)
  k_with "tb_rel" => with_reducible first | assumption | exact sub_self | (refine sub_tail ?_; tb_rel) | (refine sub_growK (by assumption) ?_; tb_rel) | (refine sub_app ?_ ?_; (focus tb_rel); tb_rel) | (refine sub_consApp ?_; tb_rel) | (refine sub_appL ?_; tb_rel) | (refine sub_appR ?_; tb_rel)
  k_with "k_mem" => (refine sub_mem ?_ (by assumption); tb_rel)
  k_with "exec While" => ((with_reducible show wpAny _ _ (exec (Stmt.While _ _ _ _) _) _ _ _); refine Stop.mk ?_)
  k_with "exec While Compare" => ((with_reducible show wpAny _ _ (exec (Stmt.While _ _ _ _) _) _ _ _); refine Stop.mk ?_)
  k_with "exec While BoolOp" => ((with_reducible show wpAny _ _ (exec (Stmt.While _ _ _ _) _) _ _ _); refine Stop.mk ?_)
  k_with "exec While Name" => ((with_reducible show wpAny _ _ (exec (Stmt.While _ _ _ _) _) _ _ _); refine Stop.mk ?_)
  k_with "exec While Compare cons nil" => ((with_reducible show wpAny _ _ (exec (Stmt.While _ _ _ _) _) _ _ _); refine Stop.mk ?_)
  k_with "call builtin:len" => ((with_reducible show wpAny _ _ (call (Value.builtin "len") [Value.ref _]) _ _ _); k_dflt (refine' lst_len ?k1_647 ?k2_647 ?k3_647 ?_; (case k1_647 => k_asm); (case k2_647 => k_mem); (case k3_647 => lgec_go); k_whole))
  k_with "truthy ref" => (k_dflt (refine' lst_truthy ?k1_648 ?k2_648 ?k3_648 ?_; (case k1_648 => k_asm); (case k2_648 => k_mem); (case k3_648 => lgec_go); k_whole))
  k_with "call builtin:list.append" => ((with_reducible show wpAny _ _ (call (Value.builtin _) [Value.ref _, _]) _ _ _); k_dflt (refine' lst_append ?k1_649 ?k2_649 ?k3_649 ?k4_649 ?_; (case k1_649 => k_asm); (case k2_649 => k_asm); (case k3_649 => k_upd); (case k4_649 => lgec_go); k_whole); intro h' F' N'; (try k_sweep))
  k_with "call builtin:list.extend" => ((with_reducible show wpAny _ _ (call (Value.builtin _) [Value.ref _, Value.ref _]) _ _ _); k_dflt (refine' lst_extend ?k1_650 ?k2_650 ?k3_650 ?k4_650 ?k5_650 ?_; (case k1_650 => k_asm); (case k2_650 => k_asm); (case k3_650 => k_updF); (case k4_650 => k_mem); (case k5_650 => first | (simp only [List.length_take, List.length_drop, List.length_append, List.length_cons, List.length_nil]; lgec_go) | lgec_go); k_whole); intro h' n' F' N'; (try dsimp only at N'); (try k_sweep))
  k_with "binaryOp Add" => ((with_reducible show wpAny _ _ (binaryOp Operator.Add (Value.ref _) (Value.ref _)) _ _ _); k_dflt (refine' lst_add ?k1_651 ?k2_651 ?k3_651 ?k4_651 ?k5_651 ?_; (case k1_651 => k_asm); (case k2_651 => k_asm); (case k3_651 => k_mem); (case k4_651 => k_mem); (case k5_651 => first | (simp only [List.length_cons, List.length_nil]; lgec_go) | lgec_go); k_whole); intro l' h' F' N' l1; (try k_lt l1); (try k_sweep))
  k_with "binaryOp Add ref ref" => ((with_reducible show wpAny _ _ (binaryOp Operator.Add (Value.ref _) (Value.ref _)) _ _ _); k_dflt (refine' lst_add ?k1_652 ?k2_652 ?k3_652 ?k4_652 ?k5_652 ?_; (case k1_652 => k_asm); (case k2_652 => k_asm); (case k3_652 => k_mem); (case k4_652 => k_mem); (case k5_652 => first | (simp only [List.length_cons, List.length_nil]; lgec_go) | lgec_go); k_whole); intro l' h' F' N' l1; (try k_lt l1); (try k_sweep))
  k_with "subscriptTail Name Slice ref ref" => ((with_reducible show wpAny _ _ (subscriptTail _ _ (Value.ref _) (Value.ref _)) _ _ _); k_dflt (refine' lst_slice ?k1_653 ?k2_653 ?k3_653 ?k4_653 ?k5_653 ?k6_653 ?_; (case k1_653 => k_asm); (case k2_653 => k_asm); (case k3_653 => k_mem); (case k4_653 => lgec_go); (case k5_653 => lgec_go); (case k6_653 => lgec_go); k_whole); intro l' h' F' N' l1; (try k_lt l1); (try k_sweep))
  k_with "call builtin:isinstance" => ((with_reducible show wpAny _ _ (call (Value.builtin "isinstance") [_, Value.type "list"]) _ _ _); refine' isl_atom _ _ _ _ _ ?k1_654 ?k2_654 ?k3_654 ?k4_654 ?k5_654 ?k6_654 ?k7_654 ?k8_654 ?_; (case k1_654 => with_reducible assumption); (case k2_654 => assumption); (case k4_654 => k_asm); (case k5_654 => k_asm); (case k7_654 => k_asm); (case k3_654 => tb_rel); (case k6_654 => k_asm); (case k8_654 => k_asm); intro tk')
  k_with "k_ne" => (refine neN ?_; (try dsimp only); first | with_reducible assumption | with_reducible exact Ne.symm (by with_reducible assumption) | with_reducible exact Nat.ne_of_lt (by with_reducible assumption) | with_reducible exact Nat.ne_of_gt (by with_reducible assumption))
  k_with "k_all" => with_reducible exact cell_off (by with_reducible assumption)
  k_with "exec Raise some none" => ((with_reducible show wpAny _ _ (exec (Stmt.Raise (some (Expr.Call (Expr.Name _ _) [Expr.Constant _ _ _] [] _)) none _) _) _ _ _); k_dflt (refine' raise_font ?ks1_657 ?ks2_657 ?ks3_657 ?_; (case ks1_657 => (intro Q9 hq9; walk1; exact hq9)); (case ks2_657 => first | rfl | assumption); (case ks3_657 => k_in); refine' font_use ?k1_657 ?k2_657 ?k3_657 ?k4_657 ?k5_657 ?kK_657 ?kd_657 ?ku_657 ?_; (case k1_657 => k_asm); (case k2_657 => k_asm); (case k3_657 => k_asm); (case k4_657 => k_asm); (case k5_657 => k_asm); (case kK_657 => first | exact rfl | assumption); (case kd_657 => first | exact fastD (by assumption) (by decide) | ktr_room); (case ku_657 => first | exact fastU (by assumption) (by decide) | ktr_units); k_whole; intro e9 t9 d9 h' tk' F' NR9 off9 hte9))
  k_with "leaving ref" => first | (refine' leave_raiseX ?ks1_658 ?ks2_658 NR9 off9 hte9 ?_ ?ksk_658; (case ks1_658 => assumption); (case ks2_658 => assumption); (case ksk_658 => rfl); k_whole; intro h' R' U'; (try dsimp only at R' U' ⊢)) | (refine' leave_onX ?ks1_658 ?ks2_658 ?ks3_658 ?ks4_658 ?_; (case ks3_658 => assumption); (case ks1_658 => assumption); (case ks4_658 => assumption); (case ks2_658 => assumption); k_whole; intro h' R' U'; (try dsimp only at R' U' ⊢))
  k_with "call ref" => ((with_reducible show wpAny _ _ (call (Value.ref 322) _) _ _ _); first | (k_dflt (refine' Calls.use ?k1_659 ?k2_659 ?k3_659 ?k4_659 ?k5_659 ?kK_659 ?C_659 ?kd_659 ?ku_659 ?_; (case k1_659 => k_asm); (case k2_659 => k_asm); (case k3_659 => k_asm); (case k4_659 => k_asm); (case k5_659 => k_asm); (case kK_659 => first | exact rfl | assumption); (case C_659 => exact fetch_spec _ _ _ _ _ _ _ _ _ _ _ _ _ _ _ (by k_mem) (by k_mem) (by k_mem) (by assumption) (by assumption) (by assumption) (by assumption) (by tb_rel)); (case kd_659 => first | exact fastD (by assumption) (by decide) | ktr_room); (case ku_659 => first | exact fastU (by assumption) (by decide) | ktr_units); k_whole; intro r' n' h' tk' F' N' hr'; refine hideG ?_; intro G0; (obtain ⟨e', en'⟩ := hr'); subst e'; replace en' := Eq.symm en'; subst en'; (dsimp only [G0]); (try clear G0); (try k_sweep))) | refine Stop.mk ?_)
  k_with "call ref" => ((with_reducible show wpAny _ _ (call (Value.ref 350) _) _ _ _); first | (k_dflt (refine' CallsE.use ?k1_660 ?k2_660 ?k3_660 ?k4_660 ?k5_660 ?kK_660 ?C_660 ?kd_660 ?ku_660 ?_ ?_; (case k1_660 => k_asm); (case k2_660 => k_asm); (case k3_660 => k_asm); (case k4_660 => k_asm); (case k5_660 => k_asm); (case kK_660 => first | exact rfl | assumption); (case C_660 => exact whole_mono (by assumption) (by tb_rel)); (case kd_660 => first | exact fastD (by assumption) (by decide) | ktr_room); (case ku_660 => first | exact fastU (by assumption) (by decide) | ktr_units)); all_goals (first | (intro e9 h9 tk9 hb9 hT9; (have hT8 : Thrown _ _ _ _ _ _ _ _ := hT9); clear hT9; obtain ⟨t9, vs9, g9, F9, U9, R9⟩ := hT8; (try dsimp only)) | (intro r' n' h' tk' F' N' hr'; refine hideG ?_; intro G0; obtain ⟨e', ⟨i9, t9, ev', ea', hi9⟩, en'⟩ := hr'; (try subst ev'); subst e'; replace en' := Eq.symm en'; subst en'; (dsimp only [G0]); (try clear G0); (try k_sweep)))) | refine Stop.mk ?_)
  k_with "call ref" => ((with_reducible show wpAny _ _ (call (Value.ref 343) _) _ _ _); first | (k_dflt (refine' CallsE.use ?k1_661 ?k2_661 ?k3_661 ?k4_661 ?k5_661 ?kK_661 ?C_661 ?kd_661 ?ku_661 ?_ ?_; (case k1_661 => k_asm); (case k2_661 => k_asm); (case k3_661 => k_asm); (case k4_661 => k_asm); (case k5_661 => k_asm); (case kK_661 => first | exact rfl | assumption); (case C_661 => exact numof_mono (by assumption) (by tb_rel)); (case kd_661 => first | exact fastD (by assumption) (by decide) | ktr_room); (case ku_661 => first | exact fastU (by assumption) (by decide) | ktr_units)); all_goals (first | (intro e9 h9 tk9 hb9 hT9; (have hT8 : Thrown _ _ _ _ _ _ _ _ := hT9); clear hT9; obtain ⟨t9, vs9, g9, F9, U9, R9⟩ := hT8; (try dsimp only)) | (intro r' n' h' tk' F' N' hr'; refine hideG ?_; intro G0; obtain ⟨e', ha9, en'⟩ := hr'; subst e'; replace en' := Eq.symm en'; subst en'; (dsimp only [G0]); (try clear G0); (try k_sweep)))) | refine Stop.mk ?_)
  k_with "subscriptTail Name Name ref int" => ((with_reducible show wpAny _ _ (subscriptTail _ _ (Value.ref _) (Value.int _ _)) _ _ _); k_dflt (refine' lst_item ?k1_662 ?k2_662 ?k3_662 ?k4_662 ?k5_662 ?_; (case k1_662 => k_asm); (case k2_662 => k_mem); (case k3_662 => lgec_go); (case k4_662 => lgec_go); (case k5_662 => assumption)))
  k_with "subscriptTail Name BinOp ref int" => ((with_reducible show wpAny _ _ (subscriptTail _ _ (Value.ref _) (Value.int _ _)) _ _ _); k_dflt (refine' lst_item ?k1_663 ?k2_663 ?k3_663 ?k4_663 ?k5_663 ?_; (case k1_663 => k_asm); (case k2_663 => k_mem); (case k3_663 => lgec_go); (case k4_663 => lgec_go); (case k5_663 => assumption)))
  k_with "call builtin:isinstance" => ((with_reducible show wpAny _ _ (call (Value.builtin "isinstance") [Value.none, Value.type "list"]) _ _ _); refine' isl_atom _ [] _ _ .none AtomIn.none nofun (fun _ h => nomatch h) ?k4_664 ?k5_664 ?k6_664 ?k7_664 ?k8_664 ?_; (case k5_664 => k_asm); (case k7_664 => k_asm); (case k4_664 => k_asm); (case k6_664 => k_asm); (case k8_664 => k_asm); intro tk')
  k_with "exec Raise some none" => ((with_reducible show wpAny _ _ (exec (Stmt.Raise (some (Expr.Call (Expr.Name _ _) [Expr.Constant _ _ _] [] _)) none _) _) _ _ _); k_dflt (refine' raise_font2 ?ks1_665 ?ks2_665 ?ks3_665 ?_; (case ks1_665 => (intro Q9 hq9; walk1; exact hq9)); (case ks2_665 => first | rfl | assumption); (case ks3_665 => k_in); refine' font_use2 ?k1_665 ?k2_665 ?k3_665 ?k4_665 ?k5_665 ?kK_665 ?kd_665 ?ku_665 ?_; (case k1_665 => k_asm); (case k2_665 => k_asm); (case k3_665 => k_asm); (case k4_665 => k_asm); (case k5_665 => k_asm); (case kK_665 => first | exact rfl | assumption); (case kd_665 => first | exact fastD (by assumption) (by decide) | ktr_room); (case ku_665 => first | exact fastU (by assumption) (by decide) | ktr_units); k_whole; intro e9 t9 d9 h' tk' F' NR9 off9 hte9))
  k_with "eval ListComp" => ((with_reducible show wpAny _ _ (eval (PySem.Expr.ListComp _ _ _ _) _) _ _ _); refine Stop.mk ?_)
  k_with "exec Assign cons ListComp" => ((with_reducible show wpAny _ _ (exec (PySem.Stmt.Assign _ (PySem.Expr.ListComp _ _ _ _) _) _) _ _ _); refine Stop.mk ?_)
  trivial
theorem numsQ_snoc : ∀ {as : List Atom} {a : Atom} {qs : List Num} {q : Num}, numsQ as = some qs → numQ a = some q → numsQ (as ++ [a]) = some (qs ++ [q])
  | [], a, qs, q, h, h2 => by
    cases h
    rw [List.nil_append, numsQ, h2]
    rfl
  | x :: as, a, qs', q, h, h2 => by
    rw [numsQ] at h
    cases hx : numQ x with
    | none => rw [hx] at h; cases numsQ as <;> cases h
    | some q0 =>
      cases hs : numsQ as with
      | none => rw [hx, hs] at h; cases h
      | some qs0 =>
        rw [hx, hs] at h
        cases h
        rw [List.cons_append, numsQ, hx, numsQ_snoc hs h2]
        rfl
noncomputable def NumsTo (w : World) (ro : Led) (as : List Atom) (i : Nat) (ys : List Value) : Prop := ∃ qs, numsQ (as.take i) = some qs ∧ NumsIn2 w ro ys qs
theorem NumsTo.zero {w : World} {ro : Led} {as : List Atom} : NumsTo w ro as 0 [] := ⟨[], rfl, .nil⟩
theorem NumsTo.succ {w : World} {ro : Led} {as : List Atom} {i : Nat} {ys : List Value} {v : Value} {a : Atom} (h : NumsTo w ro as i ys) (ha : as[i]? = some a) (hA : AtomIn w ro v a) (hn : numA a = true) : NumsTo w ro as (i + 1) (ys ++ [v]) := by
  obtain ⟨qs, h1, h2⟩ := h
  rw [← numQ_some] at hn
  obtain ⟨q, hq⟩ := Option.isSome_iff_exists.mp hn
  refine ⟨qs ++ [q], ?_, h2.snoc (hA.num hq)⟩
  rw [List.take_add_one, ha]
  exact numsQ_snoc h1 hq
theorem NumsTo.all {w : World} {ro : Led} {as : List Atom} {n : Nat} {ys : List Value} (h : NumsTo w ro as n ys) (hn : n = as.length) : ∃ qs, numsQ as = some qs ∧ NumsIn2 w ro ys qs := by
  subst hn
  obtain ⟨qs, h1, h2⟩ := h
  rw [List.take_length] at h1
  exact ⟨qs, h1, h2⟩
set_option maxHeartbeats 400000 in
inductive WdJ (w : World) (news ro : Led) (la ra L : Addr) (oc : Obj) (kvs : List (Int × Value)) (lvs : List Value) (ps : List Part) (m : Str → Option Value) : Nat → Led → Prop
  | mk (p : Nat) (tp : Tok) (pp : List Part) (done : List RRow) (dvs : List Value) (dn : Nat) (tnew : Led) : Has m [(Str.ofString "parts", .ref la), (Str.ofString "place", .int p tp), (Str.ofString "rows", .ref ra)] → (∀ y ∈ tnew ++ news, y.1 ≠ ra) → (∀ y ∈ tnew ++ news, y.1 ≠ L + 1) → Apart news tnew →
    LPts w ro kvs (lvs.drop p) pp → WidesIn w (tnew ++ ro) dvs done → ReadsOn ps done pp → dvs.length ≤ p → p ≤ lvs.length → WdJ w news ro la ra L oc kvs lvs ps m pp.length ((ra, PySem.W.listOf dvs.toArray dn) :: (L + 1, oc) :: (tnew ++ news))
theorem wide_spec (w : World) (news ro : Led) (S sd T T2 la : Addr) (oT : Obj) (k1 k2 : Tok) (n k : Nat) (kvs : List (Int × Value)) (lvs : List Value) (ps : List Part) (hS : (S, instObj 332 sd) ∈ news) (hsd : (sd, shelfDict w T T2 k1 k2 n) ∈ news) (hT : (T, oT) ∈ news) (hk : oT.IsDictOf (PySem.intKind PySem.Challenge.rw_nn0211_01.row.prog w) kvs) (lo : (T == sysModules) = false)
    (hla : (la, PySem.W.listOf lvs.toArray k) ∈ news) (hL : LPts w ro kvs lvs ps) (hro : ∀ y ∈ ro, y ∈ news) (hz : lvs.length ≤ 20) :
    CallsE w 355 12 [.ref S, .ref la] news (fun r news' => ∃ a vs k new rows, r = .ref a ∧ news' = new ++ news ∧ Apart news new ∧ readP ps = some rows ∧ (a, PySem.W.listOf vs.toArray k) ∈ new ∧ WidesIn w (new ++ ro) vs rows ∧ vs.length ≤ 20) (readP ps = none) := by
  intro mean mg mb dp un gd cn cs ad ccd cl outer A₀ base h₀ L m s Q E B F X N Tc hk1 hd hu hret herr
  k_steps
  refine Stop.on ?_
  rename_i oc dc ra _ hra lra _ _ _ F1 N1
  refine While_inv2 (n₀ := ps.length) (fun n' m news' => WdJ w news ro la ra L' oc kvs lvs ps m n' news') F1 N1 ?h0 ?turn (by passes_own)
  case h0 =>
    exact .mk 0 _ ps [] [] _ [] ⟨rfl, rfl, rfl, trivial⟩ (allLt_off lra) (cell_off l1) Apart.nil hL .nil (readsOn_start ps) (Nat.le_refl _) (Nat.zero_le _)
  case turn =>
    rintro n' m₁ news₁ h₁ tk₁ F2 N2 hX9
    revert N2
    obtain ⟨p, tp, pp, done, dvs, dn, tnew, hma, oR, oC, hAp, hP, hR, hOn, hdp, hpl⟩ := hX9
    intro N2
    replace F2 := pinned F2 hma
    simp only [pin] at F2
    have hro1 : ∀ y ∈ ro, y ∈ tnew ++ news := sub_appR hro
    have hnt : ∀ y ∈ news, y ∈ tnew ++ news := sub_appR sub_self
    have hS1 := hnt _ hS
    have hsd1 := hnt _ hsd
    have hT1 := hnt _ hT
    have hla1 := hnt _ hla
    generalize htl : tnew ++ news = tail at *
    generalize hdr : lvs.drop p = rest at hP
    have hrl := drop_len hdr
    have hkeep : ∀ q ∈ news, q ∈ (ra, PySem.W.listOf dvs.toArray dn) :: (L' + 1, oc) :: tail := fun q hq => .tail _ (.tail _ (hnt q hq))
    (refine hideG ?_; intro G0)
    cases hP with
    | nil =>
      (dsimp only [G0]); clear G0
      have hrl2 : lvs.length = p := by simp only [List.length_nil] at hrl; lgec_go
      k_steps
      rename News h₀ L _ ((ra, _) :: _) => NN
      subst htl
      exact hret _ _ _ _ (by k_asm) (wide_end NN) ⟨ra, dvs, dn, (ra, PySem.W.listOf dvs.toArray dn) :: tnew, done, rfl, rfl, Apart.cons (fun q hq => oR q (hnt q hq)) hAp, readsOn_end hOn, .head _, hR.mono (fun y hy => .tail _ hy), by lgec_go⟩
    | cons hp0 hP1 =>
      (dsimp only [G0]); clear G0
      rename_i v0 p0 vs1 ps1
      (refine hideG ?_; intro G0)
      obtain ⟨w0, hL0, hA0⟩ := hp0.val
      (dsimp only [G0]); clear G0
      have hg0 := get_at0 hdr
      (refine hideG ?_; intro G0)
      cases hP1 with
      | nil =>
        (dsimp only [G0]); clear G0
        have hrl2 : lvs.length = p + 1 := by simp only [List.length_cons, List.length_nil] at hrl; lgec_go
        k_steps
        · exact herr _ _ _ (readsOn_no hOn (no_one _)) ⟨_, _, _, by assumption, U', raisedK_sub R' hkeep⟩
        · exact herr _ _ _ (readsOn_no hOn (no_one _)) ⟨_, _, _, by assumption, U', raisedK_sub R' hkeep⟩
      | cons hp1 hP2 =>
        (dsimp only [G0]); clear G0
        rename_i v1 p1 vs2 ps2
        have hg1 := get_at1 hdr
        (refine hideG ?_; intro G0)
        cases hp1 with
        | one hL1 hA1 hs1 =>
          (dsimp only [G0]); clear G0
          (refine hideG ?_; intro G0)
          cases hP2 with
          | nil =>
            (dsimp only [G0]); clear G0
            have hrl2 : lvs.length = p + 2 := by simp only [List.length_cons, List.length_nil] at hrl; lgec_go
            k_steps
            · exact herr _ _ _ (readsOn_no hOn no_two) ⟨_, _, _, by assumption, U', raisedK_sub R' hkeep⟩
            · exact herr _ _ _ (readsOn_no hOn (no_first' (codeP_atom p0 ▸ hb9))) ⟨_, _, _, by assumption, U', raisedK_sub R' hkeep⟩
          | cons hp2 hP3 =>
            (dsimp only [G0]); clear G0
            rename_i v2 p2 vs3 ps3
            (refine hideG ?_; intro G0)
            obtain ⟨w2, hL2, hA2⟩ := hp2.val
            (dsimp only [G0]); clear G0
            have hg2 := get_at2 hdr
            have hrl2 : lvs.length = p + 3 + vs3.length := by simp only [List.length_cons] at hrl; lgec_go
            k_steps
            · rename_i i0 _ ea0 hi0 _ _ _ _ _ _ _ _ _ r1 _ _ _ _ _ ll _ t4 t3 ll1 DD _ t2 t1 t0 l0 _ F9 N9
              (refine hideG ?_; intro G0)
              obtain ⟨q2, hq2, hn2⟩ := numP_ok hA2 ha9
              (dsimp only [G0]); clear G0
              have hi1 := hA0.le ea0
              have hi2 := hA1.le ea'
              have oll := allLt_off ll1
              have oDD := allLt_off l0
              have n1 : @Ne Nat DD ra := Ne.symm (Nat.ne_of_lt t1)
              have n2 : @Ne Nat DD (L' + 1) := Ne.symm (Nat.ne_of_lt t0)
              have n3 : @Ne Nat ll ra := Ne.symm (Nat.ne_of_lt t4)
              have n4 : @Ne Nat ll (L' + 1) := Ne.symm (Nat.ne_of_lt t3)
              subst htl
              refine wstep (n' := ps3.length) (by k_asm) (news_wd N9) (Nat.lt_succ_of_lt (Nat.lt_succ_of_lt (Nat.lt_succ_self _))) (.mk (p + 3) _ ps3 (done ++ [.span i0 i9 q2]) (dvs ++ [.ref DD]) _ ((DD, _) :: (ll, _) :: tnew) ⟨rfl, read_int_eq rfl (by lgec_go), rfl, trivial⟩ (off_wd n1 n3 oR) (off_wd n2 n4 oC) (Apart.cons (fun q hq => oDD q (hnt q hq)) (Apart.cons (fun q hq => oll q (hnt q hq)) hAp)) ?ld ((hR.mono ?s1).snoc ?wr) (readsOn_span hOn (codeP_some ea0 hi0) (codeA_some' ea' hi9) hq2) (by rw [List.length_append, List.length_singleton]; lgec_go) (by lgec_go))
              case ld => rw [show lvs.drop (p + 3) = vs3 from (drop_get (drop_get (drop_get hdr).2).2).2]; exact hP3
              case s1 => exact fun y hy => .tail _ (.tail _ hy)
              case wr => exact .span (.head _) (.tail _ (.head _)) (hn2.mono fun y hy => .tail _ (.tail _ (List.mem_append_right _ hy))) hi0 hi1 hi9 hi2
            · exact herr _ _ _ (readsOn_no hOn (no_num (numP_none hb9))) ⟨_, _, _, by assumption, U', raisedK_sub R' hkeep⟩
            · exact herr _ _ _ (readsOn_no hOn (no_last hb9)) ⟨_, _, _, by assumption, U', raisedK_sub R' hkeep⟩
            · exact herr _ _ _ (readsOn_no hOn (no_first' (codeP_atom p0 ▸ hb9))) ⟨_, _, _, by assumption, U', raisedK_sub R' hkeep⟩
        | list hL1 hm1 hA1 hl1 =>
          (dsimp only [G0]); clear G0
          rename_i l9 us kk as9
          have hm1' := hro1 _ hm1
          have hS9 : AtomIn w ro (.ref l9) .sev := .sev hm1
          have hrl2 : lvs.length = p + 2 + vs2.length := by simp only [List.length_cons] at hrl; lgec_go
          have hul : ((us.length : Int)) ≤ 6 := by lgec_go
          have hfb : ∀ i, atomP p0 = .int i → i ≤ 1000 := fun i e => hA0.le e
          k_steps
          · refine Stop.on ?_
            have hi1 := hA0.le ea'
            refine ListComp_E (base := base) (fun _ => True) (F₀ := by k_asm) (by rfl) (by rfl) (by with_unfolding_all rfl) (by decide) (by rfl) (by decide) (by rfl) ?_
            walk1
            refine ⟨l9, us, kk, _, fun i ys nw => nw = (ra, PySem.W.listOf dvs.toArray dn) :: (L' + 1, oc) :: tail ∧ NumsTo w ro as9 i ys, (ra, PySem.W.listOf dvs.toArray dn) :: (L' + 1, oc) :: tail, numsQ as9 = none, by rfl, by k_asm, by k_asm, by k_mem, by lgec_go, ⟨rfl, .zero⟩, ?jl, ?jk, ?turnE, ?finE, ?errE⟩
            case jl =>
              rintro i ys nw ⟨rfl, _⟩
              k_mem
            case jk =>
              rintro i ys nw ⟨rfl, _⟩
              exact fun q hq => hq
            case turnE =>
              rintro i ys nw v I oI C oC D m₂ h tk E' hv ⟨rfl, hn⟩ hC hx F2 N2 off ne hE
              (refine hideG ?_; intro G0)
              obtain ⟨v9, a9, hx9, hL9, hA9⟩ := hA1.pick i v hv
              (dsimp only [G0]); clear G0
              k_steps
              · exact LCg.CompEnd.intro (by k_asm) N' _ (fun p hp => hp) off trivial ⟨rfl, hn.succ hx9 hA9 ha9⟩
              · exact hE _ _ _ (numsQ_none (List.mem_of_getElem? hx9) hb9) ⟨_, _, _, by assumption, U9, R9⟩
            case finE =>
              rintro D h tk ys nw ⟨rfl, hn⟩ F2 N2 off
              (refine hideG ?_; intro G0)
              obtain ⟨qs, hq, hn⟩ := hn.all (hA1.length)
              (dsimp only [G0]); clear G0
              have off1 := off _ (.head _)
              have off2 := off _ (.tail _ (.head _))
              have off3 : ∀ q ∈ tail, q.1 ≠ D := fun q hq => off q (.tail _ (.tail _ hq))
              dsimp only at off1 off2
              have hqn := hn.length
              have hlq := (numsQ_at hq).1
              have hul2 := hA1.length
              k_steps
              rename_i DD _ t2 t1 t0 l0 _ F9 N9
              have oDD := allLt_off l0
              have n1 : @Ne Nat DD ra := Ne.symm (Nat.ne_of_lt t1)
              have n2 : @Ne Nat DD (L' + 1) := Ne.symm (Nat.ne_of_lt t0)
              subst htl
              refine wstep (n' := ps2.length) (by k_asm) (news_wd N9) (Nat.lt_succ_of_lt (Nat.lt_succ_self _)) (.mk (p + 2) _ ps2 (done ++ [.many i9 qs]) (dvs ++ [.ref DD]) _ ((DD, _) :: (D, _) :: tnew) ⟨rfl, read_int_eq rfl (by lgec_go), rfl, trivial⟩ (off_wd n1 (Ne.symm off1) oR) (off_wd n2 (Ne.symm off2) oC) (Apart.cons (fun q hq => oDD q (hnt q hq)) (Apart.cons (fun q hq => off3 q (hnt q hq)) hAp)) ?ld ((hR.mono ?s1).snoc ?wr) (readsOn_many hOn (codeP_some ea' hi9) hq) (by rw [List.length_append, List.length_singleton]; lgec_go) (by lgec_go))
              case ld => rw [show lvs.drop (p + 2) = vs2 from (drop_get (drop_get hdr).2).2]; exact hP2
              case s1 => exact fun y hy => .tail _ (.tail _ hy)
              case wr =>
                have hqc : (us.length : Int) = (qs.length : Int) := by lgec_go
                simp only [hqc]
                exact .many (.head _) (.tail _ (.head _)) (hn.mono fun y hy => .tail _ (.tail _ (List.mem_append_right _ hy))) hi9 hi1 (by lgec_go)
            case errE =>
              intro e t vsx g' fl h6 tk6 hbad F2 U2 R2
              dsimp only
              refine leave_anyX (by k_asm) F2 R2 U2 fun h7 R7 U7 => ?_
              dsimp only
              exact herr _ _ _ (readsOn_no hOn (no_many hbad)) ⟨_, _, _, by assumption, U7, raisedK_sub R7 hkeep⟩
          · exact herr _ _ _ (readsOn_no hOn (no_first' (codeP_atom p0 ▸ hb9))) ⟨_, _, _, by assumption, U', raisedK_sub R' hkeep⟩

end
section
theorem kw_FT_0 : True := by
  k_with_none
  k_with "om" => first | decide | (with_reducible first | apply om28 <;> assumption | apply om105 <;> assumption)
  k_with "k_ne" => (refine neN ?_; (try dsimp only); first | with_reducible assumption | lgec_go)
  k_with "fold_depth" => first | ((with_reducible show wpAny _ (Around.deeper (ktrTop _ _ _ _ _ _ _ _ _ _) _) _ _ _ _); refine wp_fold4 ?_; intro A1 q0 e0) | (refine wp_fold2 ?_; intro q00 e00)
  k_with "fold_lay" => ((show wpAny _ _ _ _ _ _); first | (fail_if_success k_fold) | ((try clear qf); refine wp_fold ?_; intro qf))
  k_with "k_steps" => ((try dsimp only); (try fold_lay); repeat' (first | (k_unfold; (try dsimp only)) | (k_end; wrow_close) | (walk1; (try ((first | (with_reducible show wpAny _ _ (exec _ _) _ _ _) | (with_reducible show wpAny _ _ (execs _ _) _ _ _)); (try dsimp only); fold_lay))) | (dsimp only; walk1) | (leave1; walk_say "STEP leave1"; try dsimp only) | fail "no step"))
  k_with "k_room" => first | exact fastR (by assumption) | ktr_room | (simp only [A1]; ktr_room)
  k_with "k_units" => first | ktr_units | (simp only [A1]; ktr_units)
  k_with "k_enter" => (refine' code_defC ?k1_673 ?k2_673 ?k3_673 ?k4_673 ?k5_673 ?kA_673 ?kF_673 ?kK_673 ?k6_673 ?k7_673 ?k8_673 ?k9_673 ?kB_673 ?kD_673 ?_ ?c2_673 ?c3_673 ?c4_673; (case kA_673 => exact rfl); (case kF_673 => exact rfl); (case kK_673 => assumption); (case k1_673 => k_asm); (case k2_673 => k_asm); (case k3_673 => k_asm); (case k4_673 => k_asm); (case k5_673 => k_asm); (case k6_673 => k_is); (case k7_673 => k_is); (case k8_673 => k_room); (case k9_673 => first | exact BindsTo.of_eq rfl | exact binds_K (by k_in) rfl (by k_is) rfl rfl rfl); (case kB_673 => exact rfl); (case kD_673 => decide +kernel); (case c2_673 => exact rfl); (case c3_673 => exact rfl); (case c4_673 => exact rfl); k_whole; intro g' L' h' tk' cells' FG' F' N' Y' B' X' T' l1; (try k_lt l1); refine hideG ?_; intro G0; k_cells Y'; (dsimp only [G0]); (try clear G0); (try simp only [List.cons_append, List.nil_append] at N'); (try dsimp only); (try fold_depth))
  k_with "k_enter" => (refine' code_def ?k1_674 ?k2_674 ?k3_674 ?k4_674 ?k5_674 ?kA_674 ?kF_674 ?kK_674 ?k6_674 ?k7_674 ?k8_674 ?k9_674 ?kB_674 ?_ ?c2_674 ?c3_674 ?c4_674 ?c5_674; (case kA_674 => exact rfl); (case kF_674 => exact rfl); (case kK_674 => assumption); (case k1_674 => k_asm); (case k2_674 => k_asm); (case k3_674 => k_asm); (case k4_674 => k_asm); (case k5_674 => k_asm); (case k6_674 => k_is); (case k7_674 => k_is); (case k8_674 => k_room); (case k9_674 => first | exact BindsTo.of_eq rfl | exact binds_K (by k_in) rfl (by k_is) rfl rfl rfl); (case c5_674 => decide); (case kB_674 => exact locs rfl); (case c2_674 => exact rfl); (case c3_674 => exact rfl); (case c4_674 => exact rfl); k_whole; intro g' L' h' FG' F' N' B' X' T'; (try dsimp only); (try fold_depth))
  trivial
section
variable {prog : Program} {w : World} {A : Around} {E : Value → Shared → Prop} {s : Shared} {h₀ : Heap} {env : Env}
inductive T3T (prog : Program) (w : World) (A : Around) (E : Value → Shared → Prop) (h₀ : Heap) (env : Env) (x y z : Str) (body : List Stmt) (Q : Flow → Shared → Prop) (s₁ : Shared) (news : Led) (J : Nat → (Str → Option Value) → Prop) (i : Nat) (m₁ : Str → Option Value) : Value → Prop
  | mk (t : Addr) (v₁ v₂ v₃ : Value) (nt : Nat) : (t, ({ cls := .type "tuple", data := .seq #[v₁, v₂, v₃] nt } : Obj)) ∈ news → (∀ I oI m₂ h tk, m₂ x = some v₁ → m₂ y = some v₂ → m₂ z = some v₃ → (∀ n, n ≠ x → n ≠ y → n ≠ z → m₂ n = m₁ n) → (∀ q ∈ news, q.1 ≠ I) → Fr h₀ env.locals h m₂ → News h₀ env.locals h ((I, oI) :: news) →
          wpAny (model prog w) A (execs body env) (TurnJ h₀ env.locals I oI (fun m' nw => J (i + 1) m' ∧ nw = news) { s₁ with heap := h, toks := tk } Q) E { s₁ with heap := h, toks := tk }) → T3T prog w A E h₀ env x y z body Q s₁ news J i m₁ (.ref t)
inductive T3G (prog : Program) (w : World) (A : Around) (E : Value → Shared → Prop) (h₀ : Heap) (env : Env) (x y z : Str) (body : List Stmt) (Q : Flow → Shared → Prop) (s₁ : Shared) : Value → Prop
  | mk (l : Addr) (vs : List Value) (k : Nat) (m₀ : Str → Option Value) (news : Led) (J : Nat → (Str → Option Value) → Prop) : A.handled = none → Fr h₀ env.locals s₁.heap m₀ → News h₀ env.locals s₁.heap news → (l, PySem.W.listOf vs.toArray k) ∈ news → J 0 m₀ → (∀ i v m₁, vs[i]? = some v → J i m₁ → T3T prog w A E h₀ env x y z body Q s₁ news J i m₁ v) → (∀ m₁ h tk, J vs.length m₁ → Fr h₀ env.locals h m₁ → News h₀ env.locals h news → Q .next { s₁ with heap := h, toks := tk }) → T3G prog w A E h₀ env x y z body Q s₁ (.ref l)
inductive T3I (h₀ : Heap) (L I l : Addr) (vs : List Value) (news : Led) (J : Nat → (Str → Option Value) → Prop) (s₁ : Shared) : Nat → Shared → Prop
  | mk (h' : Heap) (tk : Nat) (m' : Str → Option Value) (i : Nat) : h'.IsListIter I l i → Fr h₀ L h' m' → News h₀ L h' news → J i m' → i ≤ vs.length → T3I h₀ L I l vs news J s₁ (vs.length + 1 - i) { s₁ with heap := h', toks := tk }
theorem For_T3 {x y z : Str} {px py pz tp pos : Pos} {tk0 : Nat} {iter : PySem.Expr} {body : List Stmt} {Q : Flow → Shared → Prop} {m : Str → Option Value} (F₀ : Fr h₀ env.locals s.heap m)
    (hx : env.kindOf x = some .local) (hy : env.kindOf y = some .local) (hz : env.kindOf z = some .local)
    (hp : (env.scope.kind == .class || (env.scope.kind == .module && env.locals != env.globals)) = false) (hxy : x ≠ y) (hxz : x ≠ z) (hyz : y ≠ z)
    (h : wpAny (model prog w) A (eval iter env) (fun xv s₁ => T3G prog w A E h₀ env x y z body Q s₁ xv) E s)
    (hs : ∀ x, foldedSetIterable iter env x = pure x := by intro _; rfl)
    (hE : PassesOwn (model prog w) A env E := by passes_own) :
    wpAny (model prog w) A (exec (.For (.Tuple [.Name x px, .Name y py, .Name z pz] tk0 tp) iter body [] pos) env) Q E s := by
  refine wpAny_For (wpAny_mono h (fun xv s₁ hq => ?_) fun _ _ e => e) hs
  (refine hideG ?_; intro G0)
  obtain ⟨l, vs, k, m₀, news, J, hh, F, N, hm, h0, turn, done⟩ := hq
  (dsimp only [G0]); clear G0
  have hl : s₁.heap.IsList l vs.toArray := ⟨_, (N _ hm).1, rfl, _, rfl⟩
  have hlt : l < s₁.heap.objs.size := Heap.lt_size (N _ hm).1
  refine wpAny_pyIter_list hl ?_
  have up : ∀ b o, s₁.heap.get? b = some o → (s₁.heap.push { cls := .type "list_iterator", data := .fields #[.ref l, .int 0 0] }).get? b = some o := fun b o e => Heap.get?_push_of_some _ e
  have hI₀ : h₀.get? s₁.heap.objs.size = none := next_is_new F
  generalize hIs : s₁.heap.objs.size = I at *
  have hLI : env.locals ≠ I := fun e => absurd F.ns.lt (by rw [hIs]; exact e ▸ Nat.lt_irrefl _)
  have hNlt : ∀ q ∈ news, q.1 < I := fun q hq => hIs ▸ Heap.lt_size (N q hq).1
  have hoff : ∀ q ∈ news, q.1 ≠ I := fun q hq => Nat.ne_of_lt (hNlt q hq)
  have old : ∀ b o, h₀.get? b = some o → b ≠ I := fun b o e q => by rw [q, hI₀] at e; cases e
  refine codeAny_forLoop_any (R := fun r s' => match r with | .ok f => Q f s' | .error e => cameBackBy (model prog w) A env E e s')
    (T3I h₀ env.locals I l vs news J s₁) ?_ (vs.length + 1)
    ⟨_, s₁.toks, m₀, 0, ⟨_, hIs ▸ Heap.get?_push_size _ rfl, rfl, rfl⟩, F.keeps up, N.grown up, h0, Nat.zero_le _⟩
  rintro n s' ⟨h', tk, m', i, hit, F', N', hJ, hi⟩
  have hl' : h'.IsList l vs.toArray := ⟨_, (N' _ hm).1, rfl, _, rfl⟩
  have next : ∀ h₁ : Heap, Heap.ExtBut I h' h₁ → Fr h₀ env.locals h₁ m' ∧ News h₀ env.locals h₁ news := fun h₁ hk₁ =>
    ⟨⟨F'.ns.at' fun o e => hk₁ _ o hLI e, fun b o e => hk₁ b o (old b o e) (F'.keep b o e), F'.above⟩, fun p hp => ⟨hk₁ _ _ (hoff p hp) (N' p hp).1, (N' p hp).2⟩⟩
  by_cases hlt : i < vs.length
  · obtain ⟨v, hv⟩ : ∃ v, vs[i]? = some v := ⟨vs[i], List.getElem?_eq_getElem hlt⟩
    refine wpAny_pyNext_list_item hit hl' (x := v) (by simpa using hv) fun h₁ hit₁ hs₁ => ?_
    obtain ⟨F₁, N₁⟩ := next h₁ hs₁.extBut
    have hT := turn i v m' hv hJ
    clear turn
    (refine hideG ?_; intro G0)
    obtain ⟨t, v₁, v₂, v₃, nt, hmt, step⟩ := hT
    (dsimp only [G0]); clear G0
    have ht : IsTup h₁ t #[v₁, v₂, v₃] := ⟨_, (N₁ _ hmt).1, rfl, nt, rfl⟩
    refine wpAny_letOwnedTupleGo_listiter hit₁ ?_
    refine assign_Tuple_tuple hh ht rfl rfl fun h₅ he => ?_
    have he' : ∀ b o, h₁.get? b = some o → h₅.get? b = some o := fun b o e => he b o (Nat.ne_of_lt (Heap.lt_size e)) e
    have F₅ := F₁.keeps he'
    have N₅ := N₁.grown he'
    refine assignInOrder_cons (wpAny_assign_Name (wpAny_storeName_local hx F₅.ns (fun h₂ hn₂ hs₂ => ?_) hp))
    have F₂ := F₅.set hn₂ hs₂
    refine assignInOrder_cons (wpAny_assign_Name (wpAny_storeName_local hy F₂.ns (fun h₃ hn₃ hs₃ => ?_) hp))
    have F₃ := F₂.set hn₃ hs₃
    refine assignInOrder_cons (wpAny_assign_Name (wpAny_storeName_local hz F₃.ns (fun h₄ hn₄ hs₄ => ?_) hp))
    have F₄ := F₃.set hn₄ hs₄
    refine assignInOrder_nil ?_
    have N₄ : News h₀ env.locals h₄ news := ((N₅.set hs₂).set hs₃).set hs₄
    have up4 : ∀ b o, b ≠ env.locals → h₁.get? b = some o → h₄.get? b = some o := fun b o hb e => hs₄.extBut b o hb (hs₃.extBut b o hb (hs₂.extBut b o hb (he' b o e)))
    (refine hideG ?_; intro G0)
    obtain ⟨oI, hI4, hcI, hdI⟩ : h₄.IsListIter I l (i + 1) := hit₁.at fun o e => up4 _ o (Ne.symm hLI) e
    (dsimp only [G0]); clear G0
    refine wpAny_passesOwn hE (wpAny_mono (step I oI _ h₄ _ ?_ ?_ ?_ ?_ hoff F₄ ?_) (fun f s₃ h₃ => ?_) fun _ _ e => e)
    · simp [hxy, hxz]
    · simp [hyz]
    · simp
    · intro n a b c
      simp [a, b, c]
    · intro p hp
      rcases List.mem_cons.mp hp with rfl | hp
      · exact ⟨hI4, Ne.symm hLI, hI₀⟩
      · exact N₄ p hp
    · have fin : (∃ h' tk m' news', s₃ = { s₁ with heap := h', toks := tk } ∧ Fr h₀ env.locals h' m' ∧ News h₀ env.locals h' ((I, oI) :: news') ∧ (∀ q ∈ news', q.1 ≠ I) ∧ (J (i + 1) m' ∧ news' = news)) →
          ∃ m, m < vs.length + 1 - i ∧ T3I h₀ env.locals I l vs news J s₁ m s₃ := by
        rintro ⟨h9, tk9, m9, news9, rfl, F9, N9, ho, hJ9, e9⟩
        replace e9 := Eq.symm e9
        subst e9
        exact ⟨_, by lgec_go, h9, tk9, m9, i + 1, ⟨_, (N9 _ (.head _)).1, hcI, hdI⟩, F9, fun p hp => N9 p (.tail _ hp), hJ9, hlt⟩
      cases f with
      | ret v => exact h₃
      | brk => exact h₃
      | next => exact fin h₃
      | cont => exact fin h₃
  · have hin : i = vs.length := by lgec_go
    subst hin
    refine wpAny_pyNext_list_end hh hit hl' (by simp) fun h₁ hs₁ => wpAny_execs_nil ?_
    obtain ⟨F₁, N₁⟩ := next h₁ hs₁
    exact done m' h₁ _ hJ F₁ N₁
end

end
section
theorem kw_WI_0 : True := by
  k_with_none
  k_with "om" => first | decide | (with_reducible first | apply om6 <;> assumption | apply om46 <;> assumption | apply om106 <;> assumption | apply om409 <;> assumption | apply om410 <;> assumption | apply om411 <;> assumption | apply om412 <;> assumption | apply om413 <;> assumption | apply om414 <;> assumption | apply om415 <;> assumption | apply om416 <;> assumption | apply om417 <;> assumption | apply om418 <;> assumption | apply om419 <;> assumption | apply om420 <;> assumption | apply om421 <;> assumption | apply om422 <;> assumption)
  k_with "k_ne" => (refine neN ?_; (try dsimp only); first | with_reducible assumption | lgec_go)
  k_with "fold_depth" => first | ((with_reducible show wpAny _ (Around.deeper (ktrTop _ _ _ _ _ _ _ _ _ _) _) _ _ _ _); refine wp_fold4 ?_; intro A1 q0 e0) | (refine wp_fold2 ?_; intro q00 e00)
  k_with "fold_lay" => ((show wpAny _ _ _ _ _ _); first | (fail_if_success k_fold) | ((try clear qf); refine wp_fold ?_; intro qf))
  k_with "k_steps" => ((try dsimp only); (try fold_lay); repeat' (first | (k_unfold; (try dsimp only)) | (k_end; wrow_close) | (walk1; (try ((first | (with_reducible show wpAny _ _ (exec _ _) _ _ _) | (with_reducible show wpAny _ _ (execs _ _) _ _ _)); (try dsimp only); fold_lay))) | (dsimp only; walk1) | (leave1; walk_say "STEP leave1"; try dsimp only) | fail "no step"))
  k_with "k_room" => first | exact fastR (by assumption) | ktr_room | (simp only [A1]; ktr_room)
  k_with "k_units" => first | ktr_units | (simp only [A1]; ktr_units)
  k_with "k_enter" => (refine' code_defC ?k1_680 ?k2_680 ?k3_680 ?k4_680 ?k5_680 ?kA_680 ?kF_680 ?kK_680 ?k6_680 ?k7_680 ?k8_680 ?k9_680 ?kB_680 ?kD_680 ?_ ?c2_680 ?c3_680 ?c4_680; (case kA_680 => exact rfl); (case kF_680 => exact rfl); (case kK_680 => assumption); (case k1_680 => k_asm); (case k2_680 => k_asm); (case k3_680 => k_asm); (case k4_680 => k_asm); (case k5_680 => k_asm); (case k6_680 => k_is); (case k7_680 => k_is); (case k8_680 => k_room); (case k9_680 => first | exact BindsTo.of_eq rfl | exact binds_K (by k_in) rfl (by k_is) rfl rfl rfl); (case kB_680 => exact rfl); (case kD_680 => decide +kernel); (case c2_680 => exact rfl); (case c3_680 => exact rfl); (case c4_680 => exact rfl); k_whole; intro g' L' h' tk' cells' FG' F' N' Y' B' X' T' l1; (try k_lt l1); refine hideG ?_; intro G0; k_cells Y'; (dsimp only [G0]); (try clear G0); (try simp only [List.cons_append, List.nil_append] at N'); (try dsimp only); (try fold_depth))
  k_with "k_enter" => (refine' code_def ?k1_681 ?k2_681 ?k3_681 ?k4_681 ?k5_681 ?kA_681 ?kF_681 ?kK_681 ?k6_681 ?k7_681 ?k8_681 ?k9_681 ?kB_681 ?_ ?c2_681 ?c3_681 ?c4_681 ?c5_681; (case kA_681 => exact rfl); (case kF_681 => exact rfl); (case kK_681 => assumption); (case k1_681 => k_asm); (case k2_681 => k_asm); (case k3_681 => k_asm); (case k4_681 => k_asm); (case k5_681 => k_asm); (case k6_681 => k_is); (case k7_681 => k_is); (case k8_681 => k_room); (case k9_681 => first | exact BindsTo.of_eq rfl | exact binds_K (by k_in) rfl (by k_is) rfl rfl rfl); (case c5_681 => decide); (case kB_681 => exact locs rfl); (case c2_681 => exact rfl); (case c3_681 => exact rfl); (case c4_681 => exact rfl); k_whole; intro g' L' h' FG' F' N' B' X' T'; (try dsimp only); (try fold_depth))
  k_with "klt" => skip
  k_with "k_all" => first | exact List.forall_mem_nil _ | (with_reducible refine List.forall_mem_cons.mpr ⟨?_, ?_⟩; (focus k_ne); k_all) | with_reducible assumption | with_reducible exact allLt_off (by with_reducible assumption) | with_reducible exact lt_off (by with_reducible assumption) | with_reducible exact off1_off (by with_reducible assumption) | with_reducible exact off3_1 (by with_reducible assumption) | with_reducible exact off3_2 (by with_reducible assumption) | with_reducible exact off3_3 (by with_reducible assumption) | (with_reducible refine GrowK.off (by with_reducible assumption) ?_ ?_; (focus simp only [List.mem_cons, true_or, or_true]); k_all)
  k_with "tb_rel" => with_reducible first | assumption | exact sub_self | (refine sub_tail ?_; tb_rel) | (refine sub_growK (by assumption) ?_; tb_rel) | (refine sub_app ?_ ?_; (focus tb_rel); tb_rel) | (refine sub_consApp ?_; tb_rel) | (refine sub_appL ?_; tb_rel) | (refine sub_appR ?_; tb_rel)
  k_with "k_mem" => (refine sub_mem ?_ (by assumption); tb_rel)
  k_with "call builtin:len" => ((with_reducible show wpAny _ _ (call (Value.builtin "len") [Value.ref _]) _ _ _); k_dflt (refine' lst_len ?k1_685 ?k2_685 ?k3_685 ?_; (case k1_685 => k_asm); (case k2_685 => k_mem); (case k3_685 => lgec_go); k_whole))
  k_with "truthy ref" => (k_dflt (refine' lst_truthy ?k1_686 ?k2_686 ?k3_686 ?_; (case k1_686 => k_asm); (case k2_686 => k_mem); (case k3_686 => lgec_go); k_whole))
  k_with "call builtin:list.append" => ((with_reducible show wpAny _ _ (call (Value.builtin _) [Value.ref _, _]) _ _ _); k_dflt (refine' lst_append ?k1_687 ?k2_687 ?k3_687 ?k4_687 ?_; (case k1_687 => k_asm); (case k2_687 => k_asm); (case k3_687 => k_upd); (case k4_687 => lgec_go); k_whole); intro h' F' N'; (try k_sweep))
  k_with "call builtin:list.extend" => ((with_reducible show wpAny _ _ (call (Value.builtin _) [Value.ref _, Value.ref _]) _ _ _); k_dflt (refine' lst_extend ?k1_688 ?k2_688 ?k3_688 ?k4_688 ?k5_688 ?_; (case k1_688 => k_asm); (case k2_688 => k_asm); (case k3_688 => k_updF); (case k4_688 => k_mem); (case k5_688 => first | (simp only [List.length_take, List.length_drop, List.length_append, List.length_cons, List.length_nil]; lgec_go) | lgec_go); k_whole); intro h' n' F' N'; (try dsimp only at N'); (try k_sweep))
  k_with "binaryOp Add" => ((with_reducible show wpAny _ _ (binaryOp Operator.Add (Value.ref _) (Value.ref _)) _ _ _); k_dflt (refine' lst_add ?k1_689 ?k2_689 ?k3_689 ?k4_689 ?k5_689 ?_; (case k1_689 => k_asm); (case k2_689 => k_asm); (case k3_689 => k_mem); (case k4_689 => k_mem); (case k5_689 => first | (simp only [List.length_cons, List.length_nil]; lgec_go) | lgec_go); k_whole); intro l' h' F' N' l1; (try k_lt l1); (try k_sweep))
  k_with "binaryOp Add ref ref" => ((with_reducible show wpAny _ _ (binaryOp Operator.Add (Value.ref _) (Value.ref _)) _ _ _); k_dflt (refine' lst_add ?k1_690 ?k2_690 ?k3_690 ?k4_690 ?k5_690 ?_; (case k1_690 => k_asm); (case k2_690 => k_asm); (case k3_690 => k_mem); (case k4_690 => k_mem); (case k5_690 => first | (simp only [List.length_cons, List.length_nil]; lgec_go) | lgec_go); k_whole); intro l' h' F' N' l1; (try k_lt l1); (try k_sweep))
  k_with "subscriptTail Name Slice ref ref" => ((with_reducible show wpAny _ _ (subscriptTail _ _ (Value.ref _) (Value.ref _)) _ _ _); k_dflt (refine' lst_slice ?k1_691 ?k2_691 ?k3_691 ?k4_691 ?k5_691 ?k6_691 ?_; (case k1_691 => k_asm); (case k2_691 => k_asm); (case k3_691 => k_mem); (case k4_691 => lgec_go); (case k5_691 => lgec_go); (case k6_691 => lgec_go); k_whole); intro l' h' F' N' l1; (try k_lt l1); (try k_sweep))
  k_with "exec For Tuple Name cons nil" => ((with_reducible show wpAny _ _ (exec (Stmt.For (PySem.Expr.Tuple _ _ _) _ _ [] _) _) _ _ _); refine Stop.mk ?_)
  k_with "exec For Tuple" => ((with_reducible show wpAny _ _ (exec (Stmt.For (PySem.Expr.Tuple _ _ _) _ _ [] _) _) _ _ _); refine Stop.mk ?_)
  k_with "exec For" => ((with_reducible show wpAny _ _ (exec (Stmt.For (PySem.Expr.Tuple _ _ _) _ _ [] _) _) _ _ _); refine Stop.mk ?_)
  k_with "subscriptTail" => ((with_reducible show wpAny _ _ (subscriptTail _ _ (Value.ref _) (Value.int _ _)) _ _ _); k_dflt (refine' lst_item ?k1_695 ?k2_695 ?k3_695 ?k4_695 ?k5_695 ?_; (case k1_695 => k_asm); (case k2_695 => k_mem); (case k3_695 => lgec_go); (case k4_695 => lgec_go); (case k5_695 => assumption)))
  k_with "subscriptTail Name IfExp ref int" => ((with_reducible show wpAny _ _ (subscriptTail _ _ (Value.ref _) (Value.int _ _)) _ _ _); k_dflt (refine' lst_item ?k1_696 ?k2_696 ?k3_696 ?k4_696 ?k5_696 ?_; (case k1_696 => k_asm); (case k2_696 => k_mem); (case k3_696 => lgec_go); (case k4_696 => lgec_go); (case k5_696 => assumption)))
  trivial
noncomputable def hitR (c : Int) : RRow → Option Num
  | .many f qs => if f ≤ c ∧ c ≤ f + qs.length - 1 then qs[(c - f).toNat]? else none
  | .span f l q => if f ≤ c ∧ c ≤ l then some q else none
noncomputable def firstHit (c : Int) : List RRow → Option Num
  | [] => none
  | row :: rows => match hitR c row with
    | some q => some q
    | none => firstHit c rows
theorem firstHit_next {c : Int} : ∀ {rows : List RRow} {i : Nat} {row : RRow}, firstHit c (rows.take i) = none → rows[i]? = some row → hitR c row = none → firstHit c (rows.take (i + 1)) = none
  | [], _, _, _, h, _ => by simp at h
  | r :: rows, 0, row, _, h, h2 => by
    simp at h
    subst h
    simp [firstHit, h2]
  | r :: rows, i + 1, row, h, h2, h3 => by
    rw [List.take_succ_cons, firstHit] at h ⊢
    cases hr : hitR c r with
    | some q => rw [hr] at h; cases h
    | none =>
      rw [hr] at h
      exact firstHit_next h (by simpa using h2) h3
theorem firstHit_here {c : Int} {q : Num} : ∀ {rows : List RRow} {i : Nat} {row : RRow}, firstHit c (rows.take i) = none → rows[i]? = some row → hitR c row = some q → firstHit c rows = some q
  | [], _, _, _, h, _ => by simp at h
  | r :: rows, 0, row, _, h, h2 => by
    simp at h
    subst h
    simp [firstHit, h2]
  | r :: rows, i + 1, row, h, h2, h3 => by
    rw [List.take_succ_cons, firstHit] at h
    rw [firstHit]
    cases hr : hitR c r with
    | some q => rw [hr] at h; cases h
    | none =>
      rw [hr] at h
      exact firstHit_here h (by simpa using h2) h3
theorem WidesIn.at {w : World} {ro : Led} {vs : List Value} {rows : List RRow} (h : WidesIn w ro vs rows) : ∀ (i : Nat) (v : Value), vs[i]? = some v → ∃ row, rows[i]? = some row ∧ WideR w ro v row := by
  induction h with
  | nil => intro i v h; simp at h
  | cons h _ ih =>
    intro i v hv
    cases i with
    | zero =>
      simp at hv
      subst hv
      exact ⟨_, rfl, h⟩
    | succ i => exact ih i v (by simpa using hv)
theorem WidesIn.length {w : World} {ro : Led} {vs : List Value} {rows : List RRow} (h : WidesIn w ro vs rows) : vs.length = rows.length := by
  induction h with
  | nil => rfl
  | cons _ _ ih => simp [ih]
theorem NumsIn2.val {w : World} {ro : Led} {vs : List Value} {qs : List Num} {j : Nat} (h : NumsIn2 w ro vs qs) (hj : j < qs.length) : ∃ v q, vs[j]? = some v ∧ qs[j]? = some q ∧ NumIn w ro v q := by
  have hj' : j < vs.length := by rw [h.length]; exact hj
  obtain ⟨q, h1, h2⟩ := h.at j _ (List.getElem?_eq_getElem hj')
  exact ⟨_, q, List.getElem?_eq_getElem hj', h1, h2⟩
theorem drop1 {h₀ h : Heap} {L : Addr} {p : Addr × Obj} {news : Led} (N : News h₀ L h (p :: news)) : News h₀ L h news := fun q hq => N q (.tail _ hq)
set_option maxHeartbeats 400000 in
theorem widthin_spec (w : World) (news ro : Led) (a : Addr) (vs : List Value) (k : Nat) (rows : List RRow) (c : Int) (t : Tok) (dv : Value) (qd : Num) (hm : (a, PySem.W.listOf vs.toArray k) ∈ news) (hW : WidesIn w ro vs rows) (hro : ∀ y ∈ ro, y ∈ news) (hdv : NumIn w ro dv qd) (hc : 0 ≤ c) (hc2 : c ≤ 30) :
    Calls w 362 3 [.ref a, .int c t, dv] news (fun r news' => news' = news ∧ NumIn w ro r ((firstHit c rows).getD qd)) := by
  intro mean mg mb dp un gd cn cs ad ccd cl outer A₀ base h₀ L m s Q E B F X N Tc hk1 hd hu hret
  k_steps
  refine Stop.on ?_
  refine For_T3 (F₀ := by k_asm) (by rfl) (by rfl) (by rfl) (by rfl) (by decide) (by decide) (by decide) ?_
  walk1
  refine ⟨a, vs, k, _, _, fun i m => Has m [(Str.ofString "rows", .ref a), (Str.ofString "code", .int c t), (Str.ofString "default", dv)] ∧ firstHit c (rows.take i) = none, by rfl, by k_asm, by k_asm, by k_mem, ⟨⟨rfl, rfl, rfl, trivial⟩, rfl⟩, ?turn, ?done⟩
  case turn =>
    rintro i v m₁ hv ⟨hma, hf⟩
    (refine hideG ?_; intro G0)
    obtain ⟨row, hrow, hR⟩ := hW.at i v hv
    (dsimp only [G0]); clear G0
    (refine hideG ?_; intro G0)
    cases hR with
    | many h1 h2 h3 h4 h5 h6 =>
      (dsimp only [G0]); clear G0
      rename_i tu wl f t1 t2 ws kk1 kk2 qs
      refine ⟨_, _, _, _, _, hro _ h1, fun I oI m₂ h tk e1 e2 e3 eo offI F2 N2 => ?_⟩
      replace F2 := pinned (ps := [(Str.ofString "first", .int f t1), (Str.ofString "last", .int (f + qs.length - 1) t2), (Str.ofString "widths", .ref wl), (Str.ofString "rows", .ref a), (Str.ofString "code", .int c t), (Str.ofString "default", dv)]) F2 ⟨e1, e2, e3, (eo _ (by decide) (by decide) (by decide)).trans hma.1, (eo _ (by decide) (by decide) (by decide)).trans hma.2.1, (eo _ (by decide) (by decide) (by decide)).trans hma.2.2.1, trivial⟩
      simp only [pin] at F2
      replace h2 := hro _ h2
      have hl := h3.length
      rcases Int.lt_or_le c f with hlo | hlo
      · k_steps
        exact ⟨_, _, _, _, rfl, by k_asm, by k_asm, offI, ⟨⟨rfl, rfl, rfl, trivial⟩, firstHit_next hf hrow (if_neg (by lgec_go))⟩, rfl⟩
      · rcases Int.lt_or_le (f + qs.length - 1) c with hhi | hhi
        · k_steps
          exact ⟨_, _, _, _, rfl, by k_asm, by k_asm, offI, ⟨⟨rfl, rfl, rfl, trivial⟩, firstHit_next hf hrow (if_neg (by lgec_go))⟩, rfl⟩
        · obtain ⟨v9, q9, hv9, hq9, hn9⟩ := h3.val (j := (c - f).toNat) (by lgec_go)
          have hh := firstHit_here hf hrow ((if_pos ⟨hlo, hhi⟩).trans hq9)
          k_steps
          all_goals try (exfalso; lgec_go)
          unfold TurnJ
          dsimp only
          k_steps
          exact hret _ _ _ _ (by k_asm) (drop1 (by assumption)) ⟨rfl, by rw [hh]; exact hn9⟩
    | span h1 h2 h3 h4 h5 h6 h7 =>
      (dsimp only [G0]); clear G0
      rename_i tu wl f l t1 t2 v9 kk1 kk2 q9
      refine ⟨_, _, _, _, _, hro _ h1, fun I oI m₂ h tk e1 e2 e3 eo offI F2 N2 => ?_⟩
      replace F2 := pinned (ps := [(Str.ofString "first", .int f t1), (Str.ofString "last", .int l t2), (Str.ofString "widths", .ref wl), (Str.ofString "rows", .ref a), (Str.ofString "code", .int c t), (Str.ofString "default", dv)]) F2 ⟨e1, e2, e3, (eo _ (by decide) (by decide) (by decide)).trans hma.1, (eo _ (by decide) (by decide) (by decide)).trans hma.2.1, (eo _ (by decide) (by decide) (by decide)).trans hma.2.2.1, trivial⟩
      simp only [pin] at F2
      replace h2 := hro _ h2
      rcases Int.lt_or_le c f with hlo | hlo
      · k_steps
        exact ⟨_, _, _, _, rfl, by k_asm, by k_asm, offI, ⟨⟨rfl, rfl, rfl, trivial⟩, firstHit_next hf hrow (if_neg (by lgec_go))⟩, rfl⟩
      · rcases Int.lt_or_le l c with hhi | hhi
        · k_steps
          exact ⟨_, _, _, _, rfl, by k_asm, by k_asm, offI, ⟨⟨rfl, rfl, rfl, trivial⟩, firstHit_next hf hrow (if_neg (by lgec_go))⟩, rfl⟩
        · have hh := firstHit_here hf hrow (if_pos ⟨hlo, hhi⟩)
          have hg : [v9][(0 : Int).toNat]? = some v9 := rfl
          have hg2 : f = l → [v9][(c - f).toNat]? = some v9 := fun e => by
            rw [show (c - f).toNat = 0 by lgec_go]
            rfl
          rcases Int.lt_or_le f l with hfl | hfl
          · k_steps
            all_goals try (exfalso; lgec_go)
            unfold TurnJ
            dsimp only
            k_steps
            exact hret _ _ _ _ (by k_asm) (drop1 (by assumption)) ⟨rfl, by rw [hh]; exact h3⟩
          · replace hg2 := hg2 (by lgec_go)
            k_steps
            all_goals try (exfalso; lgec_go)
            unfold TurnJ
            dsimp only
            k_steps
            exact hret _ _ _ _ (by k_asm) (drop1 (by assumption)) ⟨rfl, by rw [hh]; exact h3⟩
  case done =>
    rintro m₁ h tk ⟨hma, hf⟩ F2 N2
    rw [hW.length, List.take_length] at hf
    replace F2 := pinned F2 hma
    simp only [pin] at F2
    k_steps
    exact hret _ _ _ _ (by k_asm) (by k_asm) ⟨rfl, by rw [hf]; exact hdv⟩

end
section
theorem kw_CX_0 : True := by
  k_with_none
  k_with "om" => first | decide
  k_with "k_ne" => (refine neN ?_; (try dsimp only); first | with_reducible assumption | lgec_go)
  k_with "fold_depth" => first | ((with_reducible show wpAny _ (Around.deeper (ktrTop _ _ _ _ _ _ _ _ _ _) _) _ _ _ _); refine wp_fold4 ?_; intro A1 q0 e0) | (refine wp_fold2 ?_; intro q00 e00)
  k_with "fold_lay" => ((show wpAny _ _ _ _ _ _); first | (fail_if_success k_fold) | ((try clear qf); refine wp_fold ?_; intro qf))
  k_with "k_steps" => ((try dsimp only); (try fold_lay); repeat' (first | (k_unfold; (try dsimp only)) | (k_end; wrow_close) | (walk1; (try ((first | (with_reducible show wpAny _ _ (exec _ _) _ _ _) | (with_reducible show wpAny _ _ (execs _ _) _ _ _)); (try dsimp only); fold_lay))) | (dsimp only; walk1) | (leave1; walk_say "STEP leave1"; try dsimp only) | fail "no step"))
  k_with "k_room" => first | exact fastR (by assumption) | ktr_room | (simp only [A1]; ktr_room)
  k_with "k_units" => first | ktr_units | (simp only [A1]; ktr_units)
  k_with "k_enter" => (refine' code_defC ?k1_702 ?k2_702 ?k3_702 ?k4_702 ?k5_702 ?kA_702 ?kF_702 ?kK_702 ?k6_702 ?k7_702 ?k8_702 ?k9_702 ?kB_702 ?kD_702 ?_ ?c2_702 ?c3_702 ?c4_702; (case kA_702 => exact rfl); (case kF_702 => exact rfl); (case kK_702 => assumption); (case k1_702 => k_asm); (case k2_702 => k_asm); (case k3_702 => k_asm); (case k4_702 => k_asm); (case k5_702 => k_asm); (case k6_702 => k_is); (case k7_702 => k_is); (case k8_702 => k_room); (case k9_702 => first | exact BindsTo.of_eq rfl | exact binds_K (by k_in) rfl (by k_is) rfl rfl rfl); (case kB_702 => exact rfl); (case kD_702 => decide +kernel); (case c2_702 => exact rfl); (case c3_702 => exact rfl); (case c4_702 => exact rfl); k_whole; intro g' L' h' tk' cells' FG' F' N' Y' B' X' T' l1; (try k_lt l1); refine hideG ?_; intro G0; k_cells Y'; (dsimp only [G0]); (try clear G0); (try simp only [List.cons_append, List.nil_append] at N'); (try dsimp only); (try fold_depth))
  k_with "k_enter" => (refine' code_def ?k1_703 ?k2_703 ?k3_703 ?k4_703 ?k5_703 ?kA_703 ?kF_703 ?kK_703 ?k6_703 ?k7_703 ?k8_703 ?k9_703 ?kB_703 ?_ ?c2_703 ?c3_703 ?c4_703 ?c5_703; (case kA_703 => exact rfl); (case kF_703 => exact rfl); (case kK_703 => assumption); (case k1_703 => k_asm); (case k2_703 => k_asm); (case k3_703 => k_asm); (case k4_703 => k_asm); (case k5_703 => k_asm); (case k6_703 => k_is); (case k7_703 => k_is); (case k8_703 => k_room); (case k9_703 => first | exact BindsTo.of_eq rfl | exact binds_K (by k_in) rfl (by k_is) rfl rfl rfl); (case c5_703 => decide); (case kB_703 => exact locs rfl); (case c2_703 => exact rfl); (case c3_703 => exact rfl); (case c4_703 => exact rfl); k_whole; intro g' L' h' FG' F' N' B' X' T'; (try dsimp only); (try fold_depth))
  trivial
section
variable {prog : Program} {w : World} {A₀ : Around} {E : Value → Shared → Prop} {s' : Shared} {h₀ h : Heap} {outer : List Env} {L a e t : Addr} {m : Str → Option Value} {name : Str} {scope : Scope} {cd : Value} {cl : List (Str × Addr)}
  {vs : List Value} {b₀ : Stmt} {suite : List Stmt} {pos np : Pos} {rest : List ExceptHandler} {Q : Flow → Shared → Prop} {news : Led} {x : Str}
theorem caughtX (K : Below A₀ h₀ outer h₀) (F : Fr h₀ L h m) (hsm : h.UpToSlots s'.heap) (R : RaisedK h₀ (envX name scope L a cd cl :: outer) e (.ref 59) t vs news s'.heap) (X : (hd.heap_39 w.params).In h₀)
    (hev : ∀ (s₂ : Shared) (E₂ Q' : Value → Shared → Prop), Fr h₀ L s₂.heap m → Q' (.ref 59) s₂ → wpAny (model prog w) ((A₀.deeper (envX name scope L a cd cl)).mark (some (.ref e))) (eval (.Name x np) (envX name scope L a cd cl)) Q' E₂ s₂)
    (k : ∀ h', Fr h₀ L h' m → News h₀ L h' news → wpAny (model prog w) ((A₀.deeper (envX name scope L a cd cl)).mark (some (.ref e))) (execs (b₀ :: suite) (envX name scope L a cd cl)) Q E { s' with heap := h' })
    (hE : PassesOwnAt (model prog w) ((A₀.deeper (envX name scope L a cd cl)).mark (some (.ref e))) (A₀.deeper (envX name scope L a cd cl)) (envX name scope L a cd cl) E := by passes_own) :
    wpAny (model prog w) (A₀.deeper (envX name scope L a cd cl)) (noteFrame (.ref e) (envX name scope L a cd cl))
      (fun _ s₂ => wpAny (model prog w) (A₀.deeper (envX name scope L a cd cl)) (setFlight (.ref e) none) (fun _ s₃ =>
        wpAny (model prog w) (A₀.deeper (envX name scope L a cd cl)) (handleBy (.ref e) (envX name scope L a cd cl) (.ExceptHandler (some (.Name x np)) none (b₀ :: suite) pos :: rest)) Q E s₃) E s₂) E s' := by
  (refine hideG ?_; intro G0)
  obtain ⟨⟨B, hB, hl, hfl, hnew⟩, htup⟩ := R
  (dsimp only [G0]); clear G0
  have hL : B.get? L = none := by
    (refine hideG ?_; intro G0)
    obtain ⟨_, ⟨L', _, hf, hn', _⟩, _⟩ := hfl.2.2.1
    (dsimp only [G0]); clear G0
    obtain rfl : L = L' := Option.some.inj hf
    exact hn'
  refine wpAny_looks_onW (Around.frames_deeper K.stack) rfl hfl fun h₄ hheld₄ hsm₄ => ?_
  refine wpAny_landsW hheld₄ fun h₅ hheld hsm₅' => ?_
  have hsm₅ := hsm₄.trans hsm₅'
  have hbase := flyingW_base hB hheld
  have F₅ := F.of_stays hbase.1 (hsm.trans hsm₅)
  obtain ⟨ob, hob, hobc⟩ := hbase.there
  (refine hideG ?_; intro G0)
  obtain ⟨nm, qn, N0, bs, bm, hdct, sn, sub, ab, col, dd, k0, k1, k2, k3, k5, hC, hB', hA, hN, hbb⟩ := font_cls (X.keeps F₅.keep) font59
  (dsimp only [G0]); clear G0
  refine wpAny_handleBy_cons (codeAny_handlers_test (hev _ _ _ F₅ ?_)) (by intro q; cases q)
  refine wpAny_excMatches_sub_self hC hob hobc hbb (codeAny_handlers_suite ?_)
  refine lands_againW hheld fun h₆ hfl₆ hsm₆ => ?_
  have hfl₆' := flyingW_base hB hfl₆
  have F₆ := F.of_stays hfl₆'.1 ((hsm.trans hsm₅).trans hsm₆)
  exact wpAny_passesOwnAt hE (k h₆ F₆ fun q hq => ⟨hfl₆.1 _ _ (hl q hq).1, (fun z => by have := (hl q hq).1; rw [z, hL] at this; cases this), (hl q hq).2⟩)
end

end
section
theorem kw_EQ_0 : True := by
  k_with_none
  k_with "om" => first | decide
  k_with "k_ne" => (refine neN ?_; (try dsimp only); first | with_reducible assumption | lgec_go)
  k_with "fold_depth" => first | ((with_reducible show wpAny _ (Around.deeper (ktrTop _ _ _ _ _ _ _ _ _ _) _) _ _ _ _); refine wp_fold4 ?_; intro A1 q0 e0) | (refine wp_fold2 ?_; intro q00 e00)
  k_with "fold_lay" => ((show wpAny _ _ _ _ _ _); first | (fail_if_success k_fold) | ((try clear qf); refine wp_fold ?_; intro qf))
  k_with "k_steps" => ((try dsimp only); (try fold_lay); repeat' (first | (k_unfold; (try dsimp only)) | (k_end; wrow_close) | (walk1; (try ((first | (with_reducible show wpAny _ _ (exec _ _) _ _ _) | (with_reducible show wpAny _ _ (execs _ _) _ _ _)); (try dsimp only); fold_lay))) | (dsimp only; walk1) | (leave1; walk_say "STEP leave1"; try dsimp only) | fail "no step"))
  k_with "k_room" => first | exact fastR (by assumption) | ktr_room | (simp only [A1]; ktr_room)
  k_with "k_units" => first | ktr_units | (simp only [A1]; ktr_units)
  k_with "k_enter" => (refine' code_defC ?k1_709 ?k2_709 ?k3_709 ?k4_709 ?k5_709 ?kA_709 ?kF_709 ?kK_709 ?k6_709 ?k7_709 ?k8_709 ?k9_709 ?kB_709 ?kD_709 ?_ ?c2_709 ?c3_709 ?c4_709; (case kA_709 => exact rfl); (case kF_709 => exact rfl); (case kK_709 => assumption); (case k1_709 => k_asm); (case k2_709 => k_asm); (case k3_709 => k_asm); (case k4_709 => k_asm); (case k5_709 => k_asm); (case k6_709 => k_is); (case k7_709 => k_is); (case k8_709 => k_room); (case k9_709 => first | exact BindsTo.of_eq rfl | exact binds_K (by k_in) rfl (by k_is) rfl rfl rfl); (case kB_709 => exact rfl); (case kD_709 => decide +kernel); (case c2_709 => exact rfl); (case c3_709 => exact rfl); (case c4_709 => exact rfl); k_whole; intro g' L' h' tk' cells' FG' F' N' Y' B' X' T' l1; (try k_lt l1); refine hideG ?_; intro G0; k_cells Y'; (dsimp only [G0]); (try clear G0); (try simp only [List.cons_append, List.nil_append] at N'); (try dsimp only); (try fold_depth))
  k_with "k_enter" => (refine' code_def ?k1_710 ?k2_710 ?k3_710 ?k4_710 ?k5_710 ?kA_710 ?kF_710 ?kK_710 ?k6_710 ?k7_710 ?k8_710 ?k9_710 ?kB_710 ?_ ?c2_710 ?c3_710 ?c4_710 ?c5_710; (case kA_710 => exact rfl); (case kF_710 => exact rfl); (case kK_710 => assumption); (case k1_710 => k_asm); (case k2_710 => k_asm); (case k3_710 => k_asm); (case k4_710 => k_asm); (case k5_710 => k_asm); (case k6_710 => k_is); (case k7_710 => k_is); (case k8_710 => k_room); (case k9_710 => first | exact BindsTo.of_eq rfl | exact binds_K (by k_in) rfl (by k_is) rfl rfl rfl); (case c5_710 => decide); (case kB_710 => exact locs rfl); (case c2_710 => exact rfl); (case c3_710 => exact rfl); (case c4_710 => exact rfl); k_whole; intro g' L' h' FG' F' N' B' X' T'; (try dsimp only); (try fold_depth))
  trivial
open PySem.SeqAt in
section
variable {prog : Program} {w : World} {A : Around} {E : Value → Shared → Prop} {s : Shared}
theorem range_tt : ∀ n : Nat, ((List.range n).all fun _ => true) = true := by intro n; simp
theorem eq_twin {a b : Addr} {vs : List Value} {Q : Value → Shared → Prop} (hl : s.heap.IsList a vs.toArray) (hb : s.heap.IsList b vs.toArray) (hu : A.units < cLine)
    (h : Q (.bool true) s) : wpAny (model prog w) A (compareOp .Eq (.ref a) (.ref b)) Q E s := by
  refine PySem.SeqAt.RcAt.lists (e := fun _ => true) hl hb rfl hu (fun j h1 h2 => PySem.SeqAt.EqAt.same _) prog w E Q ?_
  rw [range_tt]
  exact h
theorem ne_twin {a b : Addr} {vs : List Value} {Q : Value → Shared → Prop} (hl : s.heap.IsList a vs.toArray) (hb : s.heap.IsList b vs.toArray) (hu : A.units < cLine)
    (h : Q (.bool false) s) : wpAny (model prog w) A (compareOp .NotEq (.ref a) (.ref b)) Q E s := by
  refine PySem.SeqAt.RcNeAt.lists (e := fun _ => true) hl hb rfl hu (fun j h1 h2 => PySem.SeqAt.EqAt.same _) prog w E Q ?_
  rw [range_tt]
  exact h
end

end
section
theorem kw_FC_0 : True := by
  k_with_none
  k_with "om" => first | decide | (with_reducible first | apply om28 <;> assumption | apply om105 <;> assumption | apply om423 <;> assumption | apply om424 <;> assumption | apply om425 <;> assumption | apply om426 <;> assumption)
  k_with "k_ne" => (refine neN ?_; (try dsimp only); first | with_reducible assumption | lgec_go)
  k_with "fold_depth" => first | ((with_reducible show wpAny _ (Around.deeper (ktrTop _ _ _ _ _ _ _ _ _ _) _) _ _ _ _); refine wp_fold4 ?_; intro A1 q0 e0) | (refine wp_fold2 ?_; intro q00 e00)
  k_with "fold_lay" => ((show wpAny _ _ _ _ _ _); first | (fail_if_success k_fold) | ((try clear qf); refine wp_fold ?_; intro qf))
  k_with "k_steps" => ((try dsimp only); (try fold_lay); repeat' (first | (k_unfold; (try dsimp only)) | (k_end; wrow_close) | (walk1; (try ((first | (with_reducible show wpAny _ _ (exec _ _) _ _ _) | (with_reducible show wpAny _ _ (execs _ _) _ _ _)); (try dsimp only); fold_lay))) | (dsimp only; walk1) | (leave1; walk_say "STEP leave1"; try dsimp only) | fail "no step"))
  k_with "k_room" => first | exact fastR (by assumption) | ktr_room | (simp only [A1]; ktr_room)
  k_with "k_units" => first | ktr_units | (simp only [A1]; ktr_units)
  k_with "k_enter" => (refine' code_defC ?k1_716 ?k2_716 ?k3_716 ?k4_716 ?k5_716 ?kA_716 ?kF_716 ?kK_716 ?k6_716 ?k7_716 ?k8_716 ?k9_716 ?kB_716 ?kD_716 ?_ ?c2_716 ?c3_716 ?c4_716; (case kA_716 => exact rfl); (case kF_716 => exact rfl); (case kK_716 => assumption); (case k1_716 => k_asm); (case k2_716 => k_asm); (case k3_716 => k_asm); (case k4_716 => k_asm); (case k5_716 => k_asm); (case k6_716 => k_is); (case k7_716 => k_is); (case k8_716 => k_room); (case k9_716 => first | exact BindsTo.of_eq rfl | exact binds_K (by k_in) rfl (by k_is) rfl rfl rfl); (case kB_716 => exact rfl); (case kD_716 => decide +kernel); (case c2_716 => exact rfl); (case c3_716 => exact rfl); (case c4_716 => exact rfl); k_whole; intro g' L' h' tk' cells' FG' F' N' Y' B' X' T' l1; (try k_lt l1); refine hideG ?_; intro G0; k_cells Y'; (dsimp only [G0]); (try clear G0); (try simp only [List.cons_append, List.nil_append] at N'); (try dsimp only); (try fold_depth))
  k_with "k_enter" => (refine' code_def ?k1_717 ?k2_717 ?k3_717 ?k4_717 ?k5_717 ?kA_717 ?kF_717 ?kK_717 ?k6_717 ?k7_717 ?k8_717 ?k9_717 ?kB_717 ?_ ?c2_717 ?c3_717 ?c4_717 ?c5_717; (case kA_717 => exact rfl); (case kF_717 => exact rfl); (case kK_717 => assumption); (case k1_717 => k_asm); (case k2_717 => k_asm); (case k3_717 => k_asm); (case k4_717 => k_asm); (case k5_717 => k_asm); (case k6_717 => k_is); (case k7_717 => k_is); (case k8_717 => k_room); (case k9_717 => first | exact BindsTo.of_eq rfl | exact binds_K (by k_in) rfl (by k_is) rfl rfl rfl); (case c5_717 => decide); (case kB_717 => exact locs rfl); (case c2_717 => exact rfl); (case c3_717 => exact rfl); (case c4_717 => exact rfl); k_whole; intro g' L' h' FG' F' N' B' X' T'; (try dsimp only); (try fold_depth))
  trivial
section
variable {prog : Program} {w : World} {A : Around} {E : Value → Shared → Prop} {s : Shared} {h₀ : Heap} {env : Env}
inductive ForCG (prog : Program) (w : World) (A : Around) (E : Value → Shared → Prop) (h₀ : Heap) (env : Env) (c : Addr) (m₀ : Str → Option Value) (body : List Stmt) (Q : Flow → Shared → Prop) (s₁ : Shared) : Value → Prop
  | mk (r : Addr) (a₀ b₀ : Int) (t₀ u₀ v₀ : Tok) (n : Nat) (m₁ : Str → Option Value) (oc : Obj) (tl : Led) (J : Nat → (Str → Option Value) → Prop) : A.handled = none → IsRange s₁.heap r a₀ b₀ 1 t₀ u₀ v₀ → Builtin.Range.small a₀ b₀ 1 = true → Builtin.Range.rangeSize a₀ b₀ 1 = (n : Int) → Fr h₀ env.locals s₁.heap m₁ → News h₀ env.locals s₁.heap ((c, oc) :: tl) → (∃ v, oc.data = .cell v) → (∀ q ∈ tl, q.1 ≠ c) → J 0 m₁ → (∀ i t m₂ I oI oc' h tk, i < n → J i m₂ → oc'.data = .cell (some (.int (a₀ + (i : Int)) t)) → c ≠ I → (∀ q ∈ tl, q.1 ≠ I) → Fr h₀ env.locals h m₂ → News h₀ env.locals h ((I, oI) :: (c, oc') :: tl) →
          wpAny (model prog w) A (execs body env) (TurnJ h₀ env.locals I oI (fun m' nw => J (i + 1) m' ∧ nw = (c, oc') :: tl) { s₁ with heap := h, toks := tk } Q) E { s₁ with heap := h, toks := tk }) → (∀ m₂ oc' h tk, J n m₂ → Fr h₀ env.locals h m₂ → News h₀ env.locals h ((c, oc') :: tl) → Q .next { s₁ with heap := h, toks := tk }) → ForCG prog w A E h₀ env c m₀ body Q s₁ (.ref r)
inductive ForCI (h₀ : Heap) (L c I : Addr) (a₀ : Int) (n : Nat) (tl : Led) (J : Nat → (Str → Option Value) → Prop) (s₁ : Shared) : Nat → Shared → Prop
  | mk (h' : Heap) (tk : Nat) (m' : Str → Option Value) (i : Nat) (oc' : Obj) : IsRangeIter h' I (a₀ + (i : Nat)) ((n : Int) - (i : Nat)) 1 → Fr h₀ L h' m' → News h₀ L h' ((c, oc') :: tl) → (∃ v, oc'.data = .cell v) → J i m' → i ≤ n → ForCI h₀ L c I a₀ n tl J s₁ (n + 1 - i) { s₁ with heap := h', toks := tk }
theorem For_C {x : Str} {px pos : Pos} {iter : PySem.Expr} {body : List Stmt} {Q : Flow → Shared → Prop} {m₀ : Str → Option Value} (F₀ : Fr h₀ env.locals s.heap m₀)
    (hx : env.kindOf x = some .cell) (hk : env.scope.kind = .function) {c : Addr} (hc : env.cells.lookup x = some c)
    (h : wpAny (model prog w) A (eval iter env) (fun xv s₁ => Stop (ForCG prog w A E h₀ env c m₀ body Q s₁ xv)) E s)
    (hs : ∀ x, foldedSetIterable iter env x = pure x := by intro _; rfl)
    (hE : PassesOwn (model prog w) A env E := by passes_own) :
    wpAny (model prog w) A (exec (.For (.Name x px) iter body [] pos) env) Q E s := by
  refine wpAny_For (wpAny_mono h (fun xv s₁ hq => ?_) fun _ _ e => e) hs
  unfold Stop at hq
  (refine hideG ?_; intro G0)
  obtain ⟨r, a₀, b₀, t₀, u₀, v₀, n, m₁, oc, tl, J, hh, hr, hsmall, hn, F, N, hcv, hoc, h0, turn, done⟩ := hq
  (dsimp only [G0]); clear G0
  refine wpAny_pyIter_range hr hsmall ?_
  rw [hn]
  have up : ∀ b o, s₁.heap.get? b = some o → (s₁.heap.push { cls := .type "range_iterator", data := .fields #[rawInt a₀, rawInt (n : Int), rawInt 1] }).get? b = some o := fun b o e => Heap.get?_push_of_some _ e
  have hI₀ : h₀.get? s₁.heap.objs.size = none := next_is_new F
  generalize hIs : s₁.heap.objs.size = I at *
  have hLI : env.locals ≠ I := fun e => absurd F.ns.lt (by rw [hIs]; exact e ▸ Nat.lt_irrefl _)
  have hNlt : ∀ q ∈ (c, oc) :: tl, q.1 < I := fun q hq => hIs ▸ Heap.lt_size (N q hq).1
  have hcI : c ≠ I := Nat.ne_of_lt (hNlt _ (.head _))
  have hoff : ∀ q ∈ tl, q.1 ≠ I := fun q hq => Nat.ne_of_lt (hNlt q (.tail _ hq))
  have old : ∀ b o, h₀.get? b = some o → b ≠ I := fun b o e q => by rw [q, hI₀] at e; cases e
  have hcL : c ≠ env.locals := (N _ (.head _)).2.1
  have hc0 : h₀.get? c = none := (N _ (.head _)).2.2
  refine codeAny_forLoop_any (R := fun r s' => match r with | .ok f => Q f s' | .error e => cameBackBy (model prog w) A env E e s')
    (ForCI h₀ env.locals c I a₀ n tl J s₁) ?_ (n + 1)
    ⟨_, s₁.toks, m₁, 0, oc, by simpa using hIs ▸ Heap.get?_push_size _ rfl, F.keeps up, N.grown up, hcv, h0, Nat.zero_le _⟩
  rintro k s' ⟨h', tk, m', i, oc', hit, F', N', ⟨v0, hv0⟩, hJ, hi⟩
  have next : ∀ h₁ : Heap, Heap.ExtBut I h' h₁ → Fr h₀ env.locals h₁ m' ∧ News h₀ env.locals h₁ ((c, oc') :: tl) := fun h₁ hk₁ =>
    ⟨⟨F'.ns.at' fun o e => hk₁ _ o hLI e, fun b o e => hk₁ b o (old b o e) (F'.keep b o e), F'.above⟩, fun p hp => ⟨hk₁ _ _ (by
      rcases List.mem_cons.mp hp with rfl | hp
      · exact hcI
      · exact hoff p hp) (N' p hp).1, (N' p hp).2⟩⟩
  by_cases hlt : i < n
  · refine wpAny_pyNext_range_item hit (by lgec_go) fun h₁ hit₁ hs₁ => ?_
    obtain ⟨F₁, N₁⟩ := next h₁ hs₁.extBut
    have hown : wpAny (model prog w) A (letOwnedTupleGo (.Name x px) (.ref I) (.int (a₀ + (i : Int)) tk)) (fun _ s₁' => wpAny (model prog w) A (assign (.Name x px) env (.int (a₀ + (i : Int)) tk)) (fun _ s₂ => wpAny (model prog w) A (execs body env) (fun f s₃ => match f with
            | .next | .cont => ∃ m, m < n + 1 - i ∧ ForCI h₀ env.locals c I a₀ n tl J s₁ m s₃
            | .brk => Q .next s₃
            | .ret v => Q (.ret v) s₃) (notedBy (model prog w) A env fun e s' => cameBackBy (model prog w) A env E e s') s₂) (notedBy (model prog w) A env fun e s' => cameBackBy (model prog w) A env E e s') s₁') (notedBy (model prog w) A env fun e s' => cameBackBy (model prog w) A env E e s') { s₁ with heap := h₁, toks := tk + 1 } := by
      refine wpAny_pure ?_
      refine wpAny_assign_Name (wpAny_storeName_cell hk hx hc ⟨oc', (N₁ _ (.head _)).1, hv0⟩ fun h₂ hv₂ hs₂ => ?_)
      have F₂ := F₁.change hs₂ hcL hc0
      obtain ⟨oc₂, hoc₂, hd₂⟩ := hv₂
      have hI₂ : IsRangeIter h₂ I (a₀ + (i : Int) + 1) ((n : Int) - (i : Nat) - 1) 1 := hs₂.extBut _ _ (Ne.symm hcI) hit₁
      obtain ⟨oI, hoI, hst'⟩ : ∃ oI, h₂.get? I = some oI ∧ ∀ h9 : Heap, h9.get? I = some oI → IsRangeIter h9 I (a₀ + ((i + 1 : Nat) : Int)) ((n : Int) - ((i + 1 : Nat) : Int)) 1 := by
        refine ⟨_, hI₂, fun h9 e => ?_⟩
        rw [show a₀ + ((i + 1 : Nat) : Int) = a₀ + (i : Int) + 1 by lgec_go, show (n : Int) - ((i + 1 : Nat) : Int) = (n : Int) - (i : Nat) - 1 by lgec_go]
        exact e
      have N₂ : News h₀ env.locals h₂ ((I, oI) :: (c, oc₂) :: tl) := fun p hp => by
        rcases List.mem_cons.mp hp with rfl | hp
        · exact ⟨hoI, Ne.symm hLI, hI₀⟩
        · rcases List.mem_cons.mp hp with rfl | hp
          · exact ⟨hoc₂, hcL, hc0⟩
          · exact ⟨hs₂.extBut _ _ (hoc p hp) (N₁ _ (.tail _ hp)).1, (N₁ _ (.tail _ hp)).2⟩
      refine wpAny_passesOwn hE (wpAny_mono (turn i _ m' I oI oc₂ h₂ _ hlt hJ hd₂ hcI hoff F₂ N₂) (fun f s₃ h₃ => ?_) fun _ _ e => e)
      have fin : (∃ h' tk m' news', s₃ = { s₁ with heap := h', toks := tk } ∧ Fr h₀ env.locals h' m' ∧ News h₀ env.locals h' ((I, oI) :: news') ∧ (∀ q ∈ news', q.1 ≠ I) ∧ (J (i + 1) m' ∧ news' = (c, oc₂) :: tl)) →
          ∃ m, m < n + 1 - i ∧ ForCI h₀ env.locals c I a₀ n tl J s₁ m s₃ := by
        rintro ⟨h9, tk9, m9, news9, rfl, F9, N9, ho, hJ9, rfl⟩
        exact ⟨_, by lgec_go, h9, tk9, m9, i + 1, oc₂, hst' _ (N9 _ (.head _)).1, F9, fun p hp => N9 p (.tail _ hp), ⟨_, hd₂⟩, hJ9, hlt⟩
      cases f with
      | ret v => exact h₃
      | brk => exact h₃
      | next => exact fin h₃
      | cont => exact fin h₃
    exact hown
  · have hin : i = n := by lgec_go
    subst hin
    refine wpAny_pyNext_range_end hh hit (by lgec_go) fun h₁ hs₁ => wpAny_execs_nil ?_
    obtain ⟨F₁, N₁⟩ := next h₁ hs₁
    exact done m' oc' h₁ _ hJ F₁ N₁
end

end
section
theorem kw_P1_0 : True := by
  k_with_none
  k_with "om" => first | decide | (with_reducible first | apply om1 <;> assumption | apply om2 <;> assumption | apply om8 <;> assumption | apply om18 <;> assumption | apply om20 <;> assumption | apply om21 <;> assumption | apply om22 <;> assumption | apply om31 <;> assumption | apply om98 <;> assumption | apply om427 <;> assumption | apply om428 <;> assumption | apply om429 <;> assumption | apply om430 <;> assumption | apply om431 <;> assumption | apply om432 <;> assumption | apply om433 <;> assumption | apply om434 <;> assumption | apply om435 <;> assumption | apply om436 <;> assumption | apply om437 <;> assumption | apply om438 <;> assumption | apply om439 <;> assumption | apply om440 <;> assumption | apply om441 <;> assumption | apply om442 <;> assumption | apply om443 <;> assumption | apply om444 <;> assumption | apply om445 <;> assumption | apply om446 <;> assumption | apply om447 <;> assumption | apply om448 <;> assumption | apply om449 <;> assumption | apply om450 <;> assumption | apply om451 <;> assumption)
  k_with "k_ne" => (refine neN ?_; (try dsimp only); first | with_reducible assumption | lgec_go)
  k_with "fold_depth" => first | ((with_reducible show wpAny _ (Around.deeper (ktrTop _ _ _ _ _ _ _ _ _ _) _) _ _ _ _); refine wp_fold4 ?_; intro A1 q0 e0) | (refine wp_fold2 ?_; intro q00 e00)
  k_with "fold_lay" => ((show wpAny _ _ _ _ _ _); first | (fail_if_success k_fold) | ((try clear qf); refine wp_fold ?_; intro qf))
  k_with "k_steps" => ((try dsimp only); (try fold_lay); repeat' (first | (k_unfold; (try dsimp only)) | (k_end; wrow_close) | (walk1; (try ((first | (with_reducible show wpAny _ _ (exec _ _) _ _ _) | (with_reducible show wpAny _ _ (execs _ _) _ _ _)); (try dsimp only); fold_lay))) | (dsimp only; walk1) | (leave1; walk_say "STEP leave1"; try dsimp only) | fail "no step"))
  k_with "k_room" => first | exact fastR (by assumption) | ktr_room | (simp only [A1]; ktr_room)
  k_with "k_units" => first | ktr_units | (simp only [A1]; ktr_units)
  k_with "k_enter" => (refine' code_defC ?k1_723 ?k2_723 ?k3_723 ?k4_723 ?k5_723 ?kA_723 ?kF_723 ?kK_723 ?k6_723 ?k7_723 ?k8_723 ?k9_723 ?kB_723 ?kD_723 ?_ ?c2_723 ?c3_723 ?c4_723; (case kA_723 => exact rfl); (case kF_723 => exact rfl); (case kK_723 => assumption); (case k1_723 => k_asm); (case k2_723 => k_asm); (case k3_723 => k_asm); (case k4_723 => k_asm); (case k5_723 => k_asm); (case k6_723 => k_is); (case k7_723 => k_is); (case k8_723 => k_room); (case k9_723 => first | exact BindsTo.of_eq rfl | exact binds_K (by k_in) rfl (by k_is) rfl rfl rfl); (case kB_723 => exact rfl); (case kD_723 => decide +kernel); (case c2_723 => exact rfl); (case c3_723 => exact rfl); (case c4_723 => exact rfl); k_whole; intro g' L' h' tk' cells' FG' F' N' Y' B' X' T' l1; (try k_lt l1); refine hideG ?_; intro G0; k_cells Y'; (dsimp only [G0]); (try clear G0); (try simp only [List.cons_append, List.nil_append] at N'); (try dsimp only); (try fold_depth))
  k_with "k_enter" => (refine' code_def ?k1_724 ?k2_724 ?k3_724 ?k4_724 ?k5_724 ?kA_724 ?kF_724 ?kK_724 ?k6_724 ?k7_724 ?k8_724 ?k9_724 ?kB_724 ?_ ?c2_724 ?c3_724 ?c4_724 ?c5_724; (case kA_724 => exact rfl); (case kF_724 => exact rfl); (case kK_724 => assumption); (case k1_724 => k_asm); (case k2_724 => k_asm); (case k3_724 => k_asm); (case k4_724 => k_asm); (case k5_724 => k_asm); (case k6_724 => k_is); (case k7_724 => k_is); (case k8_724 => k_room); (case k9_724 => first | exact BindsTo.of_eq rfl | exact binds_K (by k_in) rfl (by k_is) rfl rfl rfl); (case c5_724 => decide); (case kB_724 => exact locs rfl); (case c2_724 => exact rfl); (case c3_724 => exact rfl); (case c4_724 => exact rfl); k_whole; intro g' L' h' FG' F' N' B' X' T'; (try dsimp only); (try fold_depth))
  k_with "klt" => skip
  k_with "k_all" => first | exact List.forall_mem_nil _ | (with_reducible refine List.forall_mem_cons.mpr ⟨?_, ?_⟩; (focus k_ne); k_all) | with_reducible assumption | with_reducible exact allLt_off (by with_reducible assumption) | (with_reducible refine GrowK.off (by with_reducible assumption) ?_ ?_; (focus simp only [List.mem_cons, true_or, or_true]); k_all)
  k_with "k_mem" => first | exact sub_mem (by assumption) (by assumption) | exact GrowK.mem (by assumption) (by assumption)
  k_with "tb_rel" => first | assumption | (intro p hp; solve_by_elim (maxDepth := 12) only [hp, List.Mem.tail, *])
  k_with "tb_start" => first | assumption | exact rot1 (by assumption) | exact rot2 (by assumption) | exact rot3 (by assumption) | exact rot4 (by assumption) | exact rot5 (by assumption) | exact rot6 (by assumption)
  k_with "call ref" => ((with_reducible show wpAny _ _ (call (Value.ref 400) _) _ _ _); first | (k_dflt (refine' Calls.useP ?k1_729 ?k2_729 ?k3_729 ?k4_729 ?k5_729 ?kK_729 ?C_729 ?kd_729 ?ku_729 ?_; (case k1_729 => k_asm); (case k2_729 => k_asm); (case k3_729 => k_asm); (case k4_729 => tb_start); (case k5_729 => k_asm); (case kK_729 => first | exact rfl | assumption); (case C_729 => exact draw_spec _ _ _ _ _ _ _ _ _ (by assumption) (by lgec_go) (by assumption) (by k_all) (by k_all) (by lgec_go) (by lgec_go)); (case kd_729 => first | exact fastD (by assumption) (by decide) | ktr_room); (case ku_729 => first | exact fastU (by assumption) (by decide) | ktr_units); k_whole; intro r' n' h' tk' F' N' hr'; refine hideG ?_; intro G0; (obtain ⟨x', t', e', hx0', hx1', e1', e2', hP', en'⟩ := hr'); subst e'; subst en'; (dsimp only [G0]); (try clear G0); (try k_sweep))) | refine Stop.mk ?_)
  k_with "call ref" => ((with_reducible show wpAny _ _ (call (Value.ref 407) _) _ _ _); first | (k_dflt (refine' Calls.useP ?k1_730 ?k2_730 ?k3_730 ?k4_730 ?k5_730 ?kK_730 ?C_730 ?kd_730 ?ku_730 ?_; (case k1_730 => k_asm); (case k2_730 => k_asm); (case k3_730 => k_asm); (case k4_730 => tb_start); (case k5_730 => k_asm); (case kK_730 => first | exact rfl | assumption); (case C_730 => exact width_spec _ _ _ _ _ _ _ (by assumption) (by lgec_go) (by assumption) (by k_all) (by k_all)); (case kd_730 => first | exact fastD (by assumption) (by decide) | ktr_room); (case ku_730 => first | exact fastU (by assumption) (by decide) | ktr_units); k_whole; intro r' n' h' tk' F' N' hr'; refine hideG ?_; intro G0; (obtain ⟨e1', e2', new', q', hP', en', hA', hn'⟩ := hr'); subst en'; (first | (obtain ⟨rest', htl', N9', hG', hsn'⟩ := grow7 N' (Above.apart hA') rfl rfl) | (obtain ⟨rest', htl', N9', hG', hsn'⟩ := grow6 N' (Above.apart hA') rfl rfl) | (obtain ⟨rest', htl', N9', hG', hsn'⟩ := grow5 N' (Above.apart hA') rfl rfl) | (obtain ⟨rest', htl', N9', hG', hsn'⟩ := grow4 N' (Above.apart hA') rfl rfl) | (obtain ⟨rest', htl', N9', hG', hsn'⟩ := grow3 N' (Above.apart hA') rfl rfl) | (obtain ⟨rest', htl', N9', hG', hsn'⟩ := grow2 N' (Above.apart hA') rfl rfl) | (obtain ⟨rest', htl', N9', hG', hsn'⟩ := grow1 N' (Above.apart hA') rfl rfl) | (obtain ⟨rest', htl', N9', hG', hsn'⟩ := grow0 N' (Above.apart hA') rfl rfl)); clear N'; (try dsimp only at hG'); (dsimp only [G0]); (try clear G0); (try k_sweep))) | refine Stop.mk ?_)
  trivial
local macro_rules | `(tactic| walk_at "pyIter ref") => `(tactic| ((with_reducible show wpAny _ _ (pyIter (Value.ref _)) (fun it s₂ => LoopAtV _ _ _ _ _ _ _ _ _ it s₂) _ _); refine Stop.mk ?_))
theorem kw_P1_1 : True := by
  k_with "setItem ref int" => (k_dflt (refine' kda_set (knd := PySem.intKind _ _) ?F_731 ?N_731 ?U_731 ?d_731 (intKind_is _ _ _ _) ?z_731 ?_; (case F_731 => k_asm); (case N_731 => k_asm); (case U_731 => k_updF); (case d_731 => assumption); (case z_731 => rw [sizeLine_eq]; lgec_go)); intro h' o' F' N' hd'; (try dsimp only at N'))
  trivial
inductive PlainR (w : World) (rest : Led) (p c : Addr) (e1 e2 : Obj) (Bd : Int) : Value → Led → Prop
  | mk (e1' e2' : Obj) (d : Addr) (o : Obj) (new : Led) (kvs : List (Int × Value)) : PotIn (Bd + 100) c e1' e2' → Above ((p, e1) :: (c, e2) :: rest) ((d, o) :: new) → kvs.length ≤ 30 → (d == sysModules) = false → WidthsIn w new o kvs → PlainR w rest p c e1 e2 Bd (.ref d) ((p, e1') :: (c, e2') :: (d, o) :: (new ++ rest))
inductive PlainJ (w : World) (rest : Led) (p c d : Addr) (Bd : Int) (i : Nat) (m : Str → Option Value) : Led → Prop
  | mk (e1 e2 o : Obj) (new : Led) (kvs : List (Int × Value)) (code : Int) (t : Tok) : Has m [(Str.ofString "pot", .ref p), (Str.ofString "widths", .ref d), (Str.ofString "code", .int code t)] → PotIn (Bd + 2 + 15 * i) c e1 e2 →
    (∀ y ∈ new, @LT.lt Nat _ d y.1) → WidthsIn w new o kvs → kvs.length ≤ 6 * i → (∀ kv ∈ kvs, kv.1 < code) → 0 ≤ code → code ≤ 3 + 306 * i → PlainJ w rest p c d Bd i m ((p, e1) :: (c, e2) :: (d, o) :: (new ++ rest))
inductive PlainK (w : World) (new rest : Led) (p c lm I d : Addr) (e1 e2 ol oI : Obj) (r : Value) (code : Int) (i j : Nat) (m : Str → Option Value) : Led → Prop
  | mk (o : Obj) (kvs : List (Int × Value)) (t : Tok) : Has m [(Str.ofString "pot", .ref p), (Str.ofString "widths", .ref d), (Str.ofString "width", r), (Str.ofString "code", .int (code + j) t)] →
    WidthsIn w new o kvs → kvs.length ≤ 6 * i + j → (∀ kv ∈ kvs, kv.1 < code + j) → PlainK w new rest p c lm I d e1 e2 ol oI r code i j m ((p, e1) :: (c, e2) :: (lm, ol) :: (I, oI) :: (d, o) :: rest)
theorem plain_spec (w : World) (rest : Led) (p c : Addr) (e1 e2 : Obj) (Bd : Int) (hP : PotIn Bd c e1 e2) (hB : Bd + 100 < 1000000) (hpc : @Ne Nat p c) (offp : ∀ q ∈ rest, q.1 ≠ p) (offc : ∀ q ∈ rest, q.1 ≠ c) :
    Calls w 414 4 [.ref p] ((p, e1) :: (c, e2) :: rest) (PlainR w rest p c e1 e2 Bd) := by
  intro mean mg mb dp un gd cn cs a ccd cl outer A₀ base h₀ L m s Q E B F X N T hk hd hu hret
  k_steps
  refine Stop.on ?_
  rename_i d _ o _ hd0 _ hdi _ hpd hcd hrd _ _ _ _ code₀ tc hc00 hc01 _ _ _ _ _ _ _ _ _ _ _ hr F1 N1 _
  refine loop_range (J := PlainJ w rest p c d Bd) rfl hr (range_small (by decide) (by decide) (by lgec_go) (by lgec_go)) range_n0 F1 N1 ?h0 ?turn ?done
  case h0 =>
    exact .mk _ _ _ [] [] code₀ tc ⟨rfl, rfl, rfl, trivial⟩ (PotIn.mono hP' (by lgec_go)) (fun _ h => nomatch h) ⟨hdi, List.Pairwise.nil, (fun _ h => nomatch h)⟩ (Nat.zero_le _) (fun _ h => nomatch h) (by lgec_go) (by lgec_go)
  case turn =>
    rintro i t m₁ news₁ I oI h tk hi ⟨e1, e2, o, new, kvs, code, t2, hm, hP2, hA2, hW2, hlen, hlt, hc0, hc1⟩ offI ltI F2 N2
    replace F2 := pinned1 F2 hm
    simp only [pin] at F2
    have hG2 : GrowK [d] rest (new ++ rest) := GrowK.app hA2
    simp only [List.forall_mem_cons] at ltI
    (refine hideG ?_; intro G0)
    obtain ⟨ip, ic, id, ltI⟩ := ltI
    (dsimp only [G0]); clear G0
    replace ip := ltN ip
    replace ic := ltN ic
    replace id := ltN id
    have offI' : ∀ y ∈ new ++ rest, y.1 ≠ I := fun y hy => offI y (.tail _ (.tail _ (.tail _ hy)))
    have offd : ∀ y ∈ new ++ rest, y.1 ≠ d := hG2.off (by simp) (allLt_off hrd)
    have offp2 : ∀ y ∈ new ++ rest, y.1 ≠ p := fun y hy => (List.mem_append.mp hy).elim (fun q => Nat.ne_of_gt (Nat.lt_trans hpd (hA2 y q))) (offp y)
    have offc2 : ∀ y ∈ new ++ rest, y.1 ≠ c := fun y hy => (List.mem_append.mp hy).elim (fun q => Nat.ne_of_gt (Nat.lt_trans hcd (hA2 y q))) (offc y)
    clear offI ltI
    generalize htl : new ++ rest = tail at *
    k_steps
    refine Stop.on ?_
    rename_i lm _ hpl hcl hIl hdl hl1 _ _ xm tm hm0 hm1 _ _ _ _ _ _ _ _ _ _ _ _ _ _ _ _ _ _ _ hr3 F3 N3 _
    rename ((_ : Int) < 300) => hx300
    have hmenu := menu3 (by assumption) hx300 hm0 hm1
    generalize List.getD _ _ _ = g at *
    have offd' : ∀ y ∈ rest', y.1 ≠ d := by k_all
    have offl' : ∀ y ∈ rest', y.1 ≠ lm := by k_all
    have offp' : ∀ y ∈ rest', y.1 ≠ p := by k_all
    have offc' : ∀ y ∈ rest', y.1 ≠ c := by k_all
    have offI'' : ∀ y ∈ rest', y.1 ≠ I := by k_all
    generalize W.listOf _ _ = ol at *
    refine loop_range (J := PlainK w (new' ++ new) rest' p c lm I d e1' e2' ol oI r' (code + g) i) rfl hr3 (range_small (by decide) (by decide) (by lgec_go) (by lgec_go)) range_n0 F3 N3 ?h1 ?turn1 ?done1
    case h1 =>
      exact .mk o kvs _ ⟨rfl, rfl, rfl, read_int_eq rfl (by lgec_go), trivial⟩ (hW2.mono (fun y hy => List.mem_append_right _ hy)) (by lgec_go) (fun kv hk => by have := hlt kv hk; lgec_go)
    case turn1 =>
      rintro j t m₁ news₁ I2 oI2 h tk hj ⟨o, kvs, t3, hm, hW3, hlen3, hlt3⟩ offI2 ltI2 F2 N2
      replace F2 := pinned1 F2 hm
      simp only [pin] at F2
      simp only [List.forall_mem_cons] at offI2
      (refine hideG ?_; intro G0)
      obtain ⟨jp, jc, jl, jI, jd, offI2⟩ := offI2
      (dsimp only [G0]); clear G0
      replace jp := neN jp
      replace jc := neN jc
      replace jl := neN jl
      replace jI := neN jI
      replace jd := neN jd
      have hdd := hW3.is
      k_steps
      refine TurnJ.step (by k_asm) (by k_asm) ?_ (.mk _ _ _ ⟨rfl, rfl, rfl, read_int_eq rfl (by lgec_go), trivial⟩ (hW3.top hlt3 (by lgec_go) (by lgec_go) (hn'.mono fun y hy => List.mem_append_left _ hy) hd') ?_ ?_)
      · k_all
      · rw [List.length_append]; show kvs.length + 1 ≤ _; lgec_go
      · intro kv hk
        rcases List.mem_append.mp hk with hk | hk
        · have := hlt3 kv hk; lgec_go
        · rw [List.mem_singleton.mp hk]; show code + g + j < _; lgec_go
    case done1 =>
      rintro m₁ news₁ h tk ⟨o, kvs, t3, hm, hW3, hlen3, hlt3⟩ F2 N2
      replace F2 := pinned F2 hm
      simp only [pin] at F2
      k_steps
      refine TurnJ.step (by k_asm) (fun q hq => N2 q (?_)) ?_ (.mk _ _ o ((lm, ol) :: (new' ++ new)) kvs _ _ ⟨rfl, rfl, rfl, trivial⟩ (PotIn.mono hP' (by lgec_go)) ?_ ?_ ?_ ?_ ?_ ?_)
      · rw [htl', ← htl]
        exact mem_turn hq
      · refine List.forall_mem_cons.mpr ⟨by k_ne, List.forall_mem_cons.mpr ⟨by k_ne, List.forall_mem_cons.mpr ⟨by k_ne, fun y hy => ?_⟩⟩⟩
        rcases List.mem_cons.mp (show y ∈ (lm, ol) :: ((new' ++ new) ++ rest) from hy) with rfl | hy
        · show lm ≠ I
          k_ne
        · exact offI'' y (by rw [htl', ← htl]; rwa [List.append_assoc] at hy)
      · have hd1 : ∀ y ∈ new', @LT.lt Nat _ d y.1 := hA' _ (.tail _ (.tail _ (.tail _ (.tail _ (.head _)))))
        exact List.forall_mem_cons.mpr ⟨hdl, fun y hy => (List.mem_append.mp hy).elim (hd1 y) (hA2 y)⟩
      · exact hW3.mono fun y hy => .tail _ hy
      · lgec_go
      · lgec_go
      · lgec_go
      · lgec_go
  case done =>
    rintro m₁ news₁ h tk ⟨e1, e2, o, new, kvs, code, t2, hm, hP2, hA2, hW2, hlen, hlt, hc0, hc1⟩ F2 N2
    replace F2 := pinned F2 hm
    simp only [pin] at F2
    k_steps
    exact hret _ _ _ _ (by k_asm) (by k_asm) (.mk _ _ d o new kvs (PotIn.mono hP2 (by lgec_go)) (above_top hpd hcd hrd hA2) (by lgec_go) (by assumption) hW2)

end
section
theorem kw_FA_0 : True := by
  k_with_none
  k_with "om" => first | decide | (with_reducible first | apply om1 <;> assumption | apply om2 <;> assumption | apply om5 <;> assumption | apply om9 <;> assumption | apply om11 <;> assumption | apply om12 <;> assumption | apply om38 <;> assumption | apply om40 <;> assumption | apply om41 <;> assumption | apply om42 <;> assumption | apply om107 <;> assumption | apply om108 <;> assumption | apply om452 <;> assumption | apply om453 <;> assumption)
  k_with "k_ne" => (refine neN ?_; (try dsimp only); first | with_reducible assumption | lgec_go)
  k_with "fold_depth" => first | ((with_reducible show wpAny _ (Around.deeper (ktrTop _ _ _ _ _ _ _ _ _ _) _) _ _ _ _); refine wp_fold4 ?_; intro A1 q0 e0) | (refine wp_fold2 ?_; intro q00 e00)
  k_with "fold_lay" => ((show wpAny _ _ _ _ _ _); first | (fail_if_success k_fold) | ((try clear qf); refine wp_fold ?_; intro qf))
  k_with "k_steps" => ((try dsimp only); (try fold_lay); repeat' (first | (k_unfold; (try dsimp only)) | (k_end; wrow_close) | (walk1; (try ((first | (with_reducible show wpAny _ _ (exec _ _) _ _ _) | (with_reducible show wpAny _ _ (execs _ _) _ _ _)); (try dsimp only); fold_lay))) | (dsimp only; walk1) | (leave1; walk_say "STEP leave1"; try dsimp only) | fail "no step"))
  k_with "k_room" => first | exact fastR (by assumption) | ktr_room | (simp only [A1]; ktr_room)
  k_with "k_units" => first | ktr_units | (simp only [A1]; ktr_units)
  k_with "k_enter" => (refine' code_defC ?k1_737 ?k2_737 ?k3_737 ?k4_737 ?k5_737 ?kA_737 ?kF_737 ?kK_737 ?k6_737 ?k7_737 ?k8_737 ?k9_737 ?kB_737 ?kD_737 ?_ ?c2_737 ?c3_737 ?c4_737; (case kA_737 => exact rfl); (case kF_737 => exact rfl); (case kK_737 => assumption); (case k1_737 => k_asm); (case k2_737 => k_asm); (case k3_737 => k_asm); (case k4_737 => k_asm); (case k5_737 => k_asm); (case k6_737 => k_is); (case k7_737 => k_is); (case k8_737 => k_room); (case k9_737 => first | exact BindsTo.of_eq rfl | exact binds_K (by k_in) rfl (by k_is) rfl rfl rfl); (case kB_737 => exact rfl); (case kD_737 => decide +kernel); (case c2_737 => exact rfl); (case c3_737 => exact rfl); (case c4_737 => exact rfl); k_whole; intro g' L' h' tk' cells' FG' F' N' Y' B' X' T' l1; (try k_lt l1); refine hideG ?_; intro G0; k_cells Y'; (dsimp only [G0]); (try clear G0); (try simp only [List.cons_append, List.nil_append] at N'); (try dsimp only); (try fold_depth))
  k_with "k_enter" => (refine' code_def ?k1_738 ?k2_738 ?k3_738 ?k4_738 ?k5_738 ?kA_738 ?kF_738 ?kK_738 ?k6_738 ?k7_738 ?k8_738 ?k9_738 ?kB_738 ?_ ?c2_738 ?c3_738 ?c4_738 ?c5_738; (case kA_738 => exact rfl); (case kF_738 => exact rfl); (case kK_738 => assumption); (case k1_738 => k_asm); (case k2_738 => k_asm); (case k3_738 => k_asm); (case k4_738 => k_asm); (case k5_738 => k_asm); (case k6_738 => k_is); (case k7_738 => k_is); (case k8_738 => k_room); (case k9_738 => first | exact BindsTo.of_eq rfl | exact binds_K (by k_in) rfl (by k_is) rfl rfl rfl); (case c5_738 => decide); (case kB_738 => exact locs rfl); (case c2_738 => exact rfl); (case c3_738 => exact rfl); (case c4_738 => exact rfl); k_whole; intro g' L' h' FG' F' N' B' X' T'; (try dsimp only); (try fold_depth))
  k_with "klt" => skip
  k_with "k_all" => first | exact List.forall_mem_nil _ | (with_reducible refine List.forall_mem_cons.mpr ⟨?_, ?_⟩; (focus k_ne); k_all) | with_reducible assumption | with_reducible exact allLt_off (by with_reducible assumption) | with_reducible exact lt_off (by with_reducible assumption) | with_reducible exact off1_off (by with_reducible assumption) | with_reducible exact off3_1 (by with_reducible assumption) | with_reducible exact off3_2 (by with_reducible assumption) | with_reducible exact off3_3 (by with_reducible assumption) | (with_reducible refine GrowK.off (by with_reducible assumption) ?_ ?_; (focus simp only [List.mem_cons, true_or, or_true]); k_all)
  k_with "tb_rel" => with_reducible first | assumption | exact sub_self | (refine sub_tail ?_; tb_rel) | (refine sub_growK (by assumption) ?_; tb_rel) | (refine sub_app ?_ ?_; (focus tb_rel); tb_rel) | (refine sub_consApp ?_; tb_rel) | (refine sub_appL ?_; tb_rel) | (refine sub_appR ?_; tb_rel)
  k_with "k_mem" => (refine sub_mem ?_ (by assumption); tb_rel)
  k_with "call builtin:len" => ((with_reducible show wpAny _ _ (call (Value.builtin "len") [Value.ref _]) _ _ _); k_dflt (refine' lst_len ?k1_742 ?k2_742 ?k3_742 ?_; (case k1_742 => k_asm); (case k2_742 => k_mem); (case k3_742 => lgec_go); k_whole))
  k_with "truthy ref" => (k_dflt (refine' lst_truthy ?k1_743 ?k2_743 ?k3_743 ?_; (case k1_743 => k_asm); (case k2_743 => k_mem); (case k3_743 => lgec_go); k_whole))
  k_with "call builtin:list.append" => ((with_reducible show wpAny _ _ (call (Value.builtin _) [Value.ref _, _]) _ _ _); k_dflt (refine' lst_append ?k1_744 ?k2_744 ?k3_744 ?k4_744 ?_; (case k1_744 => k_asm); (case k2_744 => k_asm); (case k3_744 => k_upd); (case k4_744 => lgec_go); k_whole); intro h' F' N'; (try k_sweep))
  k_with "call builtin:list.extend" => ((with_reducible show wpAny _ _ (call (Value.builtin _) [Value.ref _, Value.ref _]) _ _ _); k_dflt (refine' lst_extend ?k1_745 ?k2_745 ?k3_745 ?k4_745 ?k5_745 ?_; (case k1_745 => k_asm); (case k2_745 => k_asm); (case k3_745 => k_updF); (case k4_745 => k_mem); (case k5_745 => first | (simp only [List.length_take, List.length_drop, List.length_append, List.length_cons, List.length_nil]; lgec_go) | lgec_go); k_whole); intro h' n' F' N'; (try dsimp only at N'); (try k_sweep))
  k_with "binaryOp Add" => ((with_reducible show wpAny _ _ (binaryOp Operator.Add (Value.ref _) (Value.ref _)) _ _ _); k_dflt (refine' lst_add ?k1_746 ?k2_746 ?k3_746 ?k4_746 ?k5_746 ?_; (case k1_746 => k_asm); (case k2_746 => k_asm); (case k3_746 => k_mem); (case k4_746 => k_mem); (case k5_746 => first | (simp only [List.length_cons, List.length_nil]; lgec_go) | lgec_go); k_whole); intro l' h' F' N' l1; (try k_lt l1); (try k_sweep))
  k_with "binaryOp Add ref ref" => ((with_reducible show wpAny _ _ (binaryOp Operator.Add (Value.ref _) (Value.ref _)) _ _ _); k_dflt (refine' lst_add ?k1_747 ?k2_747 ?k3_747 ?k4_747 ?k5_747 ?_; (case k1_747 => k_asm); (case k2_747 => k_asm); (case k3_747 => k_mem); (case k4_747 => k_mem); (case k5_747 => first | (simp only [List.length_cons, List.length_nil]; lgec_go) | lgec_go); k_whole); intro l' h' F' N' l1; (try k_lt l1); (try k_sweep))
  k_with "subscriptTail Name Slice ref ref" => ((with_reducible show wpAny _ _ (subscriptTail _ _ (Value.ref _) (Value.ref _)) _ _ _); k_dflt (refine' lst_slice ?k1_748 ?k2_748 ?k3_748 ?k4_748 ?k5_748 ?k6_748 ?_; (case k1_748 => k_asm); (case k2_748 => k_asm); (case k3_748 => k_mem); (case k4_748 => lgec_go); (case k5_748 => lgec_go); (case k6_748 => lgec_go); k_whole); intro l' h' F' N' l1; (try k_lt l1); (try k_sweep))
  k_with "k_all" => with_reducible exact cell_off (by with_reducible assumption)
  k_with "call ref" => ((with_reducible first | show wpAny _ _ (call (Value.ref 393) _) _ _ _ | show wpAny _ _ (call (Value.ref 407) _) _ _ _ | show wpAny _ _ (call (Value.ref 414) _) _ _ _ | show wpAny _ _ (call (Value.ref 424) _) _ _ _ | show wpAny _ _ (call (Value.ref 429) _) _ _ _ | show wpAny _ _ (call (Value.ref 448) _) _ _ _ | show wpAny _ _ (call (Value.ref 455) _) _ _ _ | show wpAny _ _ (call (Value.ref 355) _) _ _ _ | show wpAny _ _ (call (Value.ref 362) _) _ _ _ | show wpAny _ _ (call (Value.ref 194) _) _ _ _); refine Stop.mk ?_)
  trivial
theorem off3c {a b c d : Addr} {oa ob oc : Obj} (h : ∀ q ∈ [(a, oa), (b, ob), (c, oc)], q.1 ≠ d) : @Ne Nat a d ∧ @Ne Nat b d ∧ @Ne Nat c d := ⟨h _ (.head _), h _ (.tail _ (.head _)), h _ (.tail _ (.tail _ (.head _)))⟩
theorem both_own {M : Model} {A : Around} {env : Env} {E E₁ : Value → Shared → Prop} {Q₁ : Value → Shared → Prop} (h : E = fun e s' => wpAny M A (PySem.leaving env e) (fun _ s'' => Q₁ e s'') E₁ s') : PassesOwn M A env E ∧ ∀ x : Option Value, PassesOwnAt M (A.mark x) A env E := by
  subst h
  exact ⟨PassesOwn.leaving, fun x => PassesOwnAt.leavingOf (SameStack.mark _ _)⟩
theorem law_sub1 {p c d a b e : Addr × Obj} {new R : Led} : ∀ y ∈ new ++ R, y ∈ p :: c :: d :: (new ++ (a :: b :: e :: R)) := subL [p, c, d, a, b, e] [new, R] (.a (.s 0) (.s 1)) (.c 0 (.c 1 (.c 2 (.a (.s 0) (.c 3 (.c 4 (.c 5 (.s 1)))))))) rfl
theorem law_cut1 {h₀ h : Heap} {L : Addr} {p c d a b e : Addr × Obj} {new R : Led} (N : News h₀ L h (p :: c :: d :: (new ++ (a :: b :: e :: R)))) : News h₀ L h (p :: c :: a :: b :: e :: R) := fun q hq => N q (subL [p, c, a, b, e, d] [R, new] (.c 0 (.c 1 (.c 2 (.c 3 (.c 4 (.s 0)))))) (.c 0 (.c 1 (.c 5 (.a (.s 1) (.c 2 (.c 3 (.c 4 (.s 0)))))))) rfl q hq)
structure Hid (P : Prop) : Prop where
  out : P
noncomputable def law_a : (P : Prop) ×' (Hid P → PySem.Challenge.rw_nn0211_01.Holds) := by
  refine' ⟨_, fun hP => ?_⟩
  rotate_left
  · refine hd (by rfl) (by rfl) (by rfl) ?_
    k_go0
    try k_fold
    k_steps
    dsimp only [qf]
    clear qf
    rename Below _ _ _ _ => K0
    rename (hd.heap_39 _).In _ => X
    rename Top _ _ _ _ _ _ => T
    rename Heap.IsList _ _ _ => hL
    rename IntsAre _ _ => hI
    rename Fr _ _ _ _ => F0
    rename News _ _ _ _ => N0
    rename CellsAre _ _ _ => X0
    rename Shared => s1
    replace K0 : Below callerA s1.heap [] s1.heap := K0
    rename ¬ (_ : Int) < _ => hlen
    rename s1.gens = _ => hg
    rename_i h1 tk1 o3 o2 o1 dd3 dd2 dd1
    have hq : ∀ (h : Heap) (L : Addr) (tk : Nat) (dr : Drawn) (m : Str → Option Value), Fr s1.heap L h m → qk (.ret (.bool true)) { heap := h, gens := s1.gens, drawn := dr, toks := tk, os := s1.os } := fun h L tk dr m Fz => by
      show GoodW _ _ _ _ _ _ _
      exact goodW_bool Fz hg (fun _ => rfl) (by refine' postW_of ?hs1 ?hv1 ?he1; (case hs1 => o_shape); (case hv1 => wtm_val); (case he1 => w_fin))
    obtain ⟨hE, hE2⟩ := both_own (E := ek) rfl
    clear_value qk ek
    have hls := hI.length
    have hlen' := Int.not_lt.mp hlen
    rename Ground _ _ _ _ _ _ _ _ _ => zz; clear zz
    rename Tables _ _ _ _ => zz; clear zz
    rename TopE _ _ _ _ => zz; clear zz
    rename TopW _ _ _ => zz; clear zz
    rename Glob _ _ _ _ _ _ _ _ => zz; clear zz
    rename LooseAre _ _ _ => zz; clear zz
    rename BMod _ _ _ _ _ => zz; clear zz
    rename Heap.CodeRec _ _ _ => zz; clear zz
    rename Dflts _ _ _ _ _ _ => zz; clear zz
    rename Well _ _ _ _ => zz; clear zz
    rename Reads _ _ _ _ => zz; clear zz
    rename ReadsAll _ _ _ _ => zz; clear zz
    rename ReadsAllW _ _ _ _ _ _ => zz; clear zz
    clear X0 hg
    generalize hLs : s1.heap.objs.size = L at *
    refine Stop.on ?_
    refine CallsB.use (P := fun h => h.IsList _ _) hL K0 F0 X N0 T rfl (pot_spec _ _ _ _ _ hI (by lgec_go)) (by decide) (by decide) ?_
    rintro r news' h2 tk2 F2 N2 hX9
    revert N2
    (refine hideG ?_; intro G0)
    obtain ⟨p, c, e1, e2, rfl, hP, rfl, hpc, offp, offc⟩ := hX9
    (dsimp only [G0]); clear G0
    intro N2
    (refine hideG ?_; intro G0)
    obtain ⟨np3, np2, np1⟩ := off3c offp
    obtain ⟨nc3, nc2, nc1⟩ := off3c offc
    (dsimp only [G0]); clear G0
    clear offp offc
    k_steps
    try dsimp only [qf]
    try clear qf
    rename Fr _ _ _ _ => F3
    rename News _ _ _ _ => N3
    rename _ = Data.cell (some _) => d1
    refine Stop.on ?_
    refine Calls.use K0 F3 X N3 T rfl (width_spec _ [(L + 1 + 1 + 1, o3), (L + 1 + 1, o2), (L + 1, _)] p c e1 e2 0 hP (by decide) hpc (by k_all) (by k_all)) (by decide) (by decide) ?_
    rintro r news' h4 tk4 F4 N4 hX9
    revert N4
    (refine hideG ?_; intro G0)
    obtain ⟨e1', e2', new4, qd, hP4, rfl, hA4, hn4⟩ := hX9
    (dsimp only [G0]); clear G0
    intro N4
    (refine hideG ?_; intro G0)
    obtain ⟨R4, hR4, N4, G4, s4⟩ := grow3 (rest := []) N4 (Above.apart hA4) rfl rfl
    (dsimp only [G0]); clear G0
    dsimp only at G4
    replace hn4 := hn4.mono s4
    clear hA4 hP F3 N3
    k_steps
    try dsimp only [qf]
    try clear qf
    rename Fr _ _ _ _ => F4
    rename News _ _ _ _ => N4
    refine Stop.on ?_
    refine Calls.use K0 F4 X N4 T rfl (plain_spec _ (_ :: _ :: _ :: R4) p c e1' e2' (0 + 3) hP4 (by decide) hpc (by k_all) (by k_all)) (by decide) (by decide) ?_
    rintro _ _ h5 tk5 F5 N5 hX9
    revert N5
    obtain ⟨e1'', e2'', d5, o5, new5, kvs5, hP5, hA5, hz5, lo5, hW5⟩ := hX9
    intro N5
    clear hA5 hP4 F4 N4
    k_steps
    try dsimp only [qf]
    try clear qf
    rename Fr _ _ _ _ => F5
    rename News _ _ _ _ => N5
    obtain ⟨kn5, hK5⟩ := hW5.kv
    refine Stop.on ?_
    refine Calls.use K0 F5 X N5 T rfl (isw_spec _ _ (new5 ++ R4) d5 o5 kvs5 kn5 r qd (.tail _ (.tail _ (.head _))) hW5.is lo5 hW5.rising hz5 (hK5.mono fun y hy => List.mem_append_left _ hy) law_sub1 (hn4.mono fun y hy => List.mem_append_right _ hy) fun kv hk => ⟨(hW5.nums kv hk).1, (hW5.nums kv hk).2.1⟩) (by decide) (by decide) ?_
    rintro r6 news' h6 tk6 F6 N6 ⟨rfl, rfl⟩
    replace N6 := law_cut1 N6
    clear hW5 hK5 F5 N5 lo5 hz5
    k_steps
    try dsimp only [qf]
    try clear qf
    refine Stop.on ?_
    refine Calls.use K0 F6 X N6 T rfl (drawn_spec _ (_ :: _ :: _ :: R4) p c e1'' e2'' (0 + 3 + 100) hP5 (by decide) hpc (by k_all) (by k_all)) (by decide) (by decide) ?_
    rintro _ _ h7 tk7 F7 N7 hX9
    revert N7
    obtain ⟨f1, f2, a7, vs7, k7, new7, ps, hP7, hA7, hm7, hps7, hz7⟩ := hX9
    intro N7
    (refine hideG ?_; intro G0)
    obtain ⟨R7, hR7, N7, G7, s7⟩ := grow3 (rest := R4) N7 hA7 rfl rfl
    (dsimp only [G0]); clear G0
    dsimp only at G7
    replace hps7 := hps7.mono s7
    replace hm7 := s7 _ hm7
    replace hn4 := hn4.mono G7.sub
    clear hA7 hP5 F6 N6
    k_steps
    try dsimp only [qf]
    try clear qf
    rename Fr _ _ _ _ => F7
    rename News _ _ _ _ => N7
    refine Stop.on ?_
    refine Calls.use K0 F7 X N7 T rfl (read_spec _ _ R7 a7 vs7 k7 ps (by k_mem) hps7 (by tb_rel) hz7) (by decide) (by decide) ?_
    rintro r8 news' h8 tk8 F8 N8 hX9
    revert N8
    obtain ⟨new8, rfl, hA8, hdue⟩ := hX9
    intro N8
    (refine hideG ?_; intro G0)
    obtain ⟨R8, hR8, N8, G8, s8⟩ := gro5 (rest := R7) N8 hA8
    (dsimp only [G0]); clear G0
    dsimp only at G8
    clear hA8 F7 N7
    k_steps
    try dsimp only [qf]
    try clear qf
    rename_i w s0 mg mb z5 fa z7 z8 z9 z10 z12 z14 z15 cdA z17 ns z19 z20 z21 z22 z23 z24 z25 lS vs0 z28 hI z32 qk0 ek0 z63 o1' z78 z79 z109 z110 z120 z121 Tt z123 oT loT z126 z127 hkT z129 t130 t131 t132 t133 t134 aT T2 z137 oT2 z139 z140 z141 z142 z143 t144 t145 t146 t147 t148 t149 aT2 S sd z153 t154 t155 t156 t157 t158 t159 t160 aSd t162 z163 z164 z165 z166 z167 z168 z172 z173 _ z174 z175 z176 _ z177 z178 z179 o2' d2 lA z183 t184 t185 t186 t187 t188 t189 t190 t191 t192 aLA h9 F9 N9
    try dsimp only [qf]
    try clear qf
    revert w s0 s1 mg mb z5 fa z7 z8 z9 z10 X z12 T z14 z15 cdA z17 ns z19 z20 z21 z22 z23 z24 z25 lS vs0 z28 hL hI hlen z32 h1 tk1 o3 o2 o1 qk0 ek0 K0 hq hls hlen' L hLs dd3 dd2 dd1 hE hE2 h2 tk2 p c e1 e2 hpc np3 np2 np1 nc3 nc2 nc1 z63 o1' d1 r h4 tk4 e1' e2' new4 qd R4 hR4 G4 s4 z78 z79 h5 tk5 e1'' e2'' d5 o5 new5 kvs5 kn5 h6 tk6 h7 tk7 f1 f2 a7 vs7 k7 new7 ps hP7 hz7 R7 hR7 G7 s7 hps7 hm7 hn4 z109 z110 r8 h8 tk8 new8 hdue R8 hR8 G8 s8 z120 z121 Tt z123 oT loT z126 z127 hkT z129 t130 t131 t132 t133 t134 aT T2 z137 oT2 z139 z140 z141 z142 z143 t144 t145 t146 t147 t148 t149 aT2 S sd z153 t154 t155 t156 t157 t158 t159 t160 aSd t162 z163 z164 z165 z166 z167 z168 lifted qk ek z172 z173 z174 z175 z176 z177 z178 z179 o2' d2 lA z183 t184 t185 t186 t187 t188 t189 t190 t191 t192 aLA h9 F9 N9 tk
    revert tk
    revert tk
    exact hP.out

end
section
theorem kw_LP_0 : True := by
  k_with_none
  k_with "om" => first | decide | (with_reducible first | apply om454 <;> assumption | apply om455 <;> assumption | apply om456 <;> assumption | apply om457 <;> assumption | apply om458 <;> assumption | apply om459 <;> assumption | apply om460 <;> assumption | apply om461 <;> assumption | apply om462 <;> assumption | apply om463 <;> assumption | apply om464 <;> assumption | apply om465 <;> assumption)
  k_with "k_ne" => (refine neN ?_; (try dsimp only); first | with_reducible assumption | lgec_go)
  k_with "fold_depth" => first | ((with_reducible show wpAny _ (Around.deeper (ktrTop _ _ _ _ _ _ _ _ _ _) _) _ _ _ _); refine wp_fold4 ?_; intro A1 q0 e0) | (refine wp_fold2 ?_; intro q00 e00)
  k_with "fold_lay" => ((show wpAny _ _ _ _ _ _); first | (fail_if_success k_fold) | ((try clear qf); refine wp_fold ?_; intro qf))
  k_with "k_steps" => ((try dsimp only); (try fold_lay); repeat' (first | (k_unfold; (try dsimp only)) | (k_end; wrow_close) | (walk1; (try ((first | (with_reducible show wpAny _ _ (exec _ _) _ _ _) | (with_reducible show wpAny _ _ (execs _ _) _ _ _)); (try dsimp only); fold_lay))) | (dsimp only; walk1) | (leave1; walk_say "STEP leave1"; try dsimp only) | fail "no step"))
  k_with "k_room" => first | exact fastR (by assumption) | ktr_room | (simp only [A1]; ktr_room)
  k_with "k_units" => first | ktr_units | (simp only [A1]; ktr_units)
  k_with "k_enter" => (refine' code_defC ?k1_756 ?k2_756 ?k3_756 ?k4_756 ?k5_756 ?kA_756 ?kF_756 ?kK_756 ?k6_756 ?k7_756 ?k8_756 ?k9_756 ?kB_756 ?kD_756 ?_ ?c2_756 ?c3_756 ?c4_756; (case kA_756 => exact rfl); (case kF_756 => exact rfl); (case kK_756 => assumption); (case k1_756 => k_asm); (case k2_756 => k_asm); (case k3_756 => k_asm); (case k4_756 => k_asm); (case k5_756 => k_asm); (case k6_756 => k_is); (case k7_756 => k_is); (case k8_756 => k_room); (case k9_756 => first | exact BindsTo.of_eq rfl | exact binds_K (by k_in) rfl (by k_is) rfl rfl rfl); (case kB_756 => exact rfl); (case kD_756 => decide +kernel); (case c2_756 => exact rfl); (case c3_756 => exact rfl); (case c4_756 => exact rfl); k_whole; intro g' L' h' tk' cells' FG' F' N' Y' B' X' T' l1; (try k_lt l1); refine hideG ?_; intro G0; k_cells Y'; (dsimp only [G0]); (try clear G0); (try simp only [List.cons_append, List.nil_append] at N'); (try dsimp only); (try fold_depth))
  k_with "k_enter" => (refine' code_def ?k1_757 ?k2_757 ?k3_757 ?k4_757 ?k5_757 ?kA_757 ?kF_757 ?kK_757 ?k6_757 ?k7_757 ?k8_757 ?k9_757 ?kB_757 ?_ ?c2_757 ?c3_757 ?c4_757 ?c5_757; (case kA_757 => exact rfl); (case kF_757 => exact rfl); (case kK_757 => assumption); (case k1_757 => k_asm); (case k2_757 => k_asm); (case k3_757 => k_asm); (case k4_757 => k_asm); (case k5_757 => k_asm); (case k6_757 => k_is); (case k7_757 => k_is); (case k8_757 => k_room); (case k9_757 => first | exact BindsTo.of_eq rfl | exact binds_K (by k_in) rfl (by k_is) rfl rfl rfl); (case c5_757 => decide); (case kB_757 => exact locs rfl); (case c2_757 => exact rfl); (case c3_757 => exact rfl); (case c4_757 => exact rfl); k_whole; intro g' L' h' FG' F' N' B' X' T'; (try dsimp only); (try fold_depth))
  trivial
theorem Laid.mono {w : World} {ro ro' : Led} {kvs kvs' : List (Int × Value)} {r v : Value} (h : Laid w ro kvs r v) (hs : ∀ y ∈ ro, y ∈ ro') (hv : ∀ k x, valueAt kvs k = some x → valueAt kvs' k = some x) : Laid w ro' kvs' r v := by
  cases h with
  | self => exact .self
  | far a b c d e f => exact .far (hs _ a) (hs _ b) (hv _ _ c) (hs _ d) e f
theorem LAts.mono {w : World} {ro ro' : Led} {kvs kvs' : List (Int × Value)} {vs : List Value} {as : List Atom} (h : LAts w ro kvs vs as) (hs : ∀ y ∈ ro, y ∈ ro') (hv : ∀ k x, valueAt kvs k = some x → valueAt kvs' k = some x) : LAts w ro' kvs' vs as := by
  induction h with
  | nil => exact .nil
  | cons a b _ ih => exact .cons (a.mono hs hv) (b.mono hs) ih
theorem LAts.snoc {w : World} {ro : Led} {kvs : List (Int × Value)} {vs : List Value} {as : List Atom} {v' v : Value} {a : Atom} (h : LAts w ro kvs vs as) (h1 : Laid w ro kvs v' v) (h2 : AtomIn w ro v a) : LAts w ro kvs (vs ++ [v']) (as ++ [a]) := by
  induction h with
  | nil => exact .cons h1 h2 .nil
  | cons a b _ ih => exact .cons a b ih
theorem LPt.mono {w : World} {ro ro' : Led} {kvs kvs' : List (Int × Value)} {v : Value} {p : Part} (h : LPt w ro kvs v p) (hs : ∀ y ∈ ro, y ∈ ro') (hv : ∀ k x, valueAt kvs k = some x → valueAt kvs' k = some x) : LPt w ro' kvs' v p := by
  cases h with
  | one a b c => exact .one (a.mono hs hv) (b.mono hs) c
  | list a b c d => exact .list (a.mono hs hv) (hs _ b) (c.mono hs hv) d
theorem LPts.mono {w : World} {ro ro' : Led} {kvs kvs' : List (Int × Value)} {vs : List Value} {ps : List Part} (h : LPts w ro kvs vs ps) (hs : ∀ y ∈ ro, y ∈ ro') (hv : ∀ k x, valueAt kvs k = some x → valueAt kvs' k = some x) : LPts w ro' kvs' vs ps := by
  induction h with
  | nil => exact .nil
  | cons a _ ih => exact .cons (a.mono hs hv) ih
theorem LPts.snoc {w : World} {ro : Led} {kvs : List (Int × Value)} {vs : List Value} {ps : List Part} {v : Value} {p : Part} (h : LPts w ro kvs vs ps) (g : LPt w ro kvs v p) : LPts w ro kvs (vs ++ [v]) (ps ++ [p]) := by
  induction h with
  | nil => exact .cons g .nil
  | cons a _ ih => exact .cons a ih
theorem take_one {α : Type} {l : List α} {i : Nat} {x : α} (h : l[i]? = some x) : l.take (i + 1) = l.take i ++ [x] := by
  rw [List.take_add_one, h]
  rfl
noncomputable def findCW (c : Int) (kn : List CW) : Option Num := (kn.find? fun x => x.1 = c).map (·.2)
theorem findCW_cons {c : Int} {x : CW} {kn : List CW} : findCW c (x :: kn) = if x.1 = c then some x.2 else findCW c kn := by
  unfold findCW
  rw [List.find?_cons]
  by_cases h : x.1 = c
  · rw [if_pos h, decide_eq_true h]
    rfl
  · rw [if_neg h, decide_eq_false h]
theorem valueAt_cons {c k : Int} {v : Value} {kvs : List (Int × Value)} : valueAt ((k, v) :: kvs) c = if k = c then some v else valueAt kvs c := by
  unfold valueAt
  rw [List.find?_cons]
  by_cases h : k = c
  · rw [if_pos h, decide_eq_true h]
    rfl
  · rw [if_neg h, decide_eq_false h]
theorem KvIn.find {w : World} {ro : Led} {kvs : List (Int × Value)} {kn : List CW} (h : KvIn w ro kvs kn) (c : Int) : (findCW c kn = none ∧ valueAt kvs c = none) ∨ ∃ v q, findCW c kn = some q ∧ valueAt kvs c = some v ∧ NumIn w ro v q := by
  induction h with
  | nil => exact .inl ⟨rfl, rfl⟩
  | cons hn _ ih =>
    rw [findCW_cons, valueAt_cons]
    split
    · exact .inr ⟨_, _, rfl, rfl, hn⟩
    · exact ih
theorem hit_many {c f : Int} {qs : List Num} : hitR c (.many f qs) = if f ≤ c ∧ c ≤ f + qs.length - 1 then qs[(c - f).toNat]? else none := rfl
theorem hit_span {c f l : Int} {q : Num} : hitR c (.span f l q) = if f ≤ c ∧ c ≤ l then some q else none := rfl
theorem find_listed (c : Int) : ∀ (qs : List Num) (f : Int), findCW c (listedCW f qs) = hitR c (.many f qs)
  | [], f => by
    rw [hit_many, if_neg (by simp only [List.length_nil]; lgec_go)]
    rfl
  | q :: qs, f => by
    rw [listedCW, findCW_cons, find_listed c qs (f + 1), hit_many, hit_many]
    dsimp only
    by_cases h : f = c
    · rw [if_pos h, if_pos (by simp only [List.length_cons]; lgec_go)]
      rw [show (c - f).toNat = 0 by lgec_go]
      rfl
    · rw [if_neg h]
      by_cases h2 : f + 1 ≤ c ∧ c ≤ f + 1 + qs.length - 1
      · rw [if_pos h2, if_pos (by simp only [List.length_cons]; lgec_go)]
        rw [show (c - f).toNat = (c - (f + 1)).toNat + 1 by lgec_go]
        rfl
      · rw [if_neg h2, if_neg (by simp only [List.length_cons]; lgec_go)]
theorem find_span (c : Int) (q : Num) : ∀ (n : Nat) (f : Int), findCW c (spanCW f n q) = if f ≤ c ∧ c < f + n then some q else none
  | 0, f => by
    rw [if_neg (by lgec_go)]
    rfl
  | n + 1, f => by
    rw [spanCW, findCW_cons, find_span c q n (f + 1)]
    by_cases h : f = c
    · rw [if_pos h, if_pos (by lgec_go)]
    · rw [if_neg h]
      by_cases h2 : f + 1 ≤ c ∧ c < f + 1 + n
      · rw [if_pos h2, if_pos (by lgec_go)]
      · rw [if_neg h2, if_neg (by lgec_go)]
theorem find_row (c : Int) (row : RRow) : findCW c (pairsR row) = hitR c row := by
  cases row with
  | many f qs => exact find_listed c qs f
  | span f l q =>
    show findCW c (spanCW f (l + 1 - f).toNat q) = _
    rw [find_span, hit_span]
    by_cases h : f ≤ c ∧ c ≤ l
    · rw [if_pos h, if_pos (by lgec_go)]
    · rw [if_neg h, if_neg (by lgec_go)]
theorem firstHit_snoc (c : Int) (row : RRow) : ∀ rows : List RRow, firstHit c (rows ++ [row]) = match firstHit c rows with | some q => some q | none => hitR c row
  | [] => by
    show (match hitR c row with | some q => some q | none => none) = hitR c row
    cases hitR c row <;> rfl
  | r :: rows => by
    show firstHit c (r :: (rows ++ [row])) = _
    rw [firstHit, firstHit]
    cases hitR c r with
    | some q => rfl
    | none => exact firstHit_snoc c row rows
noncomputable def ToldInv (w : World) (ro : Led) (c : Int) (rows : List RRow) (i : Nat) (ys : List Value) : Prop :=
  (ys = [] ∧ firstHit c (rows.take i) = none) ∨ ∃ v q tl, ys = v :: tl ∧ firstHit c (rows.take i) = some q ∧ NumIn w ro v q
theorem ToldInv.start {w : World} {ro : Led} {c : Int} {rows : List RRow} : ToldInv w ro c rows 0 [] := .inl ⟨rfl, rfl⟩
theorem ToldInv.miss {w : World} {ro : Led} {c : Int} {rows : List RRow} {i : Nat} {ys : List Value} {row : RRow} (h : ToldInv w ro c rows i ys) (hr : rows[i]? = some row) (hn : hitR c row = none) : ToldInv w ro c rows (i + 1) ys := by
  unfold ToldInv at *
  rw [take_one hr, firstHit_snoc, hn]
  rcases h with ⟨h1, h2⟩ | ⟨v, q, tl, h1, h2, h3⟩
  · exact .inl ⟨h1, by rw [h2]⟩
  · exact .inr ⟨v, q, tl, h1, by rw [h2], h3⟩
theorem ToldInv.hit {w : World} {ro : Led} {c : Int} {rows : List RRow} {i : Nat} {ys : List Value} {row : RRow} {v : Value} {q : Num} (h : ToldInv w ro c rows i ys) (hr : rows[i]? = some row) (hn : hitR c row = some q) (hv : NumIn w ro v q) : ToldInv w ro c rows (i + 1) (ys ++ [v]) := by
  unfold ToldInv at *
  rw [take_one hr, firstHit_snoc, hn]
  rcases h with ⟨h1, h2⟩ | ⟨v', q', tl, h1, h2, h3⟩
  · exact .inr ⟨v, q, [], by rw [h1]; rfl, by rw [h2], hv⟩
  · exact .inr ⟨v', q', tl ++ [v], by rw [h1]; rfl, by rw [h2], h3⟩
theorem RowsD.length {w : World} {ro : Led} {vs : List Value} {rows : List RRow} (h : RowsD w ro vs rows) : vs.length = rows.length := by
  induction h with
  | nil => rfl
  | cons _ _ ih => simp [ih]
theorem RowsD.at {w : World} {ro : Led} {vs : List Value} {rows : List RRow} (h : RowsD w ro vs rows) : ∀ (i : Nat) (v : Value), vs[i]? = some v → ∃ row, rows[i]? = some row ∧ RowD w ro v row := by
  induction h with
  | nil => intro i v h; simp at h
  | cons h _ ih =>
    intro i v hv
    cases i with
    | zero =>
      simp at hv
      subst hv
      exact ⟨_, rfl, h⟩
    | succ i => exact ih i v (by simpa using hv)
theorem sameN_self (q : Num) : sameN q q = true := by
  unfold sameN
  rw [beq_iff_eq]
theorem GrowK.more {ks : List Addr} {R0 R new : Led} (hG : GrowK ks R0 R) (h : ∀ d ∈ ks, ∀ y ∈ new, @Ne Nat y.1 d) : GrowK ks R0 (new ++ R) :=
  ⟨fun y hy => List.mem_append_right _ (hG.sub y hy), fun d hd y hy => (List.mem_append.mp hy).elim (fun q => .inr (h d hd y q)) (hG.new d hd y)⟩
section
variable {h₀ h : Heap} {L : Addr} {a b c d e f g i j k x : Addr × Obj} {R new : Led}
theorem mem7 (hx : x ∈ R) : x ∈ a :: b :: c :: d :: e :: f :: g :: R := .tail _ (.tail _ (.tail _ (.tail _ (.tail _ (.tail _ (.tail _ hx))))))
theorem law_n0 (N : News h₀ L h (d :: i :: j :: k :: c :: a :: b :: e :: f :: g :: R)) : News h₀ L h (a :: b :: c :: d :: e :: f :: g :: i :: j :: k :: R) := fun q hq => N q (subL [a, b, c, d, e, f, g, i, j, k] [R] (.c 0 (.c 1 (.c 2 (.c 3 (.c 4 (.c 5 (.c 6 (.c 7 (.c 8 (.c 9 (.s 0))))))))))) (.c 3 (.c 7 (.c 8 (.c 9 (.c 2 (.c 0 (.c 1 (.c 4 (.c 5 (.c 6 (.s 0))))))))))) rfl q hq)
theorem law_n1 (N : News h₀ L h (i :: a :: b :: c :: d :: e :: f :: g :: R)) : News h₀ L h (a :: b :: c :: i :: d :: e :: f :: g :: R) := fun q hq => N q (subL [a, b, c, i, d, e, f, g] [R] (.c 0 (.c 1 (.c 2 (.c 3 (.c 4 (.c 5 (.c 6 (.c 7 (.s 0))))))))) (.c 3 (.c 0 (.c 1 (.c 2 (.c 4 (.c 5 (.c 6 (.c 7 (.s 0))))))))) rfl q hq)
theorem law_n2 (N : News h₀ L h (a :: b :: c :: (new ++ (i :: d :: e :: f :: g :: R)))) : News h₀ L h (i :: a :: b :: c :: d :: e :: f :: g :: (new ++ R)) := fun q hq => N q (subL [i, a, b, c, d, e, f, g] [new, R] (.c 0 (.c 1 (.c 2 (.c 3 (.c 4 (.c 5 (.c 6 (.c 7 (.a (.s 0) (.s 1)))))))))) (.c 1 (.c 2 (.c 3 (.a (.s 0) (.c 0 (.c 4 (.c 5 (.c 6 (.c 7 (.s 1)))))))))) rfl q hq)
theorem law_n3 {I C D : Addr × Obj} (N : News h₀ L h (I :: C :: D :: i :: a :: b :: c :: d :: e :: f :: g :: R)) : News h₀ L h (a :: b :: c :: I :: C :: D :: i :: d :: e :: f :: g :: R) := fun q hq => N q (subL [a, b, c, I, C, D, i, d, e, f, g] [R] (.c 0 (.c 1 (.c 2 (.c 3 (.c 4 (.c 5 (.c 6 (.c 7 (.c 8 (.c 9 (.c 10 (.s 0)))))))))))) (.c 3 (.c 4 (.c 5 (.c 6 (.c 0 (.c 1 (.c 2 (.c 7 (.c 8 (.c 9 (.c 10 (.s 0)))))))))))) rfl q hq)
theorem law_n4 {I C D : Addr × Obj} : ∀ q ∈ I :: C :: D :: i :: a :: b :: c :: d :: e :: f :: g :: (new ++ R), q ∈ a :: b :: c :: (new ++ (I :: C :: D :: i :: d :: e :: f :: g :: R)) := subL [I, C, D, i, a, b, c, d, e, f, g] [new, R] (.c 0 (.c 1 (.c 2 (.c 3 (.c 4 (.c 5 (.c 6 (.c 7 (.c 8 (.c 9 (.c 10 (.a (.s 0) (.s 1))))))))))))) (.c 4 (.c 5 (.c 6 (.a (.s 0) (.c 0 (.c 1 (.c 2 (.c 3 (.c 7 (.c 8 (.c 9 (.c 10 (.s 1))))))))))))) rfl
theorem law_n5 {D : Addr × Obj} (N : News h₀ L h (D :: i :: a :: b :: c :: d :: e :: f :: g :: R)) : News h₀ L h (a :: b :: c :: D :: i :: d :: e :: f :: g :: R) := fun q hq => N q (subL [a, b, c, D, i, d, e, f, g] [R] (.c 0 (.c 1 (.c 2 (.c 3 (.c 4 (.c 5 (.c 6 (.c 7 (.c 8 (.s 0)))))))))) (.c 3 (.c 4 (.c 0 (.c 1 (.c 2 (.c 5 (.c 6 (.c 7 (.c 8 (.s 0)))))))))) rfl q hq)
theorem law_n6 {D : Addr × Obj} (N : News h₀ L h (a :: b :: c :: (new ++ (D :: i :: d :: e :: f :: g :: R)))) : News h₀ L h (i :: a :: b :: c :: d :: e :: f :: g :: (new ++ D :: R)) := fun q hq => N q (subL [i, a, b, c, d, e, f, g, D] [new, R] (.c 0 (.c 1 (.c 2 (.c 3 (.c 4 (.c 5 (.c 6 (.c 7 (.a (.s 0) (.c 8 (.s 1))))))))))) (.c 1 (.c 2 (.c 3 (.a (.s 0) (.c 8 (.c 0 (.c 4 (.c 5 (.c 6 (.c 7 (.s 1))))))))))) rfl q hq)
end
theorem keys7 {p c T l x y z : Addr} {P : Addr → Prop} (h1 : P p) (h2 : P c) (h3 : P T) (h4 : P l) (h5 : P x) (h6 : P y) (h7 : P z) : ∀ d ∈ [p, c, T, l, x, y, z], P d := fun d hd => by
  simp only [List.mem_cons, List.not_mem_nil, or_false] at hd
  rcases hd with rfl | rfl | rfl | rfl | rfl | rfl | rfl <;> assumption
theorem Tab.nil : Tab [] := ⟨fun _ h => nomatch h⟩

end
section
theorem kw_FB_0 : True := by
  k_with_none
  k_with "om" => first | decide | (with_reducible first | apply om104 <;> assumption | apply om109 <;> assumption | apply om466 <;> assumption | apply om467 <;> assumption | apply om468 <;> assumption | apply om469 <;> assumption | apply om470 <;> assumption | apply om471 <;> assumption | apply om472 <;> assumption | apply om473 <;> assumption | apply om474 <;> assumption | apply om475 <;> assumption | apply om476 <;> assumption | apply om477 <;> assumption)
  k_with "k_ne" => (refine neN ?_; (try dsimp only); first | with_reducible assumption | lgec_go)
  k_with "fold_depth" => first | ((with_reducible show wpAny _ (Around.deeper (ktrTop _ _ _ _ _ _ _ _ _ _) _) _ _ _ _); refine wp_fold4 ?_; intro A1 q0 e0) | (refine wp_fold2 ?_; intro q00 e00)
  k_with "fold_lay" => ((show wpAny _ _ _ _ _ _); first | (fail_if_success k_fold) | ((try clear qf); refine wp_fold ?_; intro qf))
  k_with "k_steps" => ((try dsimp only); (try fold_lay); repeat' (first | (k_unfold; (try dsimp only)) | (k_end; wrow_close) | (walk1; (try ((first | (with_reducible show wpAny _ _ (exec _ _) _ _ _) | (with_reducible show wpAny _ _ (execs _ _) _ _ _)); (try dsimp only); fold_lay))) | (dsimp only; walk1) | (leave1; walk_say "STEP leave1"; try dsimp only) | fail "no step"))
  k_with "k_room" => first | exact fastR (by assumption) | ktr_room | (simp only [A1]; ktr_room)
  k_with "k_units" => first | ktr_units | (simp only [A1]; ktr_units)
  k_with "k_enter" => (refine' code_defC ?k1_763 ?k2_763 ?k3_763 ?k4_763 ?k5_763 ?kA_763 ?kF_763 ?kK_763 ?k6_763 ?k7_763 ?k8_763 ?k9_763 ?kB_763 ?kD_763 ?_ ?c2_763 ?c3_763 ?c4_763; (case kA_763 => exact rfl); (case kF_763 => exact rfl); (case kK_763 => assumption); (case k1_763 => k_asm); (case k2_763 => k_asm); (case k3_763 => k_asm); (case k4_763 => k_asm); (case k5_763 => k_asm); (case k6_763 => k_is); (case k7_763 => k_is); (case k8_763 => k_room); (case k9_763 => first | exact BindsTo.of_eq rfl | exact binds_K (by k_in) rfl (by k_is) rfl rfl rfl); (case kB_763 => exact rfl); (case kD_763 => decide +kernel); (case c2_763 => exact rfl); (case c3_763 => exact rfl); (case c4_763 => exact rfl); k_whole; intro g' L' h' tk' cells' FG' F' N' Y' B' X' T' l1; (try k_lt l1); refine hideG ?_; intro G0; k_cells Y'; (dsimp only [G0]); (try clear G0); (try simp only [List.cons_append, List.nil_append] at N'); (try dsimp only); (try fold_depth))
  k_with "k_enter" => (refine' code_def ?k1_764 ?k2_764 ?k3_764 ?k4_764 ?k5_764 ?kA_764 ?kF_764 ?kK_764 ?k6_764 ?k7_764 ?k8_764 ?k9_764 ?kB_764 ?_ ?c2_764 ?c3_764 ?c4_764 ?c5_764; (case kA_764 => exact rfl); (case kF_764 => exact rfl); (case kK_764 => assumption); (case k1_764 => k_asm); (case k2_764 => k_asm); (case k3_764 => k_asm); (case k4_764 => k_asm); (case k5_764 => k_asm); (case k6_764 => k_is); (case k7_764 => k_is); (case k8_764 => k_room); (case k9_764 => first | exact BindsTo.of_eq rfl | exact binds_K (by k_in) rfl (by k_is) rfl rfl rfl); (case c5_764 => decide); (case kB_764 => exact locs rfl); (case c2_764 => exact rfl); (case c3_764 => exact rfl); (case c4_764 => exact rfl); k_whole; intro g' L' h' FG' F' N' B' X' T'; (try dsimp only); (try fold_depth))
  k_with "klt" => skip
  k_with "k_all" => first | exact List.forall_mem_nil _ | (with_reducible refine List.forall_mem_cons.mpr ⟨?_, ?_⟩; (focus k_ne); k_all) | with_reducible assumption | with_reducible exact allLt_off (by with_reducible assumption) | with_reducible exact lt_off (by with_reducible assumption) | with_reducible exact off1_off (by with_reducible assumption) | with_reducible exact off3_1 (by with_reducible assumption) | with_reducible exact off3_2 (by with_reducible assumption) | with_reducible exact off3_3 (by with_reducible assumption) | (with_reducible refine GrowK.off (by with_reducible assumption) ?_ ?_; (focus simp only [List.mem_cons, true_or, or_true]); k_all)
  k_with "tb_rel" => with_reducible first | assumption | exact sub_self | (refine sub_tail ?_; tb_rel) | (refine sub_growK (by assumption) ?_; tb_rel) | (refine sub_app ?_ ?_; (focus tb_rel); tb_rel) | (refine sub_consApp ?_; tb_rel) | (refine sub_appL ?_; tb_rel) | (refine sub_appR ?_; tb_rel)
  k_with "k_mem" => (refine sub_mem ?_ (by assumption); tb_rel)
  k_with "call builtin:len" => ((with_reducible show wpAny _ _ (call (Value.builtin "len") [Value.ref _]) _ _ _); k_dflt (refine' lst_len ?k1_768 ?k2_768 ?k3_768 ?_; (case k1_768 => k_asm); (case k2_768 => k_mem); (case k3_768 => lgec_go); k_whole))
  k_with "truthy ref" => (k_dflt (refine' lst_truthy ?k1_769 ?k2_769 ?k3_769 ?_; (case k1_769 => k_asm); (case k2_769 => k_mem); (case k3_769 => lgec_go); k_whole))
  k_with "call builtin:list.append" => ((with_reducible show wpAny _ _ (call (Value.builtin _) [Value.ref _, _]) _ _ _); k_dflt (refine' lst_append ?k1_770 ?k2_770 ?k3_770 ?k4_770 ?_; (case k1_770 => k_asm); (case k2_770 => k_asm); (case k3_770 => k_upd); (case k4_770 => lgec_go); k_whole); intro h' F' N'; (try k_sweep))
  k_with "call builtin:list.extend" => ((with_reducible show wpAny _ _ (call (Value.builtin _) [Value.ref _, Value.ref _]) _ _ _); k_dflt (refine' lst_extend ?k1_771 ?k2_771 ?k3_771 ?k4_771 ?k5_771 ?_; (case k1_771 => k_asm); (case k2_771 => k_asm); (case k3_771 => k_updF); (case k4_771 => k_mem); (case k5_771 => first | (simp only [List.length_take, List.length_drop, List.length_append, List.length_cons, List.length_nil]; lgec_go) | lgec_go); k_whole); intro h' n' F' N'; (try dsimp only at N'); (try k_sweep))
  k_with "binaryOp Add" => ((with_reducible show wpAny _ _ (binaryOp Operator.Add (Value.ref _) (Value.ref _)) _ _ _); k_dflt (refine' lst_add ?k1_772 ?k2_772 ?k3_772 ?k4_772 ?k5_772 ?_; (case k1_772 => k_asm); (case k2_772 => k_asm); (case k3_772 => k_mem); (case k4_772 => k_mem); (case k5_772 => first | (simp only [List.length_cons, List.length_nil]; lgec_go) | lgec_go); k_whole); intro l' h' F' N' l1; (try k_lt l1); (try k_sweep))
  k_with "binaryOp Add ref ref" => ((with_reducible show wpAny _ _ (binaryOp Operator.Add (Value.ref _) (Value.ref _)) _ _ _); k_dflt (refine' lst_add ?k1_773 ?k2_773 ?k3_773 ?k4_773 ?k5_773 ?_; (case k1_773 => k_asm); (case k2_773 => k_asm); (case k3_773 => k_mem); (case k4_773 => k_mem); (case k5_773 => first | (simp only [List.length_cons, List.length_nil]; lgec_go) | lgec_go); k_whole); intro l' h' F' N' l1; (try k_lt l1); (try k_sweep))
  k_with "subscriptTail Name Slice ref ref" => ((with_reducible show wpAny _ _ (subscriptTail _ _ (Value.ref _) (Value.ref _)) _ _ _); k_dflt (refine' lst_slice ?k1_774 ?k2_774 ?k3_774 ?k4_774 ?k5_774 ?k6_774 ?_; (case k1_774 => k_asm); (case k2_774 => k_asm); (case k3_774 => k_mem); (case k4_774 => lgec_go); (case k5_774 => lgec_go); (case k6_774 => lgec_go); k_whole); intro l' h' F' N' l1; (try k_lt l1); (try k_sweep))
  k_with "eval ListComp" => (first | ((with_reducible show wpAny _ _ (eval (PySem.Expr.ListComp _ [PySem.Comprehension.mk (PySem.Expr.Tuple _ _ _) _ [_] _] _ _) _) _ _ _); refine Stop.mk ?_) | (lct_look; k_dflt (refine LCt.ListComp_T (F₀ := by k_asm) (by with_unfolding_all rfl) (by decide) (by rfl) (by decide) (by rfl) ?_); k_dflt lct_toSrc) | (lcp_look; k_dflt (refine LCp.ListComp_P (F₀ := by k_asm) (by with_unfolding_all rfl) (by decide) (by rfl) (by decide) (by rfl) (by rfl) (by decide) ?_); k_dflt lcp_toSrc) | ((first | lcg_look | lcf_look); k_dflt (refine LCg.ListComp_U (F₀ := by k_asm) (by with_unfolding_all rfl) (by decide) (by rfl) (by decide) (by rfl) ?_); k_dflt lcg_toSrc) | refine Stop.mk ?_)
  k_with "exec Assign cons ListComp" => (first | (lct_look; k_dflt (refine LCt.Assign_ListComp_T (F₀ := by k_asm) (by rfl) (by with_unfolding_all rfl) (by with_unfolding_all rfl) (by decide) (by rfl) (by decide) (by rfl) (by rfl) (by rfl) ?_); k_dflt lct_toSrc) | (lcp_look; k_dflt (refine LCp.Assign_ListComp_P (F₀ := by k_asm) (by rfl) (by with_unfolding_all rfl) (by with_unfolding_all rfl) (by decide) (by rfl) (by decide) (by rfl) (by rfl) (by decide) (by rfl) (by rfl) ?_); k_dflt lcp_toSrc) | ((first | lcg_look | lcf_look); k_dflt (refine LCg.Assign_ListComp_U (F₀ := by k_asm) (by rfl) (by with_unfolding_all rfl) (by with_unfolding_all rfl) (by decide) (by rfl) (by decide) (by rfl) (by rfl) (by rfl) ?_); k_dflt lcg_toSrc))
  k_with "SrcLP" => (first | k_dflt (refine LCp.SrcLP.ledger (by rfl) (by k_asm) (by k_asm) (by k_mem) ?sz_777 ?_; (case sz_777 => rw [List.size_toArray, sizeLine_eq]; lgec_go); intro g'; refine Stop.mk ?_) | refine Stop.mk ?_)
  k_with "CompSrc" => (first | k_dflt (first | (refine LCg.CompSrc.ledger (by rfl) (by k_asm) (by k_asm) (by k_mem) ?sz_778 ?_; (case sz_778 => rw [List.size_toArray, sizeLine_eq]; lgec_go); intro g'; refine Stop.mk ?_) | (refine LCg.CompSrc.range (by rfl) (by k_asm) (by k_asm) (by assumption) (range_small (by first | decide | lgec_go) (by first | decide | lgec_go) (by lgec_go) (by lgec_go)) (by first | exact range_n0 | exact range_n) ?sz_778 ?_; (case sz_778 => rw [sizeLine_eq]; lgec_go); intro g'; refine Stop.mk ?_)) | refine Stop.mk ?_)
  k_with "CompSrcT" => (first | k_dflt (first | (refine LCt.CompSrcT.ledger (by rfl) (by k_asm) (by k_asm) (by k_mem) ?sz_779 ?_; (case sz_779 => rw [List.size_toArray, sizeLine_eq]; lgec_go); intro g'; refine Stop.mk ?_) | (refine LCt.CompSrcT.range (by rfl) (by k_asm) (by k_asm) (by assumption) (range_small (by first | decide | lgec_go) (by first | decide | lgec_go) (by lgec_go) (by lgec_go)) (by first | exact range_n0 | exact range_n) ?sz_779 ?_; (case sz_779 => rw [sizeLine_eq]; lgec_go); intro g'; refine Stop.mk ?_)) | refine Stop.mk ?_)
  k_with "call type:list" => ((with_reducible show wpAny _ _ (call (Value.type _) [Value.ref _]) _ _ _); k_dflt (refine' lst_copy ?k1_780 ?k2_780 ?k3_780 ?k4_780 ?_; (case k1_780 => k_asm); (case k2_780 => k_asm); (case k3_780 => k_mem); (case k4_780 => lgec_go); k_whole); intro D' c' h' F' N' l1; (try k_lt l1); (try k_sweep))
  k_with "call builtin:isinstance" => ((with_reducible show wpAny _ _ (call (Value.builtin "isinstance") [_, Value.type "list"]) _ _ _); refine' isl_atom _ _ _ _ _ ?k1_781 ?k2_781 ?k3_781 ?k4_781 ?k5_781 ?k6_781 ?k7_781 ?k8_781 ?_; (case k1_781 => with_reducible assumption); (case k2_781 => assumption); (case k4_781 => k_asm); (case k5_781 => k_asm); (case k7_781 => k_asm); (case k3_781 => tb_rel); (case k6_781 => k_asm); (case k8_781 => k_asm); intro tk')
  k_with "k_ne" => (refine neN ?_; (try dsimp only); first | with_reducible assumption | with_reducible exact Ne.symm (by with_reducible assumption) | with_reducible exact Nat.ne_of_lt (by with_reducible assumption) | with_reducible exact Nat.ne_of_gt (by with_reducible assumption))
  k_with "call ref" => ((with_reducible first | show wpAny _ _ (call (Value.ref 393) _) _ _ _ | show wpAny _ _ (call (Value.ref 407) _) _ _ _ | show wpAny _ _ (call (Value.ref 414) _) _ _ _ | show wpAny _ _ (call (Value.ref 424) _) _ _ _ | show wpAny _ _ (call (Value.ref 429) _) _ _ _ | show wpAny _ _ (call (Value.ref 448) _) _ _ _ | show wpAny _ _ (call (Value.ref 455) _) _ _ _ | show wpAny _ _ (call (Value.ref 355) _) _ _ _ | show wpAny _ _ (call (Value.ref 362) _) _ _ _ | show wpAny _ _ (call (Value.ref 194) _) _ _ _); refine Stop.mk ?_)
  trivial
theorem lbn {i n : Nat} (hi : i < 20) (hn : n ≤ 6) : (203 : Int) + 7 * i + n < 1000000 := by lgec_go
theorem lbz {k i n : Nat} (hz : k ≤ 7 * i + n) (hi : i < 20) (hn : n ≤ 6) : k ≤ 500 := by lgec_go
theorem lbj {i j : Nat} : (203 : Int) + 7 * i + j + 1 ≤ 203 + 7 * i + ((j + 1 : Nat) : Int) := by lgec_go
theorem lbk {k k' i j : Nat} (h : k' ≤ k + 1) (hz : k ≤ 7 * i + j) : k' ≤ 7 * i + (j + 1) := by lgec_go
theorem lbe {i n : Nat} (hn : n ≤ 6) : (203 : Int) + 7 * i + n + 1 ≤ 203 + 7 * ((i + 1 : Nat) : Int) := by lgec_go
theorem lbf {k k' i n : Nat} (h : k' ≤ k + 1) (hz : k ≤ 7 * i + n) (hn : n ≤ 6) : k' ≤ 7 * (i + 1) := by lgec_go
theorem mem5 {a b c d e x : Addr × Obj} {R : Led} (hx : x ∈ R) : x ∈ a :: b :: c :: d :: e :: R := .tail _ (.tail _ (.tail _ (.tail _ (.tail _ hx))))
theorem mem6 {a b c d e f x : Addr × Obj} {R : Led} (hx : x ∈ R) : x ∈ a :: b :: c :: d :: e :: f :: R := .tail _ (mem5 hx)
theorem mem8 {a b c d e f g h x : Addr × Obj} {R : Led} (hx : x ∈ R) : x ∈ a :: b :: c :: d :: e :: f :: g :: h :: R := .tail _ (mem7 hx)
inductive LwJ (w : World) (p c Tt lA L : Addr) (o3 o2 o1 : Obj) (vp vr vd : Value) (ps : List Part) (R0 : Led) (i : Nat) (m : Str → Option Value) : Led → Prop
  | mk (e1 e2 oT : Obj) (kvs : List (Int × Value)) (lvs : List Value) (k : Nat) (R : Led) : Has m [(Str.ofString "parts", vp), (Str.ofString "default", vr), (Str.ofString "due", vd), (Str.ofString "laid", .ref lA)] →
    PotIn (203 + 7 * i) c e1 e2 → oT.IsDictOf (PySem.intKind PySem.Challenge.rw_nn0211_01.row.prog w) kvs → Tab kvs → kvs.length ≤ 7 * i → LPts w R kvs lvs (ps.take i) → lvs.length = i → GrowK [p, c, Tt, lA, L + 1 + 1 + 1, L + 1 + 1, L + 1] R0 R →
    LwJ w p c Tt lA L o3 o2 o1 vp vr vd ps R0 i m ((p, e1) :: (c, e2) :: (Tt, oT) :: (lA, PySem.W.listOf lvs.toArray k) :: (L + 1 + 1 + 1, o3) :: (L + 1 + 1, o2) :: (L + 1, o1) :: R)
inductive LwC (w : World) (p c Tt lA L I : Addr) (oI oL o3 o2 o1 : Obj) (kvs : List (Int × Value)) (as : List Atom) (R : Led) (i j : Nat) (ys : List Value) : Led → Prop
  | mk (e1 e2 oT : Obj) (kvs' : List (Int × Value)) (R' : Led) : PotIn (203 + 7 * i + j) c e1 e2 → oT.IsDictOf (PySem.intKind PySem.Challenge.rw_nn0211_01.row.prog w) kvs' → Tab kvs' → kvs'.length ≤ 7 * i + j → (∀ k x, valueAt kvs k = some x → valueAt kvs' k = some x) →
    LAts w R' kvs' ys (as.take j) → ys.length = j → (∀ y ∈ R', y.1 ≠ I) → GrowK [p, c, Tt, lA, L + 1 + 1 + 1, L + 1 + 1, L + 1] R R' →
    LwC w p c Tt lA L I oI oL o3 o2 o1 kvs as R i j ys ((I, oI) :: (p, e1) :: (c, e2) :: (Tt, oT) :: (lA, oL) :: (L + 1 + 1 + 1, o3) :: (L + 1 + 1, o2) :: (L + 1, o1) :: R')
noncomputable def law_b : (P : Prop) ×' (Hid P → law_a.1) := by
  refine' ⟨_, fun hP => ?_⟩
  rotate_left
  · intro tk8 tk9 w s0 s1 mg mb z5 fa z7 z8 z9 z10 X z12 T z14 z15 cdA z17 ns z19 z20 z21 z22 z23 z24 z25 lS vs0 z28 hL hI hlen z32 h1 tk1 o3 o2 o1 qk0 ek0 K0 hq hls hlen' L hLs dd3 dd2 dd1 hE hE2 h2 tk2 p c e1 e2 hpc np3 np2 np1 nc3 nc2 nc1 z63 o1' d1 r h4 tk4 e1' e2' new4 qd R4 hR4 G4 s4 z78 z79 h5 tk5 e1'' e2'' d5 o5 new5 kvs5 kn5 h6 tk6 h7 tk7 f1 f2 a7 vs7 k7 new7 ps hP7 hz7 R7 hR7 G7 s7 hps7 hm7 hn4 z109 z110 r8 h8 tk8 new8 hdue R8 hR8 G8 s8 z120 z121 qf9 Tt z123 oT loT z126 z127 hkT z129 t130 t131 t132 t133 t134 aT T2 z137 oT2 z139 z140 z141 z142 z143 t144 t145 t146 t147 t148 t149 aT2 S sd z153 t154 t155 t156 t157 t158 t159 t160 aSd t162 z163 z164 z165 z166 z167 z168 lifted qk ek z172 z173 z174 z175 z176 z177 z178 z179 o2' d2 lA z183 t184 t185 t186 t187 t188 t189 t190 t191 t192 aLA h9 F9 N9 tk
    have ltS := t162
    try clear lifted
    try clear z179
    try clear z178
    try clear z177
    try clear z176
    try clear z175
    try clear z174
    try clear z173
    try clear z172
    try clear ek
    try clear qk
    try clear qf9
    try clear z168
    try clear z167
    try clear z166
    try clear z165
    try clear z164
    try clear z163
    try clear z153
    try clear z143
    try clear z142
    try clear z141
    try clear z140
    try clear z139
    try clear z137
    try clear z129
    try clear z127
    try clear z126
    try clear z123
    try clear z121
    try clear z120
    try clear z110
    try clear z109
    try clear z79
    try clear z78
    try clear z63
    try clear z5
    try clear z10
    try clear z12
    try clear z19
    try clear z20
    try clear z21
    try clear z22
    try clear z23
    try clear z25
    try clear z28
    try clear z32
    try clear hlen
    try clear hlen'
    try clear hls
    try clear hL
    try clear hI
    try clear hLs
    try clear s4
    try clear hR4
    try clear s7
    try clear hR7
    try clear hR8
    have hll := hps7.length
    have n32 : @Ne Nat (L + 1 + 1 + 1) (L + 1 + 1) := Nat.succ_ne_self _
    have n31 : @Ne Nat (L + 1 + 1 + 1) (L + 1) := Nat.ne_of_gt (Nat.lt_succ_of_lt (Nat.lt_succ_self _))
    have n21 : @Ne Nat (L + 1 + 1) (L + 1) := Nat.succ_ne_self _
    have sp := Nat.lt_trans t156 t162
    have sc := Nat.lt_trans t157 t162
    have sT := Nat.lt_trans t155 t162
    have s3 := Nat.lt_trans t158 t162
    have s2 := Nat.lt_trans t159 t162
    have s1' := Nat.lt_trans t160 t162
    have oL3 : ∀ y ∈ R8, y.1 ≠ L + 1 + 1 + 1 := by k_all
    have oL2 : ∀ y ∈ R8, y.1 ≠ L + 1 + 1 := by k_all
    have oL1 : ∀ y ∈ R8, y.1 ≠ L + 1 := by k_all
    have op : ∀ y ∈ R8, y.1 ≠ p := by k_all
    have oc : ∀ y ∈ R8, y.1 ≠ c := by k_all
    have oTt : ∀ y ∈ R8, y.1 ≠ Tt := by k_all
    have olA : ∀ y ∈ R8, y.1 ≠ lA := by k_all
    have hro7 : ∀ y ∈ R7, y ∈ R8 := G8.sub
    (refine hideG ?_; intro G0)
    obtain ⟨kk1, kk2, N9⟩ : ∃ kk1 kk2, News s1.heap L h9 ((p, f1) :: (c, f2) :: (Tt, oT) :: (lA, PySem.W.listOf ([] : List Value).toArray 0) :: (L + 1 + 1 + 1, o3) :: (L + 1 + 1, o2') :: (L + 1, o1') :: (S, instObj 332 sd) :: (sd, shelfDict w Tt T2 kk1 kk2 2) :: (T2, oT2) :: R8) := ⟨_, _, law_n0 N9⟩
    (dsimp only [G0]); clear G0
    refine loop_list (J := LwJ w p c Tt lA L o3 o2' o1' (.ref a7) r r8 ps ((S, instObj 332 sd) :: (sd, shelfDict w Tt T2 kk1 kk2 2) :: (T2, oT2) :: R8)) rfl F9 N9 (mem7 (.tail _ (.tail _ (.tail _ (hro7 _ hm7))))) ?h0 ?hJl ?turn ?done
    case h0 =>
      exact .mk f1 f2 oT [] [] 0 _ ⟨rfl, rfl, rfl, rfl, trivial⟩ (PotIn.mono hP7 (by decide)) hkT Tab.nil (Nat.zero_le _) .nil rfl GrowK.refl
    case hJl =>
      rintro i m news ⟨e1, e2, oT', kvs, lvs, k, R, hm, hP, hk, hTab, hz, hLP, hll, hG⟩
      exact mem7 (hG.sub _ (.tail _ (.tail _ (.tail _ (hro7 _ hm7)))))
    case turn =>
      rintro i v m₁ news₁ I oI h tk hv ⟨e1, e2, oT', kvs, lvs, k, R, hm, hP, hk, hTab, hz, hLP, hll, hG⟩ offI ltI F2 N2
      replace F2 := pinned1 F2 hm
      simp only [pin] at F2
      have hi : i < 20 := Nat.lt_of_lt_of_le (List.getElem?_eq_some_iff.mp hv).1 hz7
      (refine hideG ?_; intro G0)
      obtain ⟨q, hq, hQ⟩ := PartsIn.pick hps7 hv
      (dsimp only [G0]); clear G0
      simp only [List.forall_mem_cons] at offI
      (refine hideG ?_; intro G0)
      obtain ⟨ip, ic, iT, il, i3, i2, i1, offI⟩ := offI
      (dsimp only [G0]); clear G0
      replace ip := neN ip
      replace ic := neN ic
      replace iT := neN iT
      replace il := neN il
      replace i3 := neN i3
      replace i2 := neN i2
      replace i1 := neN i1
      have rp : ∀ y ∈ R, y.1 ≠ p := by k_all
      have rc : ∀ y ∈ R, y.1 ≠ c := by k_all
      have rT : ∀ y ∈ R, y.1 ≠ Tt := by k_all
      have rl : ∀ y ∈ R, y.1 ≠ lA := by k_all
      have r3 : ∀ y ∈ R, y.1 ≠ L + 1 + 1 + 1 := by k_all
      have r2 : ∀ y ∈ R, y.1 ≠ L + 1 + 1 := by k_all
      have r1 : ∀ y ∈ R, y.1 ≠ L + 1 := by k_all
      have hro : ∀ y ∈ R7, y ∈ R := fun y hy => hG.sub y (.tail _ (.tail _ (.tail _ (hro7 y hy))))
      (refine hideG ?_; intro G0)
      cases hQ with
      | one ha hs =>
        (dsimp only [G0]); clear G0
        k_steps
        rename Fr _ _ _ _ => F3
        rename News _ _ _ (_ :: _) => N3
        refine Stop.on ?_
        refine Calls.use K0 F3 X (law_n1 N3) T rfl (laid_spec w _ p c Tt S sd T2 e1 e2 oT' kk1 kk2 2 kvs (203 + 7 * i) v hP (by lgec_go) hpc (by k_ne) (by k_ne) (by k_all) (by k_all) (by k_all) (mem5 (hG.sub _ (.head _))) (mem5 (hG.sub _ (.tail _ (.head _)))) hk loT hTab (by lgec_go)) (by decide) (by decide) ?_
        rintro r9 news' h9 tk9 F9 N9 hX9
        revert N9
        (refine hideG ?_; intro G0)
        obtain ⟨e1', e2', oT2', kvs', new, hP9, rfl, hA9, hk9, hTab9, hv9, hz9, hLd⟩ := hX9
        (dsimp only [G0]); clear G0
        intro N9
        replace N9 := law_n2 N9
        have hGn := hG.more (keys7 (P := fun d => ∀ y ∈ new, @Ne Nat y.1 d) (Apart.off hA9 (.head _)) (Apart.off hA9 (.tail _ (.head _))) (Apart.off hA9 (.tail _ (.tail _ (.head _)))) (Apart.off hA9 (.tail _ (.tail _ (.tail _ (.tail _ (.head _))))))
          (Apart.off hA9 (.tail _ (.tail _ (.tail _ (.tail _ (.tail _ (.head _))))))) (Apart.off hA9 (.tail _ (.tail _ (.tail _ (.tail _ (.tail _ (.tail _ (.head _)))))))) (Apart.off hA9 (.tail _ (.tail _ (.tail _ (.tail _ (.tail _ (.tail _ (.tail _ (.head _))))))))))
        have oI9 : ∀ y ∈ new ++ R, y.1 ≠ I := fun y hy => (List.mem_append.mp hy).elim (Apart.off hA9 (.tail _ (.tail _ (.tail _ (.head _)))) y) (offI y)
        have hLP9 := (hLP.mono (ro' := new ++ R) (fun y hy => List.mem_append_right _ hy) hv9).snoc (.one (hLd.mono (fun y hy => List.mem_append_left _ hy) fun _ _ h => h) (ha.mono fun y hy => List.mem_append_right _ (hro y hy)) hs)
        rw [← take_one hq] at hLP9
        clear hLP hLd ha hA9 F3 N3 hG
        generalize hRR : new ++ R = R9 at *
        k_steps
        exact TurnJ.step (by k_asm) (by k_asm) (by k_all) (.mk e1' e2' oT2' kvs' (lvs ++ [r9]) _ R9 ⟨rfl, rfl, rfl, rfl, trivial⟩ (PotIn.mono hP9 (by lgec_go)) hk9 hTab9 (by lgec_go) hLP9 (by rw [List.length_append, hll]; rfl) hGn)
      | list hm9 ha9 hl9 =>
        (dsimp only [G0]); clear G0
        rename_i l us kk as
        k_steps
        refine Stop.on ?_
        refine comp_inv (fun j ys nw => LwC w p c Tt lA L I oI (PySem.W.listOf lvs.toArray k) o3 o2' o1' kvs as R i j ys nw) (.mk e1 e2 oT' kvs R (PotIn.mono hP (by lgec_go)) hk hTab (by lgec_go) (fun _ _ h => h) .nil rfl offI GrowK.refl) ?cturn ?cfin
        case cturn =>
          rintro j ys news₁ v I2 oI2 C2 oC2 D2 m₂ h2 tk2 E' hj ⟨e1, e2, oT', kvs', R', hP3, hk3, hTab3, hz3, hv3, hL3, hy3, hI3, hG3⟩ hv hC hx F3 N3 off ne
          (refine hideG ?_; intro G0)
          obtain ⟨ne1, ne2, ne3⟩ := ne
          obtain ⟨⟨oa1, oa2, oa3⟩, ⟨ob1, ob2, ob3⟩, ⟨od1, od2, od3⟩, ⟨oe1, oe2, oe3⟩, ⟨of1, of2, of3⟩, ⟨og1, og2, og3⟩, ⟨oh1, oh2, oh3⟩, ⟨oi1, oi2, oi3⟩, off⟩ := off
          (dsimp only [G0]); clear G0
          have hj' : j < 6 := Nat.lt_of_lt_of_le (by rw [List.size_toArray] at hj; exact hj) hl9
          have hv' : us[j]? = some v := by simpa using hv
          (refine hideG ?_; intro G0)
          obtain ⟨a, haj, hav⟩ := ha9.pick hv'
          (dsimp only [G0]); clear G0
          have q3 : ∀ y ∈ R', y.1 ≠ L + 1 + 1 + 1 := by k_all
          have q2 : ∀ y ∈ R', y.1 ≠ L + 1 + 1 := by k_all
          have q1 : ∀ y ∈ R', y.1 ≠ L + 1 := by k_all
          have qp : ∀ y ∈ R', y.1 ≠ p := by k_all
          have qc : ∀ y ∈ R', y.1 ≠ c := by k_all
          have qT : ∀ y ∈ R', y.1 ≠ Tt := by k_all
          have ql : ∀ y ∈ R', y.1 ≠ lA := by k_all
          k_steps
          rename Fr _ _ _ _ => F4
          rename News _ _ _ (_ :: _) => N4
          refine Stop.on ?_
          refine Calls.use K0 F4 X (law_n3 N4) T rfl (laid_spec w _ p c Tt S sd T2 e1 e2 oT' kk1 kk2 2 kvs' (203 + 7 * i + j) v hP3 (lbn hi (Nat.le_of_lt hj')) hpc (by k_ne) (by k_ne) (by k_all) (by k_all) (by k_all) (mem8 (hG3.sub _ (hG.sub _ (.head _)))) (mem8 (hG3.sub _ (hG.sub _ (.tail _ (.head _))))) hk3 loT hTab3 (lbz hz3 hi (Nat.le_of_lt hj'))) (by decide) (by decide) ?_
          rintro r9 news' h9 tk9 F9 N9 hX9
          revert N9
          (refine hideG ?_; intro G0)
          obtain ⟨e1', e2', oT2', kvs2, new, hP9, rfl, hA9, hk9, hTab9, hv9, hz9, hLd⟩ := hX9
          (dsimp only [G0]); clear G0
          intro N9
          have hGn := hG3.more (keys7 (P := fun d => ∀ y ∈ new, @Ne Nat y.1 d) (Apart.off hA9 (.head _)) (Apart.off hA9 (.tail _ (.head _))) (Apart.off hA9 (.tail _ (.tail _ (.head _)))) (Apart.off hA9 (.tail _ (.tail _ (.tail _ (.tail _ (.tail _ (.tail _ (.tail _ (.head _))))))))) (Apart.off hA9 (.tail _ (.tail _ (.tail _ (.tail _ (.tail _ (.tail _ (.tail _ (.tail _ (.head _)))))))))) (Apart.off hA9 (.tail _ (.tail _ (.tail _ (.tail _ (.tail _ (.tail _ (.tail _ (.tail _ (.tail _ (.head _))))))))))) (Apart.off hA9 (.tail _ (.tail _ (.tail _ (.tail _ (.tail _ (.tail _ (.tail _ (.tail _ (.tail _ (.tail _ (.head _)))))))))))))
          have nI : ∀ y ∈ new ++ R', y.1 ≠ I := fun y hy => (List.mem_append.mp hy).elim (Apart.off hA9 (.tail _ (.tail _ (.tail _ (.tail _ (.tail _ (.tail _ (.head _))))))) y) (hI3 y)
          have nI2 : ∀ y ∈ new ++ R', y.1 ≠ I2 := fun y hy => (List.mem_append.mp hy).elim (Apart.off hA9 (.tail _ (.tail _ (.tail _ (.head _)))) y) (off3_1 off y)
          have nC2 : ∀ y ∈ new ++ R', y.1 ≠ C2 := fun y hy => (List.mem_append.mp hy).elim (Apart.off hA9 (.tail _ (.tail _ (.tail _ (.tail _ (.head _))))) y) (off3_2 off y)
          have nD2 : ∀ y ∈ new ++ R', y.1 ≠ D2 := fun y hy => (List.mem_append.mp hy).elim (Apart.off hA9 (.tail _ (.tail _ (.tail _ (.tail _ (.tail _ (.head _)))))) y) (off3_3 off y)
          have hL9 := (hL3.mono (ro' := new ++ R') (fun y hy => List.mem_append_right _ hy) hv9).snoc (hLd.mono (fun y hy => List.mem_append_left _ hy) fun _ _ h => h) (hav.mono fun y hy => List.mem_append_right _ (hG3.sub _ (hro y hy)))
          rw [← take_one haj] at hL9
          exact LCg.CompEnd.intro F9 N9 (_ :: _ :: _ :: _ :: _ :: _ :: _ :: _ :: (new ++ R')) law_n4 (off3_mk (by k_all) (by k_all) (by k_all)) (Or.inr ⟨_, mem8 (List.mem_append_right _ (hG3.sub _ (hro _ hm9))), rfl, _, rfl⟩) (.mk e1' e2' oT2' kvs2 (new ++ R') (PotIn.mono hP9 lbj) hk9 hTab9 (lbk hz9 hz3) (fun k x h => hv9 k x (hv3 k x h)) hL9 (by rw [List.length_append, hy3]; rfl) nI hGn)
        case cfin =>
          rintro ys news' ⟨e1, e2, oT', kvs', R', hP3, hk3, hTab3, hz3, hv3, hL3, hy3, hI3, hG3⟩
          rw [List.size_toArray] at hP3 hz3 hL3 hy3
          rw [ha9.length, List.take_length] at hL3
          have q3 : ∀ y ∈ R', y.1 ≠ L + 1 + 1 + 1 := by k_all
          have q2 : ∀ y ∈ R', y.1 ≠ L + 1 + 1 := by k_all
          have q1 : ∀ y ∈ R', y.1 ≠ L + 1 := by k_all
          have qp : ∀ y ∈ R', y.1 ≠ p := by k_all
          have qc : ∀ y ∈ R', y.1 ≠ c := by k_all
          have qT : ∀ y ∈ R', y.1 ≠ Tt := by k_all
          have ql : ∀ y ∈ R', y.1 ≠ lA := by k_all
          k_steps
          rename_i D h5 tk5 F5 N5 oo h6 F6 N6
          (refine hideG ?_; intro G0)
          obtain ⟨dI, dp, dc, dT, dl, d3', d2', d1', dR⟩ := oo
          (dsimp only [G0]); clear G0
          refine Stop.on ?_
          refine Calls.use K0 F6 X (law_n5 N6) T rfl (laid_spec w _ p c Tt S sd T2 e1 e2 oT' kk1 kk2 2 kvs' (203 + 7 * i + us.length) (.ref D) hP3 (lbn hi hl9) hpc (by k_ne) (by k_ne) (by k_all) (by k_all) (by k_all) (mem6 (hG3.sub _ (hG.sub _ (.head _)))) (mem6 (hG3.sub _ (hG.sub _ (.tail _ (.head _))))) hk3 loT hTab3 (lbz hz3 hi hl9)) (by decide) (by decide) ?_
          rintro r9 news' h9 tk9 F9 N9 hX9
          revert N9
          (refine hideG ?_; intro G0)
          obtain ⟨e1', e2', oT2', kvs2, new, hP9, rfl, hA9, hk9, hTab9, hv9, hz9, hLd⟩ := hX9
          (dsimp only [G0]); clear G0
          intro N9
          replace N9 := law_n6 N9
          have hGn := ((hG.trans hG3 fun _ h => h).cons (l := D) (o := LCg.lst ys) (keys7 (P := fun d => @Ne Nat D d) (neN dp).symm (neN dc).symm (neN dT).symm (neN dl).symm (neN d3').symm (neN d2').symm (neN d1').symm)).more (keys7 (P := fun d => ∀ y ∈ new, @Ne Nat y.1 d) (Apart.off hA9 (.head _)) (Apart.off hA9 (.tail _ (.head _))) (Apart.off hA9 (.tail _ (.tail _ (.head _)))) (Apart.off hA9 (.tail _ (.tail _ (.tail _ (.tail _ (.tail _ (.head _))))))) (Apart.off hA9 (.tail _ (.tail _ (.tail _ (.tail _ (.tail _ (.tail _ (.head _)))))))) (Apart.off hA9 (.tail _ (.tail _ (.tail _ (.tail _ (.tail _ (.tail _ (.tail _ (.head _))))))))) (Apart.off hA9 (.tail _ (.tail _ (.tail _ (.tail _ (.tail _ (.tail _ (.tail _ (.tail _ (.head _)))))))))))
          have oI9 : ∀ y ∈ new ++ (D, LCg.lst ys) :: R', y.1 ≠ I := fun y hy => (List.mem_append.mp hy).elim (Apart.off hA9 (.tail _ (.tail _ (.tail _ (.tail _ (.head _))))) y) fun q => by
            rcases List.mem_cons.mp q with rfl | q
            · exact Ne.symm dI
            · exact hI3 _ q
          have hLP9 := (hLP.mono (ro' := new ++ (D, LCg.lst ys) :: R') (fun y hy => List.mem_append_right _ (.tail _ (hG3.sub _ hy))) fun k x h => hv9 k x (hv3 k x h)).snoc (.list (hLd.mono (fun y hy => List.mem_append_left _ hy) fun _ _ h => h) (List.mem_append_right _ (.head _)) (hL3.mono (fun y hy => List.mem_append_right _ (.tail _ hy)) hv9) (by rw [hy3]; exact hl9))
          rw [← take_one hq] at hLP9
          clear hLP hLd hA9 F6 N6 hG hG3 F5 N5
          generalize hRR : new ++ (D, LCg.lst ys) :: R' = R9 at *
          k_steps
          exact TurnJ.step (by k_asm) (by k_asm) (by k_all) (.mk e1' e2' oT2' kvs2 (lvs ++ [r9]) _ R9 ⟨rfl, rfl, rfl, rfl, trivial⟩ (PotIn.mono hP9 (lbe hl9)) hk9 hTab9 (lbf hz9 hz3 hl9) hLP9 (by rw [List.length_append, hll]; rfl) hGn)
    case done =>
      rintro m₁ news₁ h tk ⟨e1, e2, oT', kvs, lvs, k, R, hm, hP, hk, hTab, hz, hLP, hlv, hG⟩ F2 N2
      replace F2 := pinned F2 hm
      simp only [pin] at F2
      rw [hll, List.take_length] at hLP
      have rl : ∀ y ∈ R, y.1 ≠ lA := by k_all
      have r3 : ∀ y ∈ R, y.1 ≠ L + 1 + 1 + 1 := by k_all
      have hro : ∀ y ∈ R8, y ∈ R := fun y hy => hG.sub y (.tail _ (.tail _ (.tail _ hy)))
      have hS := hG.sub _ (.head _)
      have hSd := hG.sub _ (.tail _ (.head _))
      replace hn4 := hn4.mono fun y hy => hro y (hro7 y hy)
      clear hG hP hTab hm hm7 hps7 aT aT2 aSd aLA oL3 oL2 oL1 op oc oTt olA G4 G7 G8 ltS N9 F9 hkT hP7
      have hlz : lvs.length ≤ 20 := Nat.le_trans (Nat.le_of_eq hlv) hz7
      k_steps
      refine wpAny_Try_except ?_
      k_steps
      try dsimp only [qf]
      try clear qf
      try dsimp only [qf]
      try clear qf
      try dsimp only [qf]
      try clear qf
      rename_i y38 y39 y127 y143 y167 y168 y169 ul u3 y172 y173 y175 F10 N10
      revert w s0 s1 mg mb fa z7 z8 z9 X T z14 z15 cdA z17 ns z24 lS vs0 h1 tk1 o3 o2 o1 qk0 ek0 K0 hq L dd3 dd2 dd1 hE hE2 h2 tk2 p c y38 y39 hpc np3 np2 np1 nc3 nc2 nc1 o1' d1 r h4 tk4 e1' e2' new4 qd R4 h5 tk5 e1'' e2'' d5 o5 new5 kvs5 kn5 h6 tk6 h7 tk7 f1 f2 a7 vs7 k7 new7 ps hz7 R7 r8 h8 tk8 new8 hdue R8 s8 Tt oT loT t130 t131 t132 t133 t134 T2 oT2 t144 t145 t146 t147 t148 t149 S sd t154 t155 t156 t157 t158 t159 t160 t162 z172 o2' d2 lA z183 t184 t185 t186 t187 t188 t189 t190 t191 t192 h9 y127 hll n32 n31 n21 sp sc sT s3 s2 s1' hro7 kk1 kk2 m₁ h y143 e1 e2 oT' kvs lvs k R hk hz hLP hlv rl r3 hro hS hSd hn4 hlz D' c' h' F' N' y167 y168 y169 ul u3 y172 y173 l1 y175 F10 N10 tk
      exact hP.out

end
section
theorem kw_FD_0 : True := by
  k_with_none
  k_with "om" => first | decide | (with_reducible first | apply om479 <;> assumption | apply om480 <;> assumption)
  k_with "k_ne" => (refine neN ?_; (try dsimp only); first | with_reducible assumption | lgec_go)
  k_with "fold_depth" => first | ((with_reducible show wpAny _ (Around.deeper (ktrTop _ _ _ _ _ _ _ _ _ _) _) _ _ _ _); refine wp_fold4 ?_; intro A1 q0 e0) | (refine wp_fold2 ?_; intro q00 e00)
  k_with "fold_lay" => ((show wpAny _ _ _ _ _ _); first | (fail_if_success k_fold) | ((try clear qf); refine wp_fold ?_; intro qf))
  k_with "k_steps" => ((try dsimp only); (try fold_lay); repeat' (first | (k_unfold; (try dsimp only)) | (k_end; wrow_close) | (walk1; (try ((first | (with_reducible show wpAny _ _ (exec _ _) _ _ _) | (with_reducible show wpAny _ _ (execs _ _) _ _ _)); (try dsimp only); fold_lay))) | (dsimp only; walk1) | (leave1; walk_say "STEP leave1"; try dsimp only) | fail "no step"))
  k_with "k_room" => first | exact fastR (by assumption) | ktr_room | (simp only [A1]; ktr_room)
  k_with "k_units" => first | ktr_units | (simp only [A1]; ktr_units)
  k_with "k_enter" => (refine' code_defC ?k1_789 ?k2_789 ?k3_789 ?k4_789 ?k5_789 ?kA_789 ?kF_789 ?kK_789 ?k6_789 ?k7_789 ?k8_789 ?k9_789 ?kB_789 ?kD_789 ?_ ?c2_789 ?c3_789 ?c4_789; (case kA_789 => exact rfl); (case kF_789 => exact rfl); (case kK_789 => assumption); (case k1_789 => k_asm); (case k2_789 => k_asm); (case k3_789 => k_asm); (case k4_789 => k_asm); (case k5_789 => k_asm); (case k6_789 => k_is); (case k7_789 => k_is); (case k8_789 => k_room); (case k9_789 => first | exact BindsTo.of_eq rfl | exact binds_K (by k_in) rfl (by k_is) rfl rfl rfl); (case kB_789 => exact rfl); (case kD_789 => decide +kernel); (case c2_789 => exact rfl); (case c3_789 => exact rfl); (case c4_789 => exact rfl); k_whole; intro g' L' h' tk' cells' FG' F' N' Y' B' X' T' l1; (try k_lt l1); refine hideG ?_; intro G0; k_cells Y'; (dsimp only [G0]); (try clear G0); (try simp only [List.cons_append, List.nil_append] at N'); (try dsimp only); (try fold_depth))
  k_with "k_enter" => (refine' code_def ?k1_790 ?k2_790 ?k3_790 ?k4_790 ?k5_790 ?kA_790 ?kF_790 ?kK_790 ?k6_790 ?k7_790 ?k8_790 ?k9_790 ?kB_790 ?_ ?c2_790 ?c3_790 ?c4_790 ?c5_790; (case kA_790 => exact rfl); (case kF_790 => exact rfl); (case kK_790 => assumption); (case k1_790 => k_asm); (case k2_790 => k_asm); (case k3_790 => k_asm); (case k4_790 => k_asm); (case k5_790 => k_asm); (case k6_790 => k_is); (case k7_790 => k_is); (case k8_790 => k_room); (case k9_790 => first | exact BindsTo.of_eq rfl | exact binds_K (by k_in) rfl (by k_is) rfl rfl rfl); (case c5_790 => decide); (case kB_790 => exact locs rfl); (case c2_790 => exact rfl); (case c3_790 => exact rfl); (case c4_790 => exact rfl); k_whole; intro g' L' h' FG' F' N' B' X' T'; (try dsimp only); (try fold_depth))
  k_with "klt" => skip
  k_with "k_all" => first | exact List.forall_mem_nil _ | (with_reducible refine List.forall_mem_cons.mpr ⟨?_, ?_⟩; (focus k_ne); k_all) | with_reducible assumption | with_reducible exact allLt_off (by with_reducible assumption) | with_reducible exact lt_off (by with_reducible assumption) | with_reducible exact off1_off (by with_reducible assumption) | with_reducible exact off3_1 (by with_reducible assumption) | with_reducible exact off3_2 (by with_reducible assumption) | with_reducible exact off3_3 (by with_reducible assumption) | (with_reducible refine GrowK.off (by with_reducible assumption) ?_ ?_; (focus simp only [List.mem_cons, true_or, or_true]); k_all)
  k_with "tb_rel" => with_reducible first | assumption | exact sub_self | (refine sub_tail ?_; tb_rel) | (refine sub_growK (by assumption) ?_; tb_rel) | (refine sub_app ?_ ?_; (focus tb_rel); tb_rel) | (refine sub_consApp ?_; tb_rel) | (refine sub_appL ?_; tb_rel) | (refine sub_appR ?_; tb_rel)
  k_with "k_mem" => (refine sub_mem ?_ (by assumption); tb_rel)
  k_with "call builtin:len" => ((with_reducible show wpAny _ _ (call (Value.builtin "len") [Value.ref _]) _ _ _); k_dflt (refine' lst_len ?k1_794 ?k2_794 ?k3_794 ?_; (case k1_794 => k_asm); (case k2_794 => k_mem); (case k3_794 => lgec_go); k_whole))
  k_with "truthy ref" => (k_dflt (refine' lst_truthy ?k1_795 ?k2_795 ?k3_795 ?_; (case k1_795 => k_asm); (case k2_795 => k_mem); (case k3_795 => lgec_go); k_whole))
  k_with "call builtin:list.append" => ((with_reducible show wpAny _ _ (call (Value.builtin _) [Value.ref _, _]) _ _ _); k_dflt (refine' lst_append ?k1_796 ?k2_796 ?k3_796 ?k4_796 ?_; (case k1_796 => k_asm); (case k2_796 => k_asm); (case k3_796 => k_upd); (case k4_796 => lgec_go); k_whole); intro h' F' N'; (try k_sweep))
  k_with "call builtin:list.extend" => ((with_reducible show wpAny _ _ (call (Value.builtin _) [Value.ref _, Value.ref _]) _ _ _); k_dflt (refine' lst_extend ?k1_797 ?k2_797 ?k3_797 ?k4_797 ?k5_797 ?_; (case k1_797 => k_asm); (case k2_797 => k_asm); (case k3_797 => k_updF); (case k4_797 => k_mem); (case k5_797 => first | (simp only [List.length_take, List.length_drop, List.length_append, List.length_cons, List.length_nil]; lgec_go) | lgec_go); k_whole); intro h' n' F' N'; (try dsimp only at N'); (try k_sweep))
  k_with "binaryOp Add" => ((with_reducible show wpAny _ _ (binaryOp Operator.Add (Value.ref _) (Value.ref _)) _ _ _); k_dflt (refine' lst_add ?k1_798 ?k2_798 ?k3_798 ?k4_798 ?k5_798 ?_; (case k1_798 => k_asm); (case k2_798 => k_asm); (case k3_798 => k_mem); (case k4_798 => k_mem); (case k5_798 => first | (simp only [List.length_cons, List.length_nil]; lgec_go) | lgec_go); k_whole); intro l' h' F' N' l1; (try k_lt l1); (try k_sweep))
  k_with "binaryOp Add ref ref" => ((with_reducible show wpAny _ _ (binaryOp Operator.Add (Value.ref _) (Value.ref _)) _ _ _); k_dflt (refine' lst_add ?k1_799 ?k2_799 ?k3_799 ?k4_799 ?k5_799 ?_; (case k1_799 => k_asm); (case k2_799 => k_asm); (case k3_799 => k_mem); (case k4_799 => k_mem); (case k5_799 => first | (simp only [List.length_cons, List.length_nil]; lgec_go) | lgec_go); k_whole); intro l' h' F' N' l1; (try k_lt l1); (try k_sweep))
  k_with "subscriptTail Name Slice ref ref" => ((with_reducible show wpAny _ _ (subscriptTail _ _ (Value.ref _) (Value.ref _)) _ _ _); k_dflt (refine' lst_slice ?k1_800 ?k2_800 ?k3_800 ?k4_800 ?k5_800 ?k6_800 ?_; (case k1_800 => k_asm); (case k2_800 => k_asm); (case k3_800 => k_mem); (case k4_800 => lgec_go); (case k5_800 => lgec_go); (case k6_800 => lgec_go); k_whole); intro l' h' F' N' l1; (try k_lt l1); (try k_sweep))
  k_with "eval ListComp" => (first | ((with_reducible show wpAny _ _ (eval (PySem.Expr.ListComp _ [PySem.Comprehension.mk (PySem.Expr.Tuple _ _ _) _ [_] _] _ _) _) _ _ _); refine Stop.mk ?_) | (lct_look; k_dflt (refine LCt.ListComp_T (F₀ := by k_asm) (by with_unfolding_all rfl) (by decide) (by rfl) (by decide) (by rfl) ?_); k_dflt lct_toSrc) | (lcp_look; k_dflt (refine LCp.ListComp_P (F₀ := by k_asm) (by with_unfolding_all rfl) (by decide) (by rfl) (by decide) (by rfl) (by rfl) (by decide) ?_); k_dflt lcp_toSrc) | ((first | lcg_look | lcf_look); k_dflt (refine LCg.ListComp_U (F₀ := by k_asm) (by with_unfolding_all rfl) (by decide) (by rfl) (by decide) (by rfl) ?_); k_dflt lcg_toSrc) | refine Stop.mk ?_)
  k_with "exec Assign cons ListComp" => (first | (lct_look; k_dflt (refine LCt.Assign_ListComp_T (F₀ := by k_asm) (by rfl) (by with_unfolding_all rfl) (by with_unfolding_all rfl) (by decide) (by rfl) (by decide) (by rfl) (by rfl) (by rfl) ?_); k_dflt lct_toSrc) | (lcp_look; k_dflt (refine LCp.Assign_ListComp_P (F₀ := by k_asm) (by rfl) (by with_unfolding_all rfl) (by with_unfolding_all rfl) (by decide) (by rfl) (by decide) (by rfl) (by rfl) (by decide) (by rfl) (by rfl) ?_); k_dflt lcp_toSrc) | ((first | lcg_look | lcf_look); k_dflt (refine LCg.Assign_ListComp_U (F₀ := by k_asm) (by rfl) (by with_unfolding_all rfl) (by with_unfolding_all rfl) (by decide) (by rfl) (by decide) (by rfl) (by rfl) (by rfl) ?_); k_dflt lcg_toSrc))
  k_with "SrcLP" => (first | k_dflt (refine LCp.SrcLP.ledger (by rfl) (by k_asm) (by k_asm) (by k_mem) ?sz_803 ?_; (case sz_803 => rw [List.size_toArray, sizeLine_eq]; lgec_go); intro g'; refine Stop.mk ?_) | refine Stop.mk ?_)
  k_with "CompSrc" => (first | k_dflt (first | (refine LCg.CompSrc.ledger (by rfl) (by k_asm) (by k_asm) (by k_mem) ?sz_804 ?_; (case sz_804 => rw [List.size_toArray, sizeLine_eq]; lgec_go); intro g'; refine Stop.mk ?_) | (refine LCg.CompSrc.range (by rfl) (by k_asm) (by k_asm) (by assumption) (range_small (by first | decide | lgec_go) (by first | decide | lgec_go) (by lgec_go) (by lgec_go)) (by first | exact range_n0 | exact range_n) ?sz_804 ?_; (case sz_804 => rw [sizeLine_eq]; lgec_go); intro g'; refine Stop.mk ?_)) | refine Stop.mk ?_)
  k_with "CompSrcT" => (first | k_dflt (first | (refine LCt.CompSrcT.ledger (by rfl) (by k_asm) (by k_asm) (by k_mem) ?sz_805 ?_; (case sz_805 => rw [List.size_toArray, sizeLine_eq]; lgec_go); intro g'; refine Stop.mk ?_) | (refine LCt.CompSrcT.range (by rfl) (by k_asm) (by k_asm) (by assumption) (range_small (by first | decide | lgec_go) (by first | decide | lgec_go) (by lgec_go) (by lgec_go)) (by first | exact range_n0 | exact range_n) ?sz_805 ?_; (case sz_805 => rw [sizeLine_eq]; lgec_go); intro g'; refine Stop.mk ?_)) | refine Stop.mk ?_)
  k_with "call type:list" => ((with_reducible show wpAny _ _ (call (Value.type _) [Value.ref _]) _ _ _); k_dflt (refine' lst_copy ?k1_806 ?k2_806 ?k3_806 ?k4_806 ?_; (case k1_806 => k_asm); (case k2_806 => k_asm); (case k3_806 => k_mem); (case k4_806 => lgec_go); k_whole); intro D' c' h' F' N' l1; (try k_lt l1); (try k_sweep))
  k_with "call builtin:isinstance" => ((with_reducible show wpAny _ _ (call (Value.builtin "isinstance") [_, Value.type "list"]) _ _ _); refine' isl_atom _ _ _ _ _ ?k1_807 ?k2_807 ?k3_807 ?k4_807 ?k5_807 ?k6_807 ?k7_807 ?k8_807 ?_; (case k1_807 => with_reducible assumption); (case k2_807 => assumption); (case k4_807 => k_asm); (case k5_807 => k_asm); (case k7_807 => k_asm); (case k3_807 => tb_rel); (case k6_807 => k_asm); (case k8_807 => k_asm); intro tk')
  k_with "k_ne" => (refine neN ?_; (try dsimp only); first | with_reducible assumption | with_reducible exact Ne.symm (by with_reducible assumption) | with_reducible exact Nat.ne_of_lt (by with_reducible assumption) | with_reducible exact Nat.ne_of_gt (by with_reducible assumption))
  k_with "call ref" => ((with_reducible first | show wpAny _ _ (call (Value.ref 393) _) _ _ _ | show wpAny _ _ (call (Value.ref 407) _) _ _ _ | show wpAny _ _ (call (Value.ref 414) _) _ _ _ | show wpAny _ _ (call (Value.ref 424) _) _ _ _ | show wpAny _ _ (call (Value.ref 429) _) _ _ _ | show wpAny _ _ (call (Value.ref 448) _) _ _ _ | show wpAny _ _ (call (Value.ref 455) _) _ _ _ | show wpAny _ _ (call (Value.ref 355) _) _ _ _ | show wpAny _ _ (call (Value.ref 362) _) _ _ _ | show wpAny _ _ (call (Value.ref 194) _) _ _ _); refine Stop.mk ?_)
  k_with "compareOp NotEq ref ref" => ((with_reducible show wpAny _ _ (compareOp CmpOp.NotEq (Value.ref _) (Value.ref _)) _ _ _); refine Stop.mk ?_)
  k_with "compareOp Eq ref ref" => ((with_reducible show wpAny _ _ (compareOp CmpOp.Eq (Value.ref _) (Value.ref _)) _ _ _); refine Stop.mk ?_)
  k_with "exec For Name Call cons nil" => ((with_reducible show wpAny _ _ (exec (Stmt.For (PySem.Expr.Name _ _) (PySem.Expr.Call _ _ _ _) _ [] _) _) _ _ _); refine Stop.mk ?_)
  trivial
theorem isSome_yes {α : Type} {x : Option α} {v : α} (h : x = some v) : x.isSome = true := by rw [h]; rfl
theorem isSome_no {α : Type} {x : Option α} (h : x = none) : x.isSome = false := by rw [h]; rfl
theorem kw_FD_1 : True := by
  k_with "compareOp In int ref" => ((with_reducible show wpAny _ _ (compareOp CmpOp.In (Value.int _ _) (Value.ref _)) _ _ _); k_dflt (refine' kda_in (knd := PySem.intKind _ _) ?k1_813 ?k2_813 ?k3_813 ?k4_813 ?k5_813 _ ?k6_813 ?_; (case k1_813 => k_asm); (case k2_813 => k_mem); (case k3_813 => assumption); (case k4_813 => assumption); (case k5_813 => exact intKind_is _ _ _ _); (case k6_813 => first | exact isSome_yes (by assumption) | exact isSome_no (by assumption))))
  k_with "subscriptTail Name Name ref int" => ((with_reducible show wpAny _ _ (subscriptTail _ _ (Value.ref _) (Value.int _ _)) _ _ _); k_dflt (refine' dict_item ?k1_814 ?k2_814 ?k3_814 ?k4_814 ?_; (case k1_814 => k_asm); (case k2_814 => k_mem); (case k3_814 => assumption); (case k4_814 => assumption)))
  k_with "subscriptTail Name Constant ref int" => ((with_reducible show wpAny _ _ (subscriptTail (Expr.Name _ _) _ (Value.ref _) (Value.int _ _)) _ _ _); k_dflt (refine' lst_item ?k1_815 ?k2_815 ?k3_815 ?k4_815 ?k5_815 ?_; (case k1_815 => k_asm); (case k2_815 => k_mem); (case k3_815 => decide); (case k4_815 => decide); (case k5_815 => rfl)))
  trivial
theorem law_n7 {h₀ h : Heap} {L : Addr} {D p c T l x3 x2 x1 : Addr × Obj} {new R : Led} (N : News h₀ L h (new ++ (D :: p :: c :: T :: l :: x3 :: x2 :: x1 :: R))) : News h₀ L h (x3 :: l :: D :: (new ++ R)) := fun q hq => N q (subL [x3, l, D, p, c, T, x2, x1] [new, R] (.c 0 (.c 1 (.c 2 (.a (.s 0) (.s 1))))) (.a (.s 0) (.c 2 (.c 3 (.c 4 (.c 5 (.c 1 (.c 0 (.c 6 (.c 7 (.s 1)))))))))) rfl q hq)
theorem law_u {env : Env} : (callerA.deeper env).units < cLine := by
  simp only [units_deeper]
  decide
theorem lci {i : Nat} (hi : i < 22) : 0 ≤ 0 + (i : Int) ∧ 0 + (i : Int) ≤ 30 := by lgec_go
theorem law_um {env : Env} {x : Option Value} : ((callerA.deeper env).mark x).units < cLine := law_u (env := env)
theorem law_c : law_b.1 := by
  intro w s0 s1 mg mb fa z7 z8 z9 X T z14 z15 cdA z17 ns z24 lS vs0 h1 tk1 o3 o2 o1 qk0 ek0 K0 hq L dd3 dd2 dd1 hE hE2 h2 tk2 p c y38 y39 hpc np3 np2 np1 nc3 nc2 nc1 o1' d1 r h4 tk4 e1' e2' new4 qd R4 h5 tk5 e1'' e2'' d5 o5 new5 kvs5 kn5 h6 tk6 h7 tk7 f1 f2 a7 vs7 k7 new7 ps hz7 R7 r8 h8 tk8 new8 hdue R8 s8 Tt oT loT t130 t131 t132 t133 t134 T2 oT2 t144 t145 t146 t147 t148 t149 S sd t154 t155 t156 t157 t158 t159 t160 t162 z172 o2' d2 lA z183 t184 t185 t186 t187 t188 t189 t190 t191 t192 h9 y127 hll n32 n31 n21 sp sc sT s3 s2 s1' hro7 kk1 kk2 m₁ h y143 e1 e2 oT' kvs lvs k R hk hz hLP hlv rl r3 hro hS hSd hn4 hlz D' c' h' F' N' y167 y168 y169 ul u3 y172 y173 l1 y175 F10 N10 tk
  clear hz hlv hll hz7 n32 n31 n21 sp sc sT s3 s2 s1' np3 np2 np1 nc3 nc2 nc1 dd2 dd1 d1
  refine Stop.on ?_
  refine CallsE.use K0 F10 X N10 T rfl (wide_spec w _ R S sd Tt T2 lA oT' kk1 kk2 2 k kvs lvs ps (mem8 hS) (mem8 hSd) (.tail _ (.tail _ (.tail _ (.head _)))) hk loT (.tail _ (.tail _ (.tail _ (.tail _ (.head _))))) hLP (fun y hy => mem8 hy) hlz) (by decide) (by decide) ?ok ?err
  case err =>
    rintro e9 h9 tk9 hbad ⟨t9, vs9, g9, F9, U9, R9⟩
    have hr8 : r8 = .none := by
      rcases hdue with ⟨h1, _⟩ | ⟨a, ds, kd, rows, h1, h2, _⟩
      · exact h1
      · rw [hbad] at h2; cases h2
    subst hr8
    refine caughtX K0 F9 U9 R9 X ?hev ?k (hE2 _)
    case hev =>
      intro s₂ E₂ Q' Fz hq9
      walk1
      exact hq9
    case k =>
      intro h' F' N'
      k_steps
      refine Stop.on ?_
      refine eq_twin (lst_is N' (.tail _ (.tail _ (.tail _ (.tail _ (.head _)))))) (lst_is N' (.head _)) law_um ?_
      exact hq _ _ _ _ _ F'
  case ok =>
    rintro r9 news' h9 tk9 F9 N9 hX9
    revert N9
    (refine hideG ?_; intro G0)
    obtain ⟨a9, vs9, k9, new9, rows9, rfl, rfl, hA9, hread, hm9, hW9, hz9⟩ := hX9
    (dsimp only [G0]); clear G0
    intro N9
    have hX8 : ∃ ad ds kd, r8 = .ref ad ∧ (ad, PySem.W.listOf ds.toArray kd) ∈ new8 ∧ RowsD w (new8 ++ R7) ds rows9 ∧ ds.length ≤ 20 := by
      rcases hdue with ⟨_, h2⟩ | ⟨a, ds, kd, rows, h1, h2, h3, h4, h5⟩
      · rw [hread] at h2; cases h2
      · rw [hread] at h2
        cases h2
        exact ⟨a, ds, kd, h1, h3, h4, h5⟩
    (refine hideG ?_; intro G0)
    (refine hideG ?_; intro G0)
    obtain ⟨ad, ds, kd, hr8, hmd, hRD, hdz⟩ := hX8
    (dsimp only [G0]); clear G0
    subst hr8
    (dsimp only [G0]); clear G0
    have sR : ∀ y ∈ R, y ∈ new9 ++ R := fun y hy => List.mem_append_right _ hy
    have sN : ∀ y ∈ new9, y ∈ new9 ++ R := fun y hy => List.mem_append_left _ hy
    replace hmd := sR _ (hro _ (s8 _ hmd))
    replace hRD := hRD.mono (ro' := new9 ++ R) fun y hy => (List.mem_append.mp hy).elim (fun q => sR _ (hro _ (s8 _ q))) fun q => sR _ (hro _ (hro7 _ q))
    replace hW9 := hW9.mono (ro' := new9 ++ R) fun y hy => hy
    replace hm9 := sN _ hm9
    replace hn4 := hn4.mono sR
    have o3n : ∀ y ∈ new9 ++ R, y.1 ≠ L + 1 + 1 + 1 := fun y hy => (List.mem_append.mp hy).elim (Apart.off hA9 (.tail _ (.tail _ (.tail _ (.tail _ (.tail _ (.head _)))))) y) (r3 y)
    replace N9 := law_n7 N9
    clear hA9 hLP hk r3 rl F10 N10 hS hSd s8 hro hro7 sR sN
    generalize hRR : new9 ++ R = R9 at *
    k_steps
    rename Fr _ _ _ _ => F10
    rename News _ _ _ (_ :: _) => N10
    refine Stop.on ?_
    refine ne_twin (lst_is N10 (.tail _ (.head _))) (lst_is N10 (.tail _ (.tail _ (.head _)))) law_u ?_
    k_steps
    refine Stop.on ?_
    refine For_C (F₀ := F10) (by rfl) (by rfl) (c := L + 1 + 1 + 1) (by rfl) ?_ (hE := hE)
    k_steps
    rename Fr _ _ _ _ => F11
    rename News _ _ _ (_ :: _) => N11
    rename IsRange _ _ _ _ _ _ _ _ => hr
    refine Stop.on ?_
    refine ⟨_, 0, 22, _, _, _, 22, _, o3, _, fun i m => Has m [(Str.ofString "default", r), (Str.ofString "due", .ref ad), (Str.ofString "rows", .ref a9)], rfl, hr, by decide, by decide, F11, N11, ⟨_, dd3⟩, (List.forall_mem_cons.mpr ⟨by k_ne, List.forall_mem_cons.mpr ⟨by k_ne, o3n⟩⟩), ⟨rfl, rfl, rfl, trivial⟩, ?turn, ?done⟩
    case done =>
      rintro m₂ oc' h tk hma F2 N2
      k_steps
      exact hq _ _ _ _ _ F2
    case turn =>
      rintro i t m₂ I oI oc' h tk hi hma hoc hcI offI F2 N2
      replace F2 := pinned F2 hma
      simp only [pin] at F2
      k_steps
      refine Stop.on ?_
      refine compT_invC (fun j ys => ToldInv w R9 (0 + (i : Int)) rows9 j ys ∧ ys.length ≤ j) ⟨ToldInv.start, Nat.le_refl _⟩ ?cturn ?cfin
      case cturn =>
        rintro j ys v I2 oI2 C2 oC2 D2 m₃ h2 tk2 E' hj ⟨hT, hyl⟩ hv hC hx F3 N3 off ne
        (refine hideG ?_; intro G0)
        obtain ⟨ne1, ne2, ne3⟩ := ne
        (dsimp only [G0]); clear G0
        have hv' : ds[j]? = some v := by simpa using hv
        (refine hideG ?_; intro G0)
        obtain ⟨row, hrow, hR⟩ := hRD.at j v hv'
        obtain ⟨hd1, hd2, hd3, hd4⟩ := hR
        (dsimp only [G0]); clear G0
        rcases hd3.find (0 + (i : Int)) with ⟨hf1, hf2⟩ | ⟨x9, q9, hf1, hf2, hf3⟩
        · rw [find_row] at hf1
          k_steps
          exact LCg.CompEnd.intro (by k_asm) (by k_asm) _ (fun p hp => hp) off (Or.inr ⟨_, .tail _ (.tail _ (.tail _ (.tail _ hmd))), rfl, _, rfl⟩) ⟨⟨hT.miss hrow hf1, Nat.le_succ_of_le hyl⟩, rfl⟩
        · rw [find_row] at hf1
          k_steps
          exact LCg.CompEnd.intro (by k_asm) (by k_asm) _ (fun p hp => hp) off (Or.inr ⟨_, .tail _ (.tail _ (.tail _ (.tail _ hmd))), rfl, _, rfl⟩) ⟨⟨hT.hit hrow hf1 hf3, by rw [List.length_append]; exact Nat.succ_le_succ hyl⟩, rfl⟩
      case cfin =>
        rintro ys ⟨hT, hyl⟩
        rw [List.size_toArray, hRD.length] at hT hyl
        unfold ToldInv at hT
        rw [List.take_length] at hT
        rcases hT with ⟨rfl, hfh⟩ | ⟨x9, q9, tl, rfl, hfh, hx9⟩
        · k_steps
          rename Fr _ _ _ _ => F5
          rename News _ _ _ (_ :: _) => N5
          refine Stop.on ?_
          refine Calls.use K0 F5 X N5 T rfl (widthin_spec w _ R9 a9 vs9 k9 rows9 (0 + (i : Int)) t r qd (mem5 hm9) hW9 (fun y hy => mem5 hy) hn4 (lci hi).1 (lci hi).2) (by decide) (by decide) ?_
          rintro r6 news' h6 tk6 F6 N6 ⟨rfl, hn6⟩
          rw [hfh] at hn6
          k_steps
          refine Stop.on ?_
          refine Calls.use K0 F6 X N6 T rfl (same_spec w _ r6 r qd qd (hn6.mono fun y hy => mem5 hy) (hn4.mono fun y hy => mem5 hy)) (by decide) (by decide) ?_
          rintro r7 news' h7 tk7 F7 N7 ⟨rfl, rfl⟩
          rw [sameN_self]
          k_steps
          exact ⟨_, _, _, _, rfl, by k_asm, drop1 (by assumption), List.forall_mem_cons.mpr ⟨hcI, offI⟩, ⟨⟨rfl, rfl, rfl, trivial⟩, rfl⟩⟩
        · have hy20 : (x9 :: tl).length ≤ 1000 := Nat.le_trans hyl (Nat.le_trans (Nat.le_of_eq hRD.length.symm) (Nat.le_trans hdz (by decide)))
          have hpos : 0 < (x9 :: tl).length := Nat.succ_pos _
          k_steps
          rename Fr _ _ _ _ => F5
          rename News _ _ _ (_ :: _) => N5
          refine Stop.on ?_
          refine Calls.use K0 F5 X N5 T rfl (widthin_spec w _ R9 a9 vs9 k9 rows9 (0 + (i : Int)) t r qd (mem5 hm9) hW9 (fun y hy => mem5 hy) hn4 (lci hi).1 (lci hi).2) (by decide) (by decide) ?_
          rintro r6 news' h6 tk6 F6 N6 ⟨rfl, hn6⟩
          rw [hfh] at hn6
          k_steps
          refine Stop.on ?_
          refine Calls.use K0 F6 X N6 T rfl (same_spec w _ r6 x9 q9 q9 (hn6.mono fun y hy => mem5 hy) (hx9.mono fun y hy => mem5 hy)) (by decide) (by decide) ?_
          rintro r7 news' h7 tk7 F7 N7 ⟨rfl, rfl⟩
          rw [sameN_self]
          k_steps
          exact ⟨_, _, _, _, rfl, by k_asm, drop1 (by assumption), List.forall_mem_cons.mpr ⟨hcI, offI⟩, ⟨⟨rfl, rfl, rfl, trivial⟩, rfl⟩⟩
theorem law : PySem.Challenge.rw_nn0211_01.Holds := law_a.2 ⟨law_b.2 ⟨law_c⟩⟩

end
end PySem.Mine
theorem PySem.Challenge.cw_nn0211_01_holds : PySem.Challenge.rw_nn0211_01.Holds :=
  PySem.Mine.law
