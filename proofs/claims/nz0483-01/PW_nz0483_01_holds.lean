import PyProof.Rows.All
import Wide.All
import OpenK.AllK
import Wide.FinOn
import Lean
import PySem.Challenge.RW_nz0483_01
open PySem PySem.W PyProof.Rows
set_option Elab.async false
namespace Mine
noncomputable def nthS : Nat → List Stmt → Stmt
  | _, [] => .Pass ⟨0, 0, 0, 0⟩
  | 0, a :: _ => a
  | n + 1, _ :: r => nthS n r
noncomputable def stAt (i : Nat) : Stmt := nthS i PySem.Challenge.pw_nz0483_01.main.body
noncomputable def methAt (i j : Nat) : Stmt := match stAt i with
  | .ClassDef _ _ _ body _ _ _ _ _ _ _ => nthS j body
  | s => s
noncomputable def fnB (s : Stmt) (qual : Str) (dflt pm : Value) (code : Addr) : Obj := match s with
  | .FunctionDef name args body _ _ _ scope _ _ _ => { cls := Value.type "function", data := Data.func { name := name, qualname := qual, params := args, body := FuncBody.stmts body, scope := scope, globals := 3, closure := [], defaults := dflt, kwdefaults := Value.none, pyModule := pm, code := Value.ref code } }
  | _ => { cls := Value.none }
set_option maxRecDepth 1000000 in
set_option maxHeartbeats 8000000 in
noncomputable def hd.heap_39 : Params → Frag := fun P => (fun (o28 : Obj) (o33 : Obj) (o40 : Obj) (o45 : Obj) (o149 : Obj) (o154 : Obj) (o176 : Obj) (o182 : Obj) (o189 : Obj) (o194 : Obj) (o199 : Obj) (o204 : Obj) (o211 : Obj) (o226 : Obj) (o247 : Obj) (o254 : Obj) (o261 : Obj) (o266 : Obj) (o271 : Obj) (o278 : Obj) (o286 : Obj) (o293 : Obj) (o300 : Obj) (o307 : Obj) (o312 : Obj) (o317 : Obj) (o322 : Obj) (o327 : Obj) (o332 : Obj) (o337 : Obj) (_ : o28 = fnB (stAt 2) (Str.ofString "get_attr") (Value.none) (Value.str (Str.ofString "vectorcove.attrs") 194) 27) (_ : o33 = fnB (stAt 3) (Str.ofString "names_of") (Value.none) (Value.str (Str.ofString "vectorcove.attrs") 194) 32) (_ : o40 = fnB (stAt 4) (Str.ofString "dim_of") (Value.none) (Value.str (Str.ofString "vectorcove.attrs") 194) 39) (_ : o45 = fnB (stAt 5) (Str.ofString "dimnames_of") (Value.none) (Value.str (Str.ofString "vectorcove.attrs") 194) 44) (_ : o149 = fnB (stAt 23) (Str.ofString "escaped_char") (Value.none) (Value.str (Str.ofString "vectorcove.format") 369) 148) (_ : o154 = fnB (stAt 24) (Str.ofString "encode_text") (Value.none) (Value.str (Str.ofString "vectorcove.format") 369) 153) (_ : o176 = fnB (stAt 27) (Str.ofString "format_item") (Value.ref 169) (Value.str (Str.ofString "vectorcove.format") 369) 175) (_ : o182 = fnB (stAt 28) (Str.ofString "item_texts") (Value.ref 177) (Value.str (Str.ofString "vectorcove.format") 369) 181) (_ : o189 = fnB (stAt 29) (Str.ofString "widest") (Value.none) (Value.str (Str.ofString "vectorcove.format") 369) 188) (_ : o194 = fnB (stAt 30) (Str.ofString "pad_left") (Value.none) (Value.str (Str.ofString "vectorcove.format") 369) 193) (_ : o199 = fnB (stAt 31) (Str.ofString "pad_right") (Value.none) (Value.str (Str.ofString "vectorcove.format") 369) 198) (_ : o204 = fnB (stAt 32) (Str.ofString "level_texts") (Value.none) (Value.str (Str.ofString "vectorcove.format") 369) 203) (_ : o211 = fnB (stAt 33) (Str.ofString "factor_labels") (Value.none) (Value.str (Str.ofString "vectorcove.format") 369) 210) (_ : o226 = fnB (methAt 35 0) (Str.ofString "Vector.__init__") (Value.ref 219) (Value.str (Str.ofString "vectorcove.values") 457) 225) (_ : o247 = fnB (stAt 38) (Str.ofString "label_width") (Value.none) (Value.str (Str.ofString "vectorcove.printvec") 501) 246) (_ : o254 = fnB (stAt 39) (Str.ofString "numbered_rows") (Value.none) (Value.str (Str.ofString "vectorcove.printvec") 501) 253) (_ : o261 = fnB (stAt 40) (Str.ofString "named_rows") (Value.none) (Value.str (Str.ofString "vectorcove.printvec") 501) 260) (_ : o266 = fnB (stAt 41) (Str.ofString "text_rows") (Value.none) (Value.str (Str.ofString "vectorcove.printvec") 501) 265) (_ : o271 = fnB (stAt 42) (Str.ofString "levels_row") (Value.none) (Value.str (Str.ofString "vectorcove.printvec") 501) 270) (_ : o278 = fnB (stAt 43) (Str.ofString "is_ordered") (Value.none) (Value.str (Str.ofString "vectorcove.printvec") 501) 277) (_ : o286 = fnB (stAt 44) (Str.ofString "print_factor") (Value.ref 279) (Value.str (Str.ofString "vectorcove.printvec") 501) 285) (_ : o293 = fnB (stAt 45) (Str.ofString "shown_labels") (Value.none) (Value.str (Str.ofString "vectorcove.printvec") 501) 292) (_ : o300 = fnB (stAt 47) (Str.ofString "_law_row") (Value.none) (Value.str (Str.ofString "law_nz0483_01") 576) 299) (_ : o307 = fnB (stAt 48) (Str.ofString "_law_next") (Value.none) (Value.str (Str.ofString "law_nz0483_01") 576) 306) (_ : o312 = fnB (stAt 49) (Str.ofString "_law_seen") (Value.none) (Value.str (Str.ofString "law_nz0483_01") 576) 311) (_ : o317 = fnB (stAt 50) (Str.ofString "_law_word") (Value.none) (Value.str (Str.ofString "law_nz0483_01") 576) 316) (_ : o322 = fnB (stAt 51) (Str.ofString "_law_levels_row") (Value.none) (Value.str (Str.ofString "law_nz0483_01") 576) 321) (_ : o327 = fnB (stAt 52) (Str.ofString "_law_plain_rows") (Value.none) (Value.str (Str.ofString "law_nz0483_01") 576) 326) (_ : o332 = fnB (stAt 53) (Str.ofString "_law_named_rows") (Value.none) (Value.str (Str.ofString "law_nz0483_01") 576) 331) (_ : o337 = fnB (stAt 54) (Str.ofString "law") (Value.none) (Value.str (Str.ofString "law_nz0483_01") 576) 336) =>
  (nat_lit 2, ({ cls := Value.none, data := Data.dict #[] } : Obj)) ::
  (nat_lit 3, ({ cls := Value.type "dict", data := Data.dict #[{ hash := PyData.keyHash P (Str.ofString "__name__"), key := Value.str (Str.ofString "__name__") 165, val := Value.str (Str.ofString "law_nz0483_01") 576 }, { hash := PyData.keyHash P (Str.ofString "__doc__"), key := Value.str (Str.ofString "__doc__") 166, val := Value.none }, { hash := PyData.keyHash P (Str.ofString "__package__"), key := Value.str (Str.ofString "__package__") 167, val := Value.none }, { hash := PyData.keyHash P (Str.ofString "__loader__"), key := Value.str (Str.ofString "__loader__") 168, val := Value.builtin "__main__.__loader__#opaque" }, { hash := PyData.keyHash P (Str.ofString "__spec__"), key := Value.str (Str.ofString "__spec__") 169, val := Value.none }, { hash := PyData.keyHash P (Str.ofString "__annotations__"), key := Value.str (Str.ofString "__annotations__") 170, val := Value.ref 6 }, { hash := PyData.keyHash P (Str.ofString "__builtins__"), key := Value.str (Str.ofString "__builtins__") 171, val := Value.ref 4 }, { hash := PyData.keyHash P (Str.ofString "__file__"), key := Value.str (Str.ofString "__file__") 173, val := Value.str (Str.ofString "/claim/cut.py") 172 }, { hash := PyData.keyHash P (Str.ofString "__cached__"), key := Value.str (Str.ofString "__cached__") 174, val := Value.none }, { hash := PyData.keyHash P (Str.ofString "_wall"), key := Value.str (Str.ofString "_wall") 193, val := Value.ref 21 }, { hash := PyData.keyHash P (Str.ofString "get_attr"), key := Value.str (Str.ofString "get_attr") 203, val := Value.ref 28 }, { hash := PyData.keyHash P (Str.ofString "names_of"), key := Value.str (Str.ofString "names_of") 209, val := Value.ref 33 }, { hash := PyData.keyHash P (Str.ofString "dim_of"), key := Value.str (Str.ofString "dim_of") 217, val := Value.ref 40 }, { hash := PyData.keyHash P (Str.ofString "dimnames_of"), key := Value.str (Str.ofString "dimnames_of") 223, val := Value.ref 45 }, { hash := PyData.keyHash P (Str.ofString "nearest_whole"), key := Value.str (Str.ofString "nearest_whole") 235, val := Value.ref 52 }, { hash := PyData.keyHash P (Str.ofString "exponent"), key := Value.str (Str.ofString "exponent") 245, val := Value.ref 59 }, { hash := PyData.keyHash P (Str.ofString "whole_text"), key := Value.str (Str.ofString "whole_text") 257, val := Value.ref 66 }, { hash := PyData.keyHash P (Str.ofString "special_text"), key := Value.str (Str.ofString "special_text") 264, val := Value.ref 73 }, { hash := PyData.keyHash P (Str.ofString "scaled"), key := Value.str (Str.ofString "scaled") 274, val := Value.ref 80 }, { hash := PyData.keyHash P (Str.ofString "significant"), key := Value.str (Str.ofString "significant") 284, val := Value.ref 87 }, { hash := PyData.keyHash P (Str.ofString "without_tail"), key := Value.str (Str.ofString "without_tail") 292, val := Value.ref 94 }, { hash := PyData.keyHash P (Str.ofString "scientific_text"), key := Value.str (Str.ofString "scientific_text") 304, val := Value.ref 101 }, { hash := PyData.keyHash P (Str.ofString "fixed_text"), key := Value.str (Str.ofString "fixed_text") 314, val := Value.ref 108 }, { hash := PyData.keyHash P (Str.ofString "measures"), key := Value.str (Str.ofString "measures") 327, val := Value.ref 115 }, { hash := PyData.keyHash P (Str.ofString "chosen_form"), key := Value.str (Str.ofString "chosen_form") 344, val := Value.ref 122 }, { hash := PyData.keyHash P (Str.ofString "formed"), key := Value.str (Str.ofString "formed") 353, val := Value.ref 129 }, { hash := PyData.keyHash P (Str.ofString "common_texts"), key := Value.str (Str.ofString "common_texts") 359, val := Value.ref 134 }, { hash := PyData.keyHash P (Str.ofString "number_text"), key := Value.str (Str.ofString "number_text") 368, val := Value.ref 142 }, { hash := PyData.keyHash P (Str.ofString "escaped_char"), key := Value.str (Str.ofString "escaped_char") 379, val := Value.ref 149 }, { hash := PyData.keyHash P (Str.ofString "encode_text"), key := Value.str (Str.ofString "encode_text") 385, val := Value.ref 154 }, { hash := PyData.keyHash P (Str.ofString "logical_text"), key := Value.str (Str.ofString "logical_text") 392, val := Value.ref 161 }, { hash := PyData.keyHash P (Str.ofString "integer_text"), key := Value.str (Str.ofString "integer_text") 399, val := Value.ref 168 }, { hash := PyData.keyHash P (Str.ofString "format_item"), key := Value.str (Str.ofString "format_item") 410, val := Value.ref 176 }, { hash := PyData.keyHash P (Str.ofString "item_texts"), key := Value.str (Str.ofString "item_texts") 417, val := Value.ref 182 }, { hash := PyData.keyHash P (Str.ofString "widest"), key := Value.str (Str.ofString "widest") 426, val := Value.ref 189 }, { hash := PyData.keyHash P (Str.ofString "pad_left"), key := Value.str (Str.ofString "pad_left") 432, val := Value.ref 194 }, { hash := PyData.keyHash P (Str.ofString "pad_right"), key := Value.str (Str.ofString "pad_right") 438, val := Value.ref 199 }, { hash := PyData.keyHash P (Str.ofString "level_texts"), key := Value.str (Str.ofString "level_texts") 444, val := Value.ref 204 }, { hash := PyData.keyHash P (Str.ofString "factor_labels"), key := Value.str (Str.ofString "factor_labels") 456, val := Value.ref 211 }, { hash := PyData.keyHash P (Str.ofString "Vector"), key := Value.str (Str.ofString "Vector") 500, val := Value.ref 236 }, { hash := PyData.keyHash P (Str.ofString "PAGE"), key := Value.str (Str.ofString "PAGE") 504, val := Value.int 80 503 }, { hash := PyData.keyHash P (Str.ofString "label_width"), key := Value.str (Str.ofString "label_width") 511, val := Value.ref 247 }, { hash := PyData.keyHash P (Str.ofString "numbered_rows"), key := Value.str (Str.ofString "numbered_rows") 523, val := Value.ref 254 }, { hash := PyData.keyHash P (Str.ofString "named_rows"), key := Value.str (Str.ofString "named_rows") 538, val := Value.ref 261 }, { hash := PyData.keyHash P (Str.ofString "text_rows"), key := Value.str (Str.ofString "text_rows") 544, val := Value.ref 266 }, { hash := PyData.keyHash P (Str.ofString "levels_row"), key := Value.str (Str.ofString "levels_row") 550, val := Value.ref 271 }, { hash := PyData.keyHash P (Str.ofString "is_ordered"), key := Value.str (Str.ofString "is_ordered") 557, val := Value.ref 278 }, { hash := PyData.keyHash P (Str.ofString "print_factor"), key := Value.str (Str.ofString "print_factor") 567, val := Value.ref 286 }, { hash := PyData.keyHash P (Str.ofString "shown_labels"), key := Value.str (Str.ofString "shown_labels") 575, val := Value.ref 293 }, { hash := PyData.keyHash P (Str.ofString "_law_row"), key := Value.str (Str.ofString "_law_row") 588, val := Value.ref 300 }, { hash := PyData.keyHash P (Str.ofString "_law_next"), key := Value.str (Str.ofString "_law_next") 595, val := Value.ref 307 }, { hash := PyData.keyHash P (Str.ofString "_law_seen"), key := Value.str (Str.ofString "_law_seen") 601, val := Value.ref 312 }, { hash := PyData.keyHash P (Str.ofString "_law_word"), key := Value.str (Str.ofString "_law_word") 607, val := Value.ref 317 }, { hash := PyData.keyHash P (Str.ofString "_law_levels_row"), key := Value.str (Str.ofString "_law_levels_row") 613, val := Value.ref 322 }, { hash := PyData.keyHash P (Str.ofString "_law_plain_rows"), key := Value.str (Str.ofString "_law_plain_rows") 619, val := Value.ref 327 }, { hash := PyData.keyHash P (Str.ofString "_law_named_rows"), key := Value.str (Str.ofString "_law_named_rows") 625, val := Value.ref 332 }, { hash := PyData.keyHash P (Str.ofString "law"), key := Value.str (Str.ofString "law") 631, val := Value.ref 337 }] 57 } : Obj)) ::
  (nat_lit 15, ({ cls := Value.type "tuple", data := Data.seq #[] } : Obj)) ::
  (nat_lit 17, ({ cls := Value.type "tuple", data := Data.seq #[Value.str (Str.ofString "k") 190] } : Obj)) ::
  (nat_lit 18, ({ cls := Value.type "tuple", data := Data.seq #[] } : Obj)) ::
  (nat_lit 20, ({ cls := Value.type "code", data := Data.fields #[Value.str (Str.ofString "_wall") 187, Value.str (Str.ofString "_wall") 188, Value.str (Str.ofString "/claim/cut.py") 189, Value.int 1 0, Value.int 1 0, Value.int 0 0, Value.int 0 0, Value.int 3 0, Value.ref 15, Value.bool true, Value.int 181 0, Value.ref 16, Value.none, Value.ref 17, Value.ref 18, Value.ref 19, Value.int 191 0, Value.int 1 0, Value.str (Str.ofString "/claim/cut.py") 192] } : Obj)) ::
  (nat_lit 22, ({ cls := Value.type "tuple", data := Data.seq #[] } : Obj)) ::
  (nat_lit 24, ({ cls := Value.type "tuple", data := Data.seq #[Value.str (Str.ofString "v") 199, Value.str (Str.ofString "name") 200] } : Obj)) ::
  (nat_lit 25, ({ cls := Value.type "tuple", data := Data.seq #[] } : Obj)) ::
  (nat_lit 27, ({ cls := Value.type "code", data := Data.fields #[Value.str (Str.ofString "get_attr") 196, Value.str (Str.ofString "get_attr") 197, Value.str (Str.ofString "/claim/cut.py") 198, Value.int 5 0, Value.int 2 0, Value.int 0 0, Value.int 0 0, Value.int 3 0, Value.ref 22, Value.bool true, Value.int 181 0, Value.ref 23, Value.none, Value.ref 24, Value.ref 25, Value.ref 26, Value.int 201 0, Value.int 5 0, Value.str (Str.ofString "/claim/cut.py") 202] } : Obj)) ::
  (nat_lit 28, o28) ::
  (nat_lit 29, ({ cls := Value.type "tuple", data := Data.seq #[] } : Obj)) ::
  (nat_lit 32, ({ cls := Value.type "code", data := Data.fields #[Value.str (Str.ofString "names_of") 204, Value.str (Str.ofString "names_of") 205, Value.str (Str.ofString "/claim/cut.py") 206, Value.int 9 0, Value.int 1 0, Value.int 0 0, Value.int 0 0, Value.int 3 0, Value.ref 29, Value.bool true, Value.int 181 0, Value.ref 30, Value.none, Value.none, Value.none, Value.ref 31, Value.int 207 0, Value.int 9 0, Value.str (Str.ofString "/claim/cut.py") 208] } : Obj)) ::
  (nat_lit 33, o33) ::
  (nat_lit 34, ({ cls := Value.type "tuple", data := Data.seq #[] } : Obj)) ::
  (nat_lit 36, ({ cls := Value.type "tuple", data := Data.seq #[Value.str (Str.ofString "v") 213, Value.str (Str.ofString "dims") 214] } : Obj)) ::
  (nat_lit 37, ({ cls := Value.type "tuple", data := Data.seq #[] } : Obj)) ::
  (nat_lit 39, ({ cls := Value.type "code", data := Data.fields #[Value.str (Str.ofString "dim_of") 210, Value.str (Str.ofString "dim_of") 211, Value.str (Str.ofString "/claim/cut.py") 212, Value.int 25 0, Value.int 1 0, Value.int 0 0, Value.int 0 0, Value.int 3 0, Value.ref 34, Value.bool true, Value.int 181 0, Value.ref 35, Value.none, Value.ref 36, Value.ref 37, Value.ref 38, Value.int 215 0, Value.int 25 0, Value.str (Str.ofString "/claim/cut.py") 216] } : Obj)) ::
  (nat_lit 40, o40) ::
  (nat_lit 41, ({ cls := Value.type "tuple", data := Data.seq #[] } : Obj)) ::
  (nat_lit 44, ({ cls := Value.type "code", data := Data.fields #[Value.str (Str.ofString "dimnames_of") 218, Value.str (Str.ofString "dimnames_of") 219, Value.str (Str.ofString "/claim/cut.py") 220, Value.int 30 0, Value.int 1 0, Value.int 0 0, Value.int 0 0, Value.int 3 0, Value.ref 41, Value.bool true, Value.int 181 0, Value.ref 42, Value.none, Value.none, Value.none, Value.ref 43, Value.int 221 0, Value.int 30 0, Value.str (Str.ofString "/claim/cut.py") 222] } : Obj)) ::
  (nat_lit 45, o45) ::
  (nat_lit 46, ({ cls := Value.type "tuple", data := Data.seq #[] } : Obj)) ::
  (nat_lit 48, ({ cls := Value.type "tuple", data := Data.seq #[Value.str (Str.ofString "n") 229, Value.str (Str.ofString "d") 230, Value.str (Str.ofString "low") 231, Value.str (Str.ofString "rest") 232] } : Obj)) ::
  (nat_lit 49, ({ cls := Value.type "tuple", data := Data.seq #[] } : Obj)) ::
  (nat_lit 51, ({ cls := Value.type "code", data := Data.fields #[Value.str (Str.ofString "nearest_whole") 226, Value.str (Str.ofString "nearest_whole") 227, Value.str (Str.ofString "/claim/cut.py") 228, Value.int 36 0, Value.int 2 0, Value.int 0 0, Value.int 0 0, Value.int 3 0, Value.ref 46, Value.bool true, Value.int 181 0, Value.ref 47, Value.none, Value.ref 48, Value.ref 49, Value.ref 50, Value.int 233 0, Value.int 36 0, Value.str (Str.ofString "/claim/cut.py") 234] } : Obj)) ::
  (nat_lit 53, ({ cls := Value.type "tuple", data := Data.seq #[] } : Obj)) ::
  (nat_lit 55, ({ cls := Value.type "tuple", data := Data.seq #[Value.str (Str.ofString "x") 239, Value.str (Str.ofString "n") 240, Value.str (Str.ofString "d") 241, Value.str (Str.ofString "e") 242] } : Obj)) ::
  (nat_lit 56, ({ cls := Value.type "tuple", data := Data.seq #[] } : Obj)) ::
  (nat_lit 58, ({ cls := Value.type "code", data := Data.fields #[Value.str (Str.ofString "exponent") 236, Value.str (Str.ofString "exponent") 237, Value.str (Str.ofString "/claim/cut.py") 238, Value.int 42 0, Value.int 1 0, Value.int 0 0, Value.int 0 0, Value.int 3 0, Value.ref 53, Value.bool true, Value.int 181 0, Value.ref 54, Value.none, Value.ref 55, Value.ref 56, Value.ref 57, Value.int 243 0, Value.int 42 0, Value.str (Str.ofString "/claim/cut.py") 244] } : Obj)) ::
  (nat_lit 60, ({ cls := Value.type "tuple", data := Data.seq #[] } : Obj)) ::
  (nat_lit 62, ({ cls := Value.type "tuple", data := Data.seq #[Value.str (Str.ofString "n") 251, Value.str (Str.ofString "rest") 252, Value.str (Str.ofString "row") 253, Value.str (Str.ofString "part") 254] } : Obj)) ::
  (nat_lit 63, ({ cls := Value.type "tuple", data := Data.seq #[] } : Obj)) ::
  (nat_lit 65, ({ cls := Value.type "code", data := Data.fields #[Value.str (Str.ofString "whole_text") 248, Value.str (Str.ofString "whole_text") 249, Value.str (Str.ofString "/claim/cut.py") 250, Value.int 54 0, Value.int 1 0, Value.int 0 0, Value.int 0 0, Value.int 3 0, Value.ref 60, Value.bool true, Value.int 181 0, Value.ref 61, Value.none, Value.ref 62, Value.ref 63, Value.ref 64, Value.int 255 0, Value.int 54 0, Value.str (Str.ofString "/claim/cut.py") 256] } : Obj)) ::
  (nat_lit 67, ({ cls := Value.type "tuple", data := Data.seq #[] } : Obj)) ::
  (nat_lit 69, ({ cls := Value.type "tuple", data := Data.seq #[Value.str (Str.ofString "x") 261] } : Obj)) ::
  (nat_lit 70, ({ cls := Value.type "tuple", data := Data.seq #[] } : Obj)) ::
  (nat_lit 72, ({ cls := Value.type "code", data := Data.fields #[Value.str (Str.ofString "special_text") 258, Value.str (Str.ofString "special_text") 259, Value.str (Str.ofString "/claim/cut.py") 260, Value.int 65 0, Value.int 1 0, Value.int 0 0, Value.int 0 0, Value.int 3 0, Value.ref 67, Value.bool true, Value.int 181 0, Value.ref 68, Value.none, Value.ref 69, Value.ref 70, Value.ref 71, Value.int 262 0, Value.int 65 0, Value.str (Str.ofString "/claim/cut.py") 263] } : Obj)) ::
  (nat_lit 74, ({ cls := Value.type "tuple", data := Data.seq #[] } : Obj)) ::
  (nat_lit 76, ({ cls := Value.type "tuple", data := Data.seq #[Value.str (Str.ofString "x") 268, Value.str (Str.ofString "e") 269, Value.str (Str.ofString "digits") 270, Value.str (Str.ofString "shift") 271] } : Obj)) ::
  (nat_lit 77, ({ cls := Value.type "tuple", data := Data.seq #[] } : Obj)) ::
  (nat_lit 79, ({ cls := Value.type "code", data := Data.fields #[Value.str (Str.ofString "scaled") 265, Value.str (Str.ofString "scaled") 266, Value.str (Str.ofString "/claim/cut.py") 267, Value.int 73 0, Value.int 3 0, Value.int 0 0, Value.int 0 0, Value.int 3 0, Value.ref 74, Value.bool true, Value.int 181 0, Value.ref 75, Value.none, Value.ref 76, Value.ref 77, Value.ref 78, Value.int 272 0, Value.int 73 0, Value.str (Str.ofString "/claim/cut.py") 273] } : Obj)) ::
  (nat_lit 81, ({ cls := Value.type "tuple", data := Data.seq #[] } : Obj)) ::
  (nat_lit 83, ({ cls := Value.type "tuple", data := Data.seq #[Value.str (Str.ofString "x") 278, Value.str (Str.ofString "digits") 279, Value.str (Str.ofString "e") 280, Value.str (Str.ofString "n") 281] } : Obj)) ::
  (nat_lit 84, ({ cls := Value.type "tuple", data := Data.seq #[] } : Obj)) ::
  (nat_lit 86, ({ cls := Value.type "code", data := Data.fields #[Value.str (Str.ofString "significant") 275, Value.str (Str.ofString "significant") 276, Value.str (Str.ofString "/claim/cut.py") 277, Value.int 78 0, Value.int 2 0, Value.int 0 0, Value.int 0 0, Value.int 3 0, Value.ref 81, Value.bool true, Value.int 181 0, Value.ref 82, Value.none, Value.ref 83, Value.ref 84, Value.ref 85, Value.int 282 0, Value.int 78 0, Value.str (Str.ofString "/claim/cut.py") 283] } : Obj)) ::
  (nat_lit 88, ({ cls := Value.type "tuple", data := Data.seq #[] } : Obj)) ::
  (nat_lit 90, ({ cls := Value.type "tuple", data := Data.seq #[Value.str (Str.ofString "text") 288, Value.str (Str.ofString "end") 289] } : Obj)) ::
  (nat_lit 91, ({ cls := Value.type "tuple", data := Data.seq #[] } : Obj)) ::
  (nat_lit 93, ({ cls := Value.type "code", data := Data.fields #[Value.str (Str.ofString "without_tail") 285, Value.str (Str.ofString "without_tail") 286, Value.str (Str.ofString "/claim/cut.py") 287, Value.int 87 0, Value.int 1 0, Value.int 0 0, Value.int 0 0, Value.int 3 0, Value.ref 88, Value.bool true, Value.int 181 0, Value.ref 89, Value.none, Value.ref 90, Value.ref 91, Value.ref 92, Value.int 290 0, Value.int 87 0, Value.str (Str.ofString "/claim/cut.py") 291] } : Obj)) ::
  (nat_lit 95, ({ cls := Value.type "tuple", data := Data.seq #[] } : Obj)) ::
  (nat_lit 97, ({ cls := Value.type "tuple", data := Data.seq #[Value.str (Str.ofString "x") 296, Value.str (Str.ofString "digits") 297, Value.str (Str.ofString "side") 298, Value.str (Str.ofString "text") 299, Value.str (Str.ofString "e") 300, Value.str (Str.ofString "row") 301] } : Obj)) ::
  (nat_lit 98, ({ cls := Value.type "tuple", data := Data.seq #[] } : Obj)) ::
  (nat_lit 100, ({ cls := Value.type "code", data := Data.fields #[Value.str (Str.ofString "scientific_text") 293, Value.str (Str.ofString "scientific_text") 294, Value.str (Str.ofString "/claim/cut.py") 295, Value.int 92 0, Value.int 2 0, Value.int 0 0, Value.int 0 0, Value.int 3 0, Value.ref 95, Value.bool true, Value.int 181 0, Value.ref 96, Value.none, Value.ref 97, Value.ref 98, Value.ref 99, Value.int 302 0, Value.int 92 0, Value.str (Str.ofString "/claim/cut.py") 303] } : Obj)) ::
  (nat_lit 102, ({ cls := Value.type "tuple", data := Data.seq #[] } : Obj)) ::
  (nat_lit 104, ({ cls := Value.type "tuple", data := Data.seq #[Value.str (Str.ofString "x") 308, Value.str (Str.ofString "places") 309, Value.str (Str.ofString "n") 310, Value.str (Str.ofString "text") 311] } : Obj)) ::
  (nat_lit 105, ({ cls := Value.type "tuple", data := Data.seq #[] } : Obj)) ::
  (nat_lit 107, ({ cls := Value.type "code", data := Data.fields #[Value.str (Str.ofString "fixed_text") 305, Value.str (Str.ofString "fixed_text") 306, Value.str (Str.ofString "/claim/cut.py") 307, Value.int 99 0, Value.int 2 0, Value.int 0 0, Value.int 0 0, Value.int 3 0, Value.ref 102, Value.bool true, Value.int 181 0, Value.ref 103, Value.none, Value.ref 104, Value.ref 105, Value.ref 106, Value.int 312 0, Value.int 99 0, Value.str (Str.ofString "/claim/cut.py") 313] } : Obj)) ::
  (nat_lit 109, ({ cls := Value.type "tuple", data := Data.seq #[] } : Obj)) ::
  (nat_lit 111, ({ cls := Value.type "tuple", data := Data.seq #[Value.str (Str.ofString "x") 318, Value.str (Str.ofString "digits") 319, Value.str (Str.ofString "side") 320, Value.str (Str.ofString "text") 321, Value.str (Str.ofString "e") 322, Value.str (Str.ofString "count") 323, Value.str (Str.ofString "left") 324] } : Obj)) ::
  (nat_lit 112, ({ cls := Value.type "tuple", data := Data.seq #[] } : Obj)) ::
  (nat_lit 114, ({ cls := Value.type "code", data := Data.fields #[Value.str (Str.ofString "measures") 315, Value.str (Str.ofString "measures") 316, Value.str (Str.ofString "/claim/cut.py") 317, Value.int 107 0, Value.int 2 0, Value.int 0 0, Value.int 0 0, Value.int 3 0, Value.ref 109, Value.bool true, Value.int 181 0, Value.ref 110, Value.none, Value.ref 111, Value.ref 112, Value.ref 113, Value.int 325 0, Value.int 107 0, Value.str (Str.ofString "/claim/cut.py") 326] } : Obj)) ::
  (nat_lit 116, ({ cls := Value.type "tuple", data := Data.seq #[] } : Obj)) ::
  (nat_lit 118, ({ cls := Value.type "tuple", data := Data.seq #[Value.str (Str.ofString "xs") 331, Value.str (Str.ofString "digits") 332, Value.str (Str.ofString "count") 333, Value.str (Str.ofString "left") 334, Value.str (Str.ofString "places") 335, Value.str (Str.ofString "wide") 336, Value.str (Str.ofString "minus") 337, Value.str (Str.ofString "x") 338, Value.str (Str.ofString "row") 339, Value.str (Str.ofString "fixed_width") 340, Value.str (Str.ofString "scientific_width") 341] } : Obj)) ::
  (nat_lit 119, ({ cls := Value.type "tuple", data := Data.seq #[] } : Obj)) ::
  (nat_lit 121, ({ cls := Value.type "code", data := Data.fields #[Value.str (Str.ofString "chosen_form") 328, Value.str (Str.ofString "chosen_form") 329, Value.str (Str.ofString "/claim/cut.py") 330, Value.int 114 0, Value.int 2 0, Value.int 0 0, Value.int 0 0, Value.int 3 0, Value.ref 116, Value.bool true, Value.int 181 0, Value.ref 117, Value.none, Value.ref 118, Value.ref 119, Value.ref 120, Value.int 342 0, Value.int 114 0, Value.str (Str.ofString "/claim/cut.py") 343] } : Obj)) ::
  (nat_lit 123, ({ cls := Value.type "tuple", data := Data.seq #[] } : Obj)) ::
  (nat_lit 125, ({ cls := Value.type "tuple", data := Data.seq #[Value.str (Str.ofString "x") 348, Value.str (Str.ofString "form") 349, Value.str (Str.ofString "text") 350] } : Obj)) ::
  (nat_lit 126, ({ cls := Value.type "tuple", data := Data.seq #[] } : Obj)) ::
  (nat_lit 128, ({ cls := Value.type "code", data := Data.fields #[Value.str (Str.ofString "formed") 345, Value.str (Str.ofString "formed") 346, Value.str (Str.ofString "/claim/cut.py") 347, Value.int 134 0, Value.int 2 0, Value.int 0 0, Value.int 0 0, Value.int 3 0, Value.ref 123, Value.bool true, Value.int 181 0, Value.ref 124, Value.none, Value.ref 125, Value.ref 126, Value.ref 127, Value.int 351 0, Value.int 134 0, Value.str (Str.ofString "/claim/cut.py") 352] } : Obj)) ::
  (nat_lit 130, ({ cls := Value.type "tuple", data := Data.seq #[] } : Obj)) ::
  (nat_lit 133, ({ cls := Value.type "code", data := Data.fields #[Value.str (Str.ofString "common_texts") 354, Value.str (Str.ofString "common_texts") 355, Value.str (Str.ofString "/claim/cut.py") 356, Value.int 141 0, Value.int 2 0, Value.int 0 0, Value.int 0 0, Value.int 3 0, Value.ref 130, Value.bool true, Value.int 181 0, Value.ref 131, Value.none, Value.none, Value.none, Value.ref 132, Value.int 357 0, Value.int 141 0, Value.str (Str.ofString "/claim/cut.py") 358] } : Obj)) ::
  (nat_lit 135, ({ cls := Value.type "tuple", data := Data.seq #[Value.int 7 360] } : Obj)) ::
  (nat_lit 136, ({ cls := Value.type "tuple", data := Data.seq #[] } : Obj)) ::
  (nat_lit 138, ({ cls := Value.type "tuple", data := Data.seq #[Value.str (Str.ofString "x") 364, Value.str (Str.ofString "digits") 365] } : Obj)) ::
  (nat_lit 139, ({ cls := Value.type "tuple", data := Data.seq #[] } : Obj)) ::
  (nat_lit 141, ({ cls := Value.type "code", data := Data.fields #[Value.str (Str.ofString "number_text") 361, Value.str (Str.ofString "number_text") 362, Value.str (Str.ofString "/claim/cut.py") 363, Value.int 145 0, Value.int 2 0, Value.int 0 0, Value.int 0 0, Value.int 3 0, Value.ref 136, Value.bool true, Value.int 181 0, Value.ref 137, Value.none, Value.ref 138, Value.ref 139, Value.ref 140, Value.int 366 0, Value.int 145 0, Value.str (Str.ofString "/claim/cut.py") 367] } : Obj)) ::
  (nat_lit 143, ({ cls := Value.type "tuple", data := Data.seq #[] } : Obj)) ::
  (nat_lit 145, ({ cls := Value.type "tuple", data := Data.seq #[Value.str (Str.ofString "char") 374, Value.str (Str.ofString "quote") 375, Value.str (Str.ofString "code") 376] } : Obj)) ::
  (nat_lit 146, ({ cls := Value.type "tuple", data := Data.seq #[] } : Obj)) ::
  (nat_lit 148, ({ cls := Value.type "code", data := Data.fields #[Value.str (Str.ofString "escaped_char") 371, Value.str (Str.ofString "escaped_char") 372, Value.str (Str.ofString "/claim/cut.py") 373, Value.int 148 0, Value.int 2 0, Value.int 0 0, Value.int 0 0, Value.int 3 0, Value.ref 143, Value.bool true, Value.int 181 0, Value.ref 144, Value.none, Value.ref 145, Value.ref 146, Value.ref 147, Value.int 377 0, Value.int 148 0, Value.str (Str.ofString "/claim/cut.py") 378] } : Obj)) ::
  (nat_lit 149, o149) ::
  (nat_lit 150, ({ cls := Value.type "tuple", data := Data.seq #[] } : Obj)) ::
  (nat_lit 153, ({ cls := Value.type "code", data := Data.fields #[Value.str (Str.ofString "encode_text") 380, Value.str (Str.ofString "encode_text") 381, Value.str (Str.ofString "/claim/cut.py") 382, Value.int 159 0, Value.int 2 0, Value.int 0 0, Value.int 0 0, Value.int 3 0, Value.ref 150, Value.bool true, Value.int 181 0, Value.ref 151, Value.none, Value.none, Value.none, Value.ref 152, Value.int 383 0, Value.int 159 0, Value.str (Str.ofString "/claim/cut.py") 384] } : Obj)) ::
  (nat_lit 154, o154) ::
  (nat_lit 155, ({ cls := Value.type "tuple", data := Data.seq #[] } : Obj)) ::
  (nat_lit 157, ({ cls := Value.type "tuple", data := Data.seq #[Value.str (Str.ofString "item") 389] } : Obj)) ::
  (nat_lit 158, ({ cls := Value.type "tuple", data := Data.seq #[] } : Obj)) ::
  (nat_lit 160, ({ cls := Value.type "code", data := Data.fields #[Value.str (Str.ofString "logical_text") 386, Value.str (Str.ofString "logical_text") 387, Value.str (Str.ofString "/claim/cut.py") 388, Value.int 166 0, Value.int 1 0, Value.int 0 0, Value.int 0 0, Value.int 3 0, Value.ref 155, Value.bool true, Value.int 181 0, Value.ref 156, Value.none, Value.ref 157, Value.ref 158, Value.ref 159, Value.int 390 0, Value.int 166 0, Value.str (Str.ofString "/claim/cut.py") 391] } : Obj)) ::
  (nat_lit 162, ({ cls := Value.type "tuple", data := Data.seq #[] } : Obj)) ::
  (nat_lit 164, ({ cls := Value.type "tuple", data := Data.seq #[Value.str (Str.ofString "item") 396] } : Obj)) ::
  (nat_lit 165, ({ cls := Value.type "tuple", data := Data.seq #[] } : Obj)) ::
  (nat_lit 167, ({ cls := Value.type "code", data := Data.fields #[Value.str (Str.ofString "integer_text") 393, Value.str (Str.ofString "integer_text") 394, Value.str (Str.ofString "/claim/cut.py") 395, Value.int 170 0, Value.int 1 0, Value.int 0 0, Value.int 0 0, Value.int 3 0, Value.ref 162, Value.bool true, Value.int 181 0, Value.ref 163, Value.none, Value.ref 164, Value.ref 165, Value.ref 166, Value.int 397 0, Value.int 170 0, Value.str (Str.ofString "/claim/cut.py") 398] } : Obj)) ::
  (nat_lit 169, ({ cls := Value.type "tuple", data := Data.seq #[Value.int 7 400, Value.bool false] } : Obj)) ::
  (nat_lit 170, ({ cls := Value.type "tuple", data := Data.seq #[] } : Obj)) ::
  (nat_lit 172, ({ cls := Value.type "tuple", data := Data.seq #[Value.str (Str.ofString "kind") 404, Value.str (Str.ofString "item") 405, Value.str (Str.ofString "digits") 406, Value.str (Str.ofString "quote") 407] } : Obj)) ::
  (nat_lit 173, ({ cls := Value.type "tuple", data := Data.seq #[] } : Obj)) ::
  (nat_lit 175, ({ cls := Value.type "code", data := Data.fields #[Value.str (Str.ofString "format_item") 401, Value.str (Str.ofString "format_item") 402, Value.str (Str.ofString "/claim/cut.py") 403, Value.int 174 0, Value.int 4 0, Value.int 0 0, Value.int 0 0, Value.int 3 0, Value.ref 170, Value.bool true, Value.int 181 0, Value.ref 171, Value.none, Value.ref 172, Value.ref 173, Value.ref 174, Value.int 408 0, Value.int 174 0, Value.str (Str.ofString "/claim/cut.py") 409] } : Obj)) ::
  (nat_lit 176, o176) ::
  (nat_lit 177, ({ cls := Value.type "tuple", data := Data.seq #[Value.int 7 411, Value.bool true] } : Obj)) ::
  (nat_lit 178, ({ cls := Value.type "tuple", data := Data.seq #[] } : Obj)) ::
  (nat_lit 181, ({ cls := Value.type "code", data := Data.fields #[Value.str (Str.ofString "item_texts") 412, Value.str (Str.ofString "item_texts") 413, Value.str (Str.ofString "/claim/cut.py") 414, Value.int 182 0, Value.int 3 0, Value.int 0 0, Value.int 0 0, Value.int 3 0, Value.ref 178, Value.bool true, Value.int 181 0, Value.ref 179, Value.none, Value.none, Value.none, Value.ref 180, Value.int 415 0, Value.int 182 0, Value.str (Str.ofString "/claim/cut.py") 416] } : Obj)) ::
  (nat_lit 182, o182) ::
  (nat_lit 183, ({ cls := Value.type "tuple", data := Data.seq #[] } : Obj)) ::
  (nat_lit 185, ({ cls := Value.type "tuple", data := Data.seq #[Value.str (Str.ofString "texts") 421, Value.str (Str.ofString "found") 422, Value.str (Str.ofString "one") 423] } : Obj)) ::
  (nat_lit 186, ({ cls := Value.type "tuple", data := Data.seq #[] } : Obj)) ::
  (nat_lit 188, ({ cls := Value.type "code", data := Data.fields #[Value.str (Str.ofString "widest") 418, Value.str (Str.ofString "widest") 419, Value.str (Str.ofString "/claim/cut.py") 420, Value.int 186 0, Value.int 1 0, Value.int 0 0, Value.int 0 0, Value.int 3 0, Value.ref 183, Value.bool true, Value.int 181 0, Value.ref 184, Value.none, Value.ref 185, Value.ref 186, Value.ref 187, Value.int 424 0, Value.int 186 0, Value.str (Str.ofString "/claim/cut.py") 425] } : Obj)) ::
  (nat_lit 189, o189) ::
  (nat_lit 190, ({ cls := Value.type "tuple", data := Data.seq #[] } : Obj)) ::
  (nat_lit 193, ({ cls := Value.type "code", data := Data.fields #[Value.str (Str.ofString "pad_left") 427, Value.str (Str.ofString "pad_left") 428, Value.str (Str.ofString "/claim/cut.py") 429, Value.int 191 0, Value.int 2 0, Value.int 0 0, Value.int 0 0, Value.int 3 0, Value.ref 190, Value.bool true, Value.int 181 0, Value.ref 191, Value.none, Value.none, Value.none, Value.ref 192, Value.int 430 0, Value.int 191 0, Value.str (Str.ofString "/claim/cut.py") 431] } : Obj)) ::
  (nat_lit 194, o194) ::
  (nat_lit 195, ({ cls := Value.type "tuple", data := Data.seq #[] } : Obj)) ::
  (nat_lit 198, ({ cls := Value.type "code", data := Data.fields #[Value.str (Str.ofString "pad_right") 433, Value.str (Str.ofString "pad_right") 434, Value.str (Str.ofString "/claim/cut.py") 435, Value.int 193 0, Value.int 2 0, Value.int 0 0, Value.int 0 0, Value.int 3 0, Value.ref 195, Value.bool true, Value.int 181 0, Value.ref 196, Value.none, Value.none, Value.none, Value.ref 197, Value.int 436 0, Value.int 193 0, Value.str (Str.ofString "/claim/cut.py") 437] } : Obj)) ::
  (nat_lit 199, o199) ::
  (nat_lit 200, ({ cls := Value.type "tuple", data := Data.seq #[] } : Obj)) ::
  (nat_lit 203, ({ cls := Value.type "code", data := Data.fields #[Value.str (Str.ofString "level_texts") 439, Value.str (Str.ofString "level_texts") 440, Value.str (Str.ofString "/claim/cut.py") 441, Value.int 195 0, Value.int 1 0, Value.int 0 0, Value.int 0 0, Value.int 3 0, Value.ref 200, Value.bool true, Value.int 181 0, Value.ref 201, Value.none, Value.none, Value.none, Value.ref 202, Value.int 442 0, Value.int 195 0, Value.str (Str.ofString "/claim/cut.py") 443] } : Obj)) ::
  (nat_lit 204, o204) ::
  (nat_lit 205, ({ cls := Value.type "tuple", data := Data.seq #[] } : Obj)) ::
  (nat_lit 207, ({ cls := Value.type "tuple", data := Data.seq #[Value.str (Str.ofString "f") 448, Value.str (Str.ofString "lacking") 449, Value.str (Str.ofString "levels") 450, Value.str (Str.ofString "texts") 451, Value.str (Str.ofString "item") 452, Value.str (Str.ofString "label") 453] } : Obj)) ::
  (nat_lit 208, ({ cls := Value.type "tuple", data := Data.seq #[] } : Obj)) ::
  (nat_lit 210, ({ cls := Value.type "code", data := Data.fields #[Value.str (Str.ofString "factor_labels") 445, Value.str (Str.ofString "factor_labels") 446, Value.str (Str.ofString "/claim/cut.py") 447, Value.int 202 0, Value.int 2 0, Value.int 0 0, Value.int 0 0, Value.int 3 0, Value.ref 205, Value.bool true, Value.int 181 0, Value.ref 206, Value.none, Value.ref 207, Value.ref 208, Value.ref 209, Value.int 454 0, Value.int 202 0, Value.str (Str.ofString "/claim/cut.py") 455] } : Obj)) ::
  (nat_lit 211, o211) ::
  (nat_lit 219, ({ cls := Value.type "tuple", data := Data.seq #[Value.none] } : Obj)) ::
  (nat_lit 220, ({ cls := Value.type "tuple", data := Data.seq #[] } : Obj)) ::
  (nat_lit 222, ({ cls := Value.type "tuple", data := Data.seq #[Value.str (Str.ofString "self") 474, Value.str (Str.ofString "kind") 475, Value.str (Str.ofString "items") 476, Value.str (Str.ofString "attrs") 477] } : Obj)) ::
  (nat_lit 223, ({ cls := Value.type "tuple", data := Data.seq #[] } : Obj)) ::
  (nat_lit 225, ({ cls := Value.type "code", data := Data.fields #[Value.str (Str.ofString "__init__") 471, Value.str (Str.ofString "Vector.__init__") 472, Value.str (Str.ofString "/claim/cut.py") 473, Value.int 214 0, Value.int 4 0, Value.int 0 0, Value.int 0 0, Value.int 3 0, Value.ref 220, Value.bool true, Value.int 181 0, Value.ref 221, Value.none, Value.ref 222, Value.ref 223, Value.ref 224, Value.int 478 0, Value.int 214 0, Value.str (Str.ofString "/claim/cut.py") 479] } : Obj)) ::
  (nat_lit 226, o226) ::
  (nat_lit 227, ({ cls := Value.type "tuple", data := Data.seq #[] } : Obj)) ::
  (nat_lit 229, ({ cls := Value.type "tuple", data := Data.seq #[Value.str (Str.ofString "self") 484] } : Obj)) ::
  (nat_lit 230, ({ cls := Value.type "tuple", data := Data.seq #[] } : Obj)) ::
  (nat_lit 232, ({ cls := Value.type "code", data := Data.fields #[Value.str (Str.ofString "copy") 481, Value.str (Str.ofString "Vector.copy") 482, Value.str (Str.ofString "/claim/cut.py") 483, Value.int 221 0, Value.int 1 0, Value.int 0 0, Value.int 0 0, Value.int 3 0, Value.ref 227, Value.bool true, Value.int 181 0, Value.ref 228, Value.none, Value.ref 229, Value.ref 230, Value.ref 231, Value.int 485 0, Value.int 221 0, Value.str (Str.ofString "/claim/cut.py") 486] } : Obj)) ::
  (nat_lit 234, ({ cls := Value.type "tuple", data := Data.seq #[Value.str (Str.ofString "attrs") 488, Value.str (Str.ofString "items") 489, Value.str (Str.ofString "kind") 490, Value.str (Str.ofString "loose") 491, Value.str (Str.ofString "shared") 492] } : Obj)) ::
  (nat_lit 235, ({ cls := Value.type "dict", data := Data.dict #[{ hash := PyData.keyHash P (Str.ofString "__module__"), key := Value.str (Str.ofString "__module__") 466, val := Value.str (Str.ofString "vectorcove.values") 457 }, { hash := PyData.keyHash P (Str.ofString "__firstlineno__"), key := Value.str (Str.ofString "__firstlineno__") 470, val := Value.int 212 469 }, { hash := PyData.keyHash P (Str.ofString "__init__"), key := Value.str (Str.ofString "__init__") 480, val := Value.ref 226 }, { hash := PyData.keyHash P (Str.ofString "copy"), key := Value.str (Str.ofString "copy") 487, val := Value.ref 233 }, { hash := PyData.keyHash P (Str.ofString "__static_attributes__"), key := Value.str (Str.ofString "__static_attributes__") 493, val := Value.ref 234 }, { hash := PyData.keyHash P (Str.ofString "__dict__"), key := Value.str (Str.ofString "__dict__") 495, val := Value.ref 237 }, { hash := PyData.keyHash P (Str.ofString "__weakref__"), key := Value.str (Str.ofString "__weakref__") 497, val := Value.ref 238 }, { hash := PyData.keyHash P (Str.ofString "__doc__"), key := Value.str (Str.ofString "__doc__") 498, val := Value.none }] 4 } : Obj)) ::
  (nat_lit 236, ({ cls := Value.type "type", data := Data.cls { name := Str.ofString "Vector", bases := [Value.type "object"], mro := [Value.ref 236, Value.type "object"], ns := 235, qualname := Str.ofString "Vector" }, slots := #[none, none, some (Value.str (Str.ofString "Vector") 459), some (Value.str (Str.ofString "Vector") 467), some (Value.builtin "object.__new__"), some (Value.bool true)] } : Obj)) ::
  (nat_lit 237, ({ cls := Value.type "getset_descriptor", data := Data.fields #[Value.str (Str.ofString "__dict__") 494, Value.ref 236, Value.builtin "function.__dict__", Value.builtin "function.__dict__#set"] } : Obj)) ::
  (nat_lit 238, ({ cls := Value.type "getset_descriptor", data := Data.fields #[Value.str (Str.ofString "__weakref__") 496, Value.ref 236, Value.builtin "ExceptionGroup.__weakref__", Value.none] } : Obj)) ::
  (nat_lit 241, ({ cls := Value.type "tuple", data := Data.seq #[] } : Obj)) ::
  (nat_lit 243, ({ cls := Value.type "tuple", data := Data.seq #[Value.str (Str.ofString "count") 508] } : Obj)) ::
  (nat_lit 244, ({ cls := Value.type "tuple", data := Data.seq #[] } : Obj)) ::
  (nat_lit 246, ({ cls := Value.type "code", data := Data.fields #[Value.str (Str.ofString "label_width") 505, Value.str (Str.ofString "label_width") 506, Value.str (Str.ofString "/claim/cut.py") 507, Value.int 225 0, Value.int 1 0, Value.int 0 0, Value.int 0 0, Value.int 3 0, Value.ref 241, Value.bool true, Value.int 181 0, Value.ref 242, Value.none, Value.ref 243, Value.ref 244, Value.ref 245, Value.int 509 0, Value.int 225 0, Value.str (Str.ofString "/claim/cut.py") 510] } : Obj)) ::
  (nat_lit 247, o247) ::
  (nat_lit 248, ({ cls := Value.type "tuple", data := Data.seq #[] } : Obj)) ::
  (nat_lit 250, ({ cls := Value.type "tuple", data := Data.seq #[Value.str (Str.ofString "texts") 515, Value.str (Str.ofString "width") 516, Value.str (Str.ofString "label") 517, Value.str (Str.ofString "rows") 518, Value.str (Str.ofString "current") 519, Value.str (Str.ofString "place") 520] } : Obj)) ::
  (nat_lit 251, ({ cls := Value.type "tuple", data := Data.seq #[] } : Obj)) ::
  (nat_lit 253, ({ cls := Value.type "code", data := Data.fields #[Value.str (Str.ofString "numbered_rows") 512, Value.str (Str.ofString "numbered_rows") 513, Value.str (Str.ofString "/claim/cut.py") 514, Value.int 227 0, Value.int 2 0, Value.int 0 0, Value.int 0 0, Value.int 3 0, Value.ref 248, Value.bool true, Value.int 181 0, Value.ref 249, Value.none, Value.ref 250, Value.ref 251, Value.ref 252, Value.int 521 0, Value.int 227 0, Value.str (Str.ofString "/claim/cut.py") 522] } : Obj)) ::
  (nat_lit 254, o254) ::
  (nat_lit 255, ({ cls := Value.type "tuple", data := Data.seq #[] } : Obj)) ::
  (nat_lit 257, ({ cls := Value.type "tuple", data := Data.seq #[Value.str (Str.ofString "texts") 527, Value.str (Str.ofString "names") 528, Value.str (Str.ofString "width") 529, Value.str (Str.ofString "column") 530, Value.str (Str.ofString "per_row") 531, Value.str (Str.ofString "rows") 532, Value.str (Str.ofString "start") 533, Value.str (Str.ofString "heads") 534, Value.str (Str.ofString "parts") 535] } : Obj)) ::
  (nat_lit 258, ({ cls := Value.type "tuple", data := Data.seq #[] } : Obj)) ::
  (nat_lit 260, ({ cls := Value.type "code", data := Data.fields #[Value.str (Str.ofString "named_rows") 524, Value.str (Str.ofString "named_rows") 525, Value.str (Str.ofString "/claim/cut.py") 526, Value.int 239 0, Value.int 3 0, Value.int 0 0, Value.int 0 0, Value.int 3 0, Value.ref 255, Value.bool true, Value.int 181 0, Value.ref 256, Value.none, Value.ref 257, Value.ref 258, Value.ref 259, Value.int 536 0, Value.int 239 0, Value.str (Str.ofString "/claim/cut.py") 537] } : Obj)) ::
  (nat_lit 261, o261) ::
  (nat_lit 262, ({ cls := Value.type "tuple", data := Data.seq #[] } : Obj)) ::
  (nat_lit 265, ({ cls := Value.type "code", data := Data.fields #[Value.str (Str.ofString "text_rows") 539, Value.str (Str.ofString "text_rows") 540, Value.str (Str.ofString "/claim/cut.py") 541, Value.int 249 0, Value.int 4 0, Value.int 0 0, Value.int 0 0, Value.int 3 0, Value.ref 262, Value.bool true, Value.int 181 0, Value.ref 263, Value.none, Value.none, Value.none, Value.ref 264, Value.int 542 0, Value.int 249 0, Value.str (Str.ofString "/claim/cut.py") 543] } : Obj)) ::
  (nat_lit 266, o266) ::
  (nat_lit 267, ({ cls := Value.type "tuple", data := Data.seq #[] } : Obj)) ::
  (nat_lit 270, ({ cls := Value.type "code", data := Data.fields #[Value.str (Str.ofString "levels_row") 545, Value.str (Str.ofString "levels_row") 546, Value.str (Str.ofString "/claim/cut.py") 547, Value.int 255 0, Value.int 3 0, Value.int 0 0, Value.int 0 0, Value.int 3 0, Value.ref 267, Value.bool true, Value.int 181 0, Value.ref 268, Value.none, Value.none, Value.none, Value.ref 269, Value.int 548 0, Value.int 255 0, Value.str (Str.ofString "/claim/cut.py") 549] } : Obj)) ::
  (nat_lit 271, o271) ::
  (nat_lit 272, ({ cls := Value.type "tuple", data := Data.seq #[] } : Obj)) ::
  (nat_lit 274, ({ cls := Value.type "tuple", data := Data.seq #[Value.str (Str.ofString "f") 554] } : Obj)) ::
  (nat_lit 275, ({ cls := Value.type "tuple", data := Data.seq #[] } : Obj)) ::
  (nat_lit 277, ({ cls := Value.type "code", data := Data.fields #[Value.str (Str.ofString "is_ordered") 551, Value.str (Str.ofString "is_ordered") 552, Value.str (Str.ofString "/claim/cut.py") 553, Value.int 272 0, Value.int 1 0, Value.int 0 0, Value.int 0 0, Value.int 3 0, Value.ref 272, Value.bool true, Value.int 181 0, Value.ref 273, Value.none, Value.ref 274, Value.ref 275, Value.ref 276, Value.int 555 0, Value.int 272 0, Value.str (Str.ofString "/claim/cut.py") 556] } : Obj)) ::
  (nat_lit 278, o278) ::
  (nat_lit 279, ({ cls := Value.type "tuple", data := Data.seq #[Value.int 80 503] } : Obj)) ::
  (nat_lit 280, ({ cls := Value.type "tuple", data := Data.seq #[] } : Obj)) ::
  (nat_lit 282, ({ cls := Value.type "tuple", data := Data.seq #[Value.str (Str.ofString "f") 561, Value.str (Str.ofString "width") 562, Value.str (Str.ofString "levels") 563, Value.str (Str.ofString "rows") 564] } : Obj)) ::
  (nat_lit 283, ({ cls := Value.type "tuple", data := Data.seq #[] } : Obj)) ::
  (nat_lit 285, ({ cls := Value.type "code", data := Data.fields #[Value.str (Str.ofString "print_factor") 558, Value.str (Str.ofString "print_factor") 559, Value.str (Str.ofString "/claim/cut.py") 560, Value.int 274 0, Value.int 2 0, Value.int 0 0, Value.int 0 0, Value.int 3 0, Value.ref 280, Value.bool true, Value.int 181 0, Value.ref 281, Value.none, Value.ref 282, Value.ref 283, Value.ref 284, Value.int 565 0, Value.int 274 0, Value.str (Str.ofString "/claim/cut.py") 566] } : Obj)) ::
  (nat_lit 286, o286) ::
  (nat_lit 287, ({ cls := Value.type "tuple", data := Data.seq #[] } : Obj)) ::
  (nat_lit 289, ({ cls := Value.type "tuple", data := Data.seq #[Value.str (Str.ofString "f") 571, Value.str (Str.ofString "plain") 572] } : Obj)) ::
  (nat_lit 290, ({ cls := Value.type "tuple", data := Data.seq #[] } : Obj)) ::
  (nat_lit 292, ({ cls := Value.type "code", data := Data.fields #[Value.str (Str.ofString "shown_labels") 568, Value.str (Str.ofString "shown_labels") 569, Value.str (Str.ofString "/claim/cut.py") 570, Value.int 284 0, Value.int 1 0, Value.int 0 0, Value.int 0 0, Value.int 3 0, Value.ref 287, Value.bool true, Value.int 181 0, Value.ref 288, Value.none, Value.ref 289, Value.ref 290, Value.ref 291, Value.int 573 0, Value.int 284 0, Value.str (Str.ofString "/claim/cut.py") 574] } : Obj)) ::
  (nat_lit 293, o293) ::
  (nat_lit 294, ({ cls := Value.type "tuple", data := Data.seq #[] } : Obj)) ::
  (nat_lit 296, ({ cls := Value.type "tuple", data := Data.seq #[Value.str (Str.ofString "script") 581, Value.str (Str.ofString "row") 582, Value.str (Str.ofString "cell") 583, Value.str (Str.ofString "figure") 584, Value.str (Str.ofString "lap") 585] } : Obj)) ::
  (nat_lit 297, ({ cls := Value.type "tuple", data := Data.seq #[] } : Obj)) ::
  (nat_lit 299, ({ cls := Value.type "code", data := Data.fields #[Value.str (Str.ofString "_law_row") 578, Value.str (Str.ofString "_law_row") 579, Value.str (Str.ofString "/claim/cut.py") 580, Value.int 288 0, Value.int 1 0, Value.int 0 0, Value.int 0 0, Value.int 3 0, Value.ref 294, Value.bool true, Value.int 181 0, Value.ref 295, Value.none, Value.ref 296, Value.ref 297, Value.ref 298, Value.int 586 0, Value.int 288 0, Value.str (Str.ofString "/claim/cut.py") 587] } : Obj)) ::
  (nat_lit 300, o300) ::
  (nat_lit 301, ({ cls := Value.type "tuple", data := Data.seq #[] } : Obj)) ::
  (nat_lit 303, ({ cls := Value.type "tuple", data := Data.seq #[Value.str (Str.ofString "row") 592] } : Obj)) ::
  (nat_lit 304, ({ cls := Value.type "tuple", data := Data.seq #[] } : Obj)) ::
  (nat_lit 306, ({ cls := Value.type "code", data := Data.fields #[Value.str (Str.ofString "_law_next") 589, Value.str (Str.ofString "_law_next") 590, Value.str (Str.ofString "/claim/cut.py") 591, Value.int 301 0, Value.int 1 0, Value.int 0 0, Value.int 0 0, Value.int 3 0, Value.ref 301, Value.bool true, Value.int 181 0, Value.ref 302, Value.none, Value.ref 303, Value.ref 304, Value.ref 305, Value.int 593 0, Value.int 301 0, Value.str (Str.ofString "/claim/cut.py") 594] } : Obj)) ::
  (nat_lit 307, o307) ::
  (nat_lit 308, ({ cls := Value.type "tuple", data := Data.seq #[] } : Obj)) ::
  (nat_lit 311, ({ cls := Value.type "code", data := Data.fields #[Value.str (Str.ofString "_law_seen") 596, Value.str (Str.ofString "_law_seen") 597, Value.str (Str.ofString "/claim/cut.py") 598, Value.int 303 0, Value.int 1 0, Value.int 0 0, Value.int 0 0, Value.int 3 0, Value.ref 308, Value.bool true, Value.int 181 0, Value.ref 309, Value.none, Value.none, Value.none, Value.ref 310, Value.int 599 0, Value.int 303 0, Value.str (Str.ofString "/claim/cut.py") 600] } : Obj)) ::
  (nat_lit 312, o312) ::
  (nat_lit 313, ({ cls := Value.type "tuple", data := Data.seq #[] } : Obj)) ::
  (nat_lit 316, ({ cls := Value.type "code", data := Data.fields #[Value.str (Str.ofString "_law_word") 602, Value.str (Str.ofString "_law_word") 603, Value.str (Str.ofString "/claim/cut.py") 604, Value.int 307 0, Value.int 1 0, Value.int 0 0, Value.int 0 0, Value.int 3 0, Value.ref 313, Value.bool true, Value.int 181 0, Value.ref 314, Value.none, Value.none, Value.none, Value.ref 315, Value.int 605 0, Value.int 307 0, Value.str (Str.ofString "/claim/cut.py") 606] } : Obj)) ::
  (nat_lit 317, o317) ::
  (nat_lit 318, ({ cls := Value.type "tuple", data := Data.seq #[] } : Obj)) ::
  (nat_lit 321, ({ cls := Value.type "code", data := Data.fields #[Value.str (Str.ofString "_law_levels_row") 608, Value.str (Str.ofString "_law_levels_row") 609, Value.str (Str.ofString "/claim/cut.py") 610, Value.int 309 0, Value.int 3 0, Value.int 0 0, Value.int 0 0, Value.int 3 0, Value.ref 318, Value.bool true, Value.int 181 0, Value.ref 319, Value.none, Value.none, Value.none, Value.ref 320, Value.int 611 0, Value.int 309 0, Value.str (Str.ofString "/claim/cut.py") 612] } : Obj)) ::
  (nat_lit 322, o322) ::
  (nat_lit 323, ({ cls := Value.type "tuple", data := Data.seq #[] } : Obj)) ::
  (nat_lit 326, ({ cls := Value.type "code", data := Data.fields #[Value.str (Str.ofString "_law_plain_rows") 614, Value.str (Str.ofString "_law_plain_rows") 615, Value.str (Str.ofString "/claim/cut.py") 616, Value.int 320 0, Value.int 2 0, Value.int 0 0, Value.int 0 0, Value.int 3 0, Value.ref 323, Value.bool true, Value.int 181 0, Value.ref 324, Value.none, Value.none, Value.none, Value.ref 325, Value.int 617 0, Value.int 320 0, Value.str (Str.ofString "/claim/cut.py") 618] } : Obj)) ::
  (nat_lit 327, o327) ::
  (nat_lit 328, ({ cls := Value.type "tuple", data := Data.seq #[] } : Obj)) ::
  (nat_lit 331, ({ cls := Value.type "code", data := Data.fields #[Value.str (Str.ofString "_law_named_rows") 620, Value.str (Str.ofString "_law_named_rows") 621, Value.str (Str.ofString "/claim/cut.py") 622, Value.int 331 0, Value.int 3 0, Value.int 0 0, Value.int 0 0, Value.int 3 0, Value.ref 328, Value.bool true, Value.int 181 0, Value.ref 329, Value.none, Value.none, Value.none, Value.ref 330, Value.int 623 0, Value.int 331 0, Value.str (Str.ofString "/claim/cut.py") 624] } : Obj)) ::
  (nat_lit 332, o332) ::
  (nat_lit 333, ({ cls := Value.type "tuple", data := Data.seq #[] } : Obj)) ::
  (nat_lit 336, ({ cls := Value.type "code", data := Data.fields #[Value.str (Str.ofString "law") 626, Value.str (Str.ofString "law") 627, Value.str (Str.ofString "/claim/cut.py") 628, Value.int 341 0, Value.int 1 0, Value.int 0 0, Value.int 0 0, Value.int 3 0, Value.ref 333, Value.bool true, Value.int 181 0, Value.ref 334, Value.none, Value.none, Value.none, Value.ref 335, Value.int 629 0, Value.int 341 0, Value.str (Str.ofString "/claim/cut.py") 630] } : Obj)) ::
  (nat_lit 337, o337) :: []) _ _ _ _ _ _ _ _ _ _ _ _ _ _ _ _ _ _ _ _ _ _ _ _ _ _ _ _ _ _
  (by dsimp only [fnB, methAt, stAt, nthS, PySem.Challenge.pw_nz0483_01])
  (by dsimp only [fnB, methAt, stAt, nthS, PySem.Challenge.pw_nz0483_01])
  (by dsimp only [fnB, methAt, stAt, nthS, PySem.Challenge.pw_nz0483_01])
  (by dsimp only [fnB, methAt, stAt, nthS, PySem.Challenge.pw_nz0483_01])
  (by dsimp only [fnB, methAt, stAt, nthS, PySem.Challenge.pw_nz0483_01])
  (by dsimp only [fnB, methAt, stAt, nthS, PySem.Challenge.pw_nz0483_01])
  (by dsimp only [fnB, methAt, stAt, nthS, PySem.Challenge.pw_nz0483_01])
  (by dsimp only [fnB, methAt, stAt, nthS, PySem.Challenge.pw_nz0483_01])
  (by dsimp only [fnB, methAt, stAt, nthS, PySem.Challenge.pw_nz0483_01])
  (by dsimp only [fnB, methAt, stAt, nthS, PySem.Challenge.pw_nz0483_01])
  (by dsimp only [fnB, methAt, stAt, nthS, PySem.Challenge.pw_nz0483_01])
  (by dsimp only [fnB, methAt, stAt, nthS, PySem.Challenge.pw_nz0483_01])
  (by dsimp only [fnB, methAt, stAt, nthS, PySem.Challenge.pw_nz0483_01])
  (by dsimp only [fnB, methAt, stAt, nthS, PySem.Challenge.pw_nz0483_01])
  (by dsimp only [fnB, methAt, stAt, nthS, PySem.Challenge.pw_nz0483_01])
  (by dsimp only [fnB, methAt, stAt, nthS, PySem.Challenge.pw_nz0483_01])
  (by dsimp only [fnB, methAt, stAt, nthS, PySem.Challenge.pw_nz0483_01])
  (by dsimp only [fnB, methAt, stAt, nthS, PySem.Challenge.pw_nz0483_01])
  (by dsimp only [fnB, methAt, stAt, nthS, PySem.Challenge.pw_nz0483_01])
  (by dsimp only [fnB, methAt, stAt, nthS, PySem.Challenge.pw_nz0483_01])
  (by dsimp only [fnB, methAt, stAt, nthS, PySem.Challenge.pw_nz0483_01])
  (by dsimp only [fnB, methAt, stAt, nthS, PySem.Challenge.pw_nz0483_01])
  (by dsimp only [fnB, methAt, stAt, nthS, PySem.Challenge.pw_nz0483_01])
  (by dsimp only [fnB, methAt, stAt, nthS, PySem.Challenge.pw_nz0483_01])
  (by dsimp only [fnB, methAt, stAt, nthS, PySem.Challenge.pw_nz0483_01])
  (by dsimp only [fnB, methAt, stAt, nthS, PySem.Challenge.pw_nz0483_01])
  (by dsimp only [fnB, methAt, stAt, nthS, PySem.Challenge.pw_nz0483_01])
  (by dsimp only [fnB, methAt, stAt, nthS, PySem.Challenge.pw_nz0483_01])
  (by dsimp only [fnB, methAt, stAt, nthS, PySem.Challenge.pw_nz0483_01])
  (by dsimp only [fnB, methAt, stAt, nthS, PySem.Challenge.pw_nz0483_01])
noncomputable def viewV : Program := { PySem.Challenge.pw_nz0483_01 with main := { PySem.Challenge.pw_nz0483_01.main with body := [stAt 54] } }
noncomputable def hdAddrs : List Addr := nat_lit 2 :: nat_lit 3 :: nat_lit 15 :: nat_lit 17 :: nat_lit 18 :: nat_lit 20 :: nat_lit 22 :: nat_lit 24 :: nat_lit 25 :: nat_lit 27 :: nat_lit 28 :: nat_lit 29 :: nat_lit 32 :: nat_lit 33 :: nat_lit 34 :: nat_lit 36 :: nat_lit 37 :: nat_lit 39 :: nat_lit 40 :: nat_lit 41 :: nat_lit 44 :: nat_lit 45 :: nat_lit 46 :: nat_lit 48 :: nat_lit 49 :: nat_lit 51 :: nat_lit 53 :: nat_lit 55 :: nat_lit 56 :: nat_lit 58 :: nat_lit 60 :: nat_lit 62 :: nat_lit 63 :: nat_lit 65 :: nat_lit 67 :: nat_lit 69 :: nat_lit 70 :: nat_lit 72 :: nat_lit 74 :: nat_lit 76 :: nat_lit 77 :: nat_lit 79 :: nat_lit 81 :: nat_lit 83 :: nat_lit 84 :: nat_lit 86 :: nat_lit 88 :: nat_lit 90 :: nat_lit 91 :: nat_lit 93 :: nat_lit 95 :: nat_lit 97 :: nat_lit 98 :: nat_lit 100 :: nat_lit 102 :: nat_lit 104 :: nat_lit 105 :: nat_lit 107 :: nat_lit 109 :: nat_lit 111 :: nat_lit 112 :: nat_lit 114 :: nat_lit 116 :: nat_lit 118 :: nat_lit 119 :: nat_lit 121 :: nat_lit 123 :: nat_lit 125 :: nat_lit 126 :: nat_lit 128 :: nat_lit 130 :: nat_lit 133 :: nat_lit 135 :: nat_lit 136 :: nat_lit 138 :: nat_lit 139 :: nat_lit 141 :: nat_lit 143 :: nat_lit 145 :: nat_lit 146 :: nat_lit 148 :: nat_lit 149 :: nat_lit 150 :: nat_lit 153 :: nat_lit 154 :: nat_lit 155 :: nat_lit 157 :: nat_lit 158 :: nat_lit 160 :: nat_lit 162 :: nat_lit 164 :: nat_lit 165 :: nat_lit 167 :: nat_lit 169 :: nat_lit 170 :: nat_lit 172 :: nat_lit 173 :: nat_lit 175 :: nat_lit 176 :: nat_lit 177 :: nat_lit 178 :: nat_lit 181 :: nat_lit 182 :: nat_lit 183 :: nat_lit 185 :: nat_lit 186 :: nat_lit 188 :: nat_lit 189 :: nat_lit 190 :: nat_lit 193 :: nat_lit 194 :: nat_lit 195 :: nat_lit 198 :: nat_lit 199 :: nat_lit 200 :: nat_lit 203 :: nat_lit 204 :: nat_lit 205 :: nat_lit 207 :: nat_lit 208 :: nat_lit 210 :: nat_lit 211 :: nat_lit 219 :: nat_lit 220 :: nat_lit 222 :: nat_lit 223 :: nat_lit 225 :: nat_lit 226 :: nat_lit 227 :: nat_lit 229 :: nat_lit 230 :: nat_lit 232 :: nat_lit 234 :: nat_lit 235 :: nat_lit 236 :: nat_lit 237 :: nat_lit 238 :: nat_lit 241 :: nat_lit 243 :: nat_lit 244 :: nat_lit 246 :: nat_lit 247 :: nat_lit 248 :: nat_lit 250 :: nat_lit 251 :: nat_lit 253 :: nat_lit 254 :: nat_lit 255 :: nat_lit 257 :: nat_lit 258 :: nat_lit 260 :: nat_lit 261 :: nat_lit 262 :: nat_lit 265 :: nat_lit 266 :: nat_lit 267 :: nat_lit 270 :: nat_lit 271 :: nat_lit 272 :: nat_lit 274 :: nat_lit 275 :: nat_lit 277 :: nat_lit 278 :: nat_lit 279 :: nat_lit 280 :: nat_lit 282 :: nat_lit 283 :: nat_lit 285 :: nat_lit 286 :: nat_lit 287 :: nat_lit 289 :: nat_lit 290 :: nat_lit 292 :: nat_lit 293 :: nat_lit 294 :: nat_lit 296 :: nat_lit 297 :: nat_lit 299 :: nat_lit 300 :: nat_lit 301 :: nat_lit 303 :: nat_lit 304 :: nat_lit 306 :: nat_lit 307 :: nat_lit 308 :: nat_lit 311 :: nat_lit 312 :: nat_lit 313 :: nat_lit 316 :: nat_lit 317 :: nat_lit 318 :: nat_lit 321 :: nat_lit 322 :: nat_lit 323 :: nat_lit 326 :: nat_lit 327 :: nat_lit 328 :: nat_lit 331 :: nat_lit 332 :: nat_lit 333 :: nat_lit 336 :: nat_lit 337 :: []
noncomputable def hdLoose : List Str := [Str.ofString "_wall", Str.ofString "get_attr", Str.ofString "names_of", Str.ofString "dim_of", Str.ofString "dimnames_of", Str.ofString "nearest_whole", Str.ofString "exponent", Str.ofString "whole_text", Str.ofString "special_text", Str.ofString "scaled", Str.ofString "significant", Str.ofString "without_tail", Str.ofString "scientific_text", Str.ofString "fixed_text", Str.ofString "measures", Str.ofString "chosen_form", Str.ofString "formed", Str.ofString "common_texts", Str.ofString "number_text", Str.ofString "escaped_char", Str.ofString "encode_text", Str.ofString "logical_text", Str.ofString "integer_text", Str.ofString "format_item", Str.ofString "item_texts", Str.ofString "widest", Str.ofString "pad_left", Str.ofString "pad_right", Str.ofString "level_texts", Str.ofString "factor_labels", Str.ofString "Vector", Str.ofString "label_width", Str.ofString "numbered_rows", Str.ofString "named_rows", Str.ofString "text_rows", Str.ofString "levels_row", Str.ofString "is_ordered", Str.ofString "print_factor", Str.ofString "shown_labels", Str.ofString "_law_row", Str.ofString "_law_next", Str.ofString "_law_seen", Str.ofString "_law_word", Str.ofString "_law_levels_row", Str.ofString "_law_plain_rows", Str.ofString "_law_named_rows", Str.ofString "PAGE"]

set_option maxRecDepth 1000000 in
set_option maxHeartbeats 8000000 in
noncomputable def hd.view_39 : Program := (fun (V : Program) (_ : V = viewV) => V) _ (by
  dsimp only [viewV, stAt, nthS, PySem.Challenge.pw_nz0483_01])
noncomputable abbrev hdR : RowW := OpenRow.toRowW (OpenLaw.row PySem.Challenge.rw_nz0483_01)
theorem hd_addrs : ∀ P, hdAddrs = (hd.heap_39 P).map (·.1) := fun _ => by kernel_rfl
noncomputable abbrev hdH : Hook := kHook hd.heap_39 hdAddrs hd_addrs
set_option maxRecDepth 1000000 in
theorem hd_left : LeftO PySem.Challenge.pw_nz0483_01 hd.view_39 hdLoose (fun s => xlAt hd.view_39 [] s && recOk (RowW.records hdR) s) (Hook.obs hdH) (Hook.val hdH) 3536 := fun w => by
  unfold openEnds fencedOpening topFrom topStub staticsOk namesBound laidKept
  rw [PySem.W.Fast.te10274390034422433532, PySem.W.Fast.te1435165496053646825, PySem.W.Fast.te14289696077712309145, PySem.W.Fast.te14082659384304107361, PySem.W.Fast.te4187177175401517315, PySem.W.Fast.te5923862056798008813, PySem.W.Fast.te14364793385576792824]
  kernel_rfl
theorem hd_said : OpenLaw.wellSaid PySem.Challenge.rw_nz0483_01 = true := by kernel_rfl
theorem hd_names : namesOk hd.view_39 (looseW hd.view_39 hdLoose) (namesW hd.view_39 hdLoose) = true := by
  rw [PySem.W.Fast.te17448422675489707002, PySem.W.Fast.te821141287760084731]
  kernel_rfl
theorem hd_imports : importsNone hd.view_39 = true := by
  rw [PySem.W.Fast.te2458874890965802552]
  kernel_rfl
noncomputable abbrev prg : Program := PySem.Challenge.rw_nz0483_01.row.prog

theorem fill : PySem.Challenge.rw_nz0483_01 = PySem.Challenge.rw_nz0483_01 ∧ Mine.hd.heap_39 = Mine.hd.heap_39 := by
  k_fill
  exact ⟨rfl, rfl⟩

abbrev Led := List (Addr × Obj)

inductive Rem : Addr × Obj → Led → Led → Prop
  | head {p l} : Rem p (p :: l) l
  | tail {p q l r} : Rem p l r → Rem p (q :: l) (q :: r)
inductive Sel : Led → Led → Led → Prop
  | nil {l} : Sel [] l l
  | cons {p pre l m r} : Rem p l m → Sel pre m r → Sel (p :: pre) l r
theorem Rem.mem {p : Addr × Obj} {l r : Led} (h : Rem p l r) : ∀ q, q ∈ p :: r ↔ q ∈ l := by
  induction h with
  | head => intro q; exact Iff.rfl
  | tail _ ih =>
    intro q
    have := ih q
    simp only [List.mem_cons] at this ⊢
    rw [← this]
    constructor
    · rintro (h | h | h) <;> simp [h]
    · rintro (h | h | h) <;> simp [h]
theorem Sel.mem {pre l r : Led} (h : Sel pre l r) : ∀ q, q ∈ pre ++ r ↔ q ∈ l := by
  induction h with
  | nil => intro q; exact Iff.rfl
  | cons hr _ ih =>
    intro q
    rw [← hr.mem q]
    have := ih q
    simp only [List.cons_append, List.mem_cons] at this ⊢
    rw [this]

/-- two addresses are not one; a word that lia does not open -/
noncomputable def Dist (a b : Addr) : Prop := a ≠ b
theorem Dist.ne {a b : Addr} (h : Dist a b) : a ≠ b := h
theorem Dist.symm {a b : Addr} (h : Dist a b) : Dist b a := Ne.symm h
theorem Dist.of {a b : Nat} (h : a ≠ b) : Dist a b := h
noncomputable def OffD (d : Addr) : Led → Prop
  | [] => True
  | p :: r => Dist p.1 d ∧ OffD d r
noncomputable def FreshOver : Led → Led → Prop
  | [], _ => True
  | p :: r, full => OffD p.1 (r ++ full) ∧ FreshOver r full

theorem allLt_iff {d : Addr} : ∀ {l : Led}, AllLt d l ↔ ∀ p ∈ l, p.1 < d
  | [] => by simp [AllLt]
  | q :: r => by
    rw [show AllLt d (q :: r) = (@LT.lt Nat _ q.1 d ∧ AllLt d r) from rfl, allLt_iff (l := r)]
    simp
theorem allLt_sub {d : Addr} {l l' : Led} (h : AllLt d l) (hs : ∀ p ∈ l', p ∈ l) : AllLt d l' :=
  allLt_iff.mpr fun p hp => allLt_iff.mp h p (hs p hp)
theorem allLt_ne {d : Addr} {l : Led} (h : AllLt d l) : ∀ p ∈ l, p.1 ≠ d := fun p hp => Nat.ne_of_lt (allLt_iff.mp h p hp)
theorem off1_iff {d : Addr} : ∀ {l : Led}, OffD d l ↔ ∀ p ∈ l, p.1 ≠ d
  | [] => by simp [OffD]
  | q :: r => by
    rw [show OffD d (q :: r) = (Dist q.1 d ∧ OffD d r) from rfl, off1_iff (l := r)]
    simp [Dist]
theorem offD_of {d : Addr} : ∀ {l : Led}, LCg.Off1 d l → OffD d l
  | [], _ => trivial
  | _ :: _, h => ⟨h.1, offD_of h.2⟩
theorem off1_ne {d : Addr} {l : Led} (h : OffD d l) : ∀ p ∈ l, p.1 ≠ d := off1_iff.mp h
theorem off1_sub {d : Addr} {l l' : Led} (h : OffD d l) (hs : ∀ p ∈ l', p ∈ l) : OffD d l' := off1_iff.mpr fun p hp => off1_iff.mp h p (hs p hp)
theorem allLt_off {d : Addr} {l : Led} (h : AllLt d l) : OffD d l := off1_iff.mpr (allLt_ne h)
theorem lt_off {d : Addr} {l : Led} (h : ∀ p ∈ l, p.1 < d) : OffD d l := off1_iff.mpr fun p hp => Nat.ne_of_lt (h p hp)
noncomputable def Off3D (I C D : Addr) : Led → Prop
  | [] => True
  | p :: r => Dist p.1 I ∧ Dist p.1 C ∧ Dist p.1 D ∧ Off3D I C D r
theorem off3_of {I C D : Addr} : ∀ {l : Led}, LCg.Off3 I C D l → Off3D I C D l
  | [], _ => trivial
  | _ :: _, h => ⟨h.1.1, h.1.2.1, h.1.2.2, off3_of h.2⟩
theorem off3_I {I C D : Addr} : ∀ {l : Led}, Off3D I C D l → OffD I l
  | [], _ => trivial
  | _ :: _, h => ⟨h.1, off3_I h.2.2.2⟩
theorem off3_C {I C D : Addr} : ∀ {l : Led}, Off3D I C D l → OffD C l
  | [], _ => trivial
  | _ :: _, h => ⟨h.2.1, off3_C h.2.2.2⟩
theorem off3_D {I C D : Addr} : ∀ {l : Led}, Off3D I C D l → OffD D l
  | [], _ => trivial
  | _ :: _, h => ⟨h.2.2.1, off3_D h.2.2.2⟩
theorem freshOver_congr {l l' : Led} (hs : ∀ p, p ∈ l ↔ p ∈ l') : ∀ {new : Led}, FreshOver new l → FreshOver new l'
  | [], _ => trivial
  | p :: r, h => ⟨off1_sub h.1 (fun q hq => by
      rcases List.mem_append.mp hq with hq | hq
      · exact List.mem_append.mpr (.inl hq)
      · exact List.mem_append.mpr (.inr ((hs q).mpr hq))), freshOver_congr hs h.2⟩
theorem news_iff {h₀ h : Heap} {L : Addr} {l l' : Led} (N : News h₀ L h l) (hs : ∀ p ∈ l', p ∈ l) : News h₀ L h l' := fun p hp => N p (hs p hp)

/-- the contract of a call: pre is what it reads or changes of the ledger, mu the addresses it changes -/
noncomputable def Calls (w : World) (f : Addr) (args : List Value) (D U : Nat) (pre : Led) (mu : List Addr) (post : Value → Led → Led → Prop) : Prop :=
  ∀ (dp un : Nat) (gd : Option (List Code)) (cn : Str) (cs : Scope) (a : Addr) (ccd : Value) (cl : List (Str × Addr)) (outer : List Env) (A₀ : Around) (base h₀ : Heap) (L : Addr) (m : Str → Option Value) (s : Shared)
    (loose : List Str) (mean : ExcName → Option Value) (mg mb : Str → Option Value) (news : Led) (Q E : Value → Shared → Prop),
    Below A₀ base outer h₀ → Fr h₀ L s.heap m → (Mine.hd.heap_39 w.params).In h₀ → News h₀ L s.heap (pre ++ news) → Top Mine.hd.view_39 loose mean mg mb h₀ → cs.kind = .function →
    dp + D < recursionLimit → un + U < cLine → (∀ b ∈ mu, ∀ p ∈ news, p.1 ≠ b) →
    (∀ v new pre' h' tk', post v new pre' → FreshOver new (pre ++ news) → Fr h₀ L h' m → News h₀ L h' (new ++ (pre' ++ news)) → Q v { s with heap := h', toks := tk' }) →
    wpAny (model prg w) (ktrTop dp un gd cn cs L a ccd cl outer) (call (.ref f) args) Q E s

theorem Calls.use {w : World} {f : Addr} {args : List Value} {D U : Nat} {pre : Led} {mu : List Addr} {post : Value → Led → Led → Prop}
    {dp un : Nat} {gd : Option (List Code)} {cn : Str} {cs : Scope} {a : Addr} {ccd : Value} {cl : List (Str × Addr)} {outer : List Env} {A₀ : Around} {base h₀ : Heap} {L : Addr} {m : Str → Option Value} {s : Shared}
    {loose : List Str} {mean : ExcName → Option Value} {mg mb : Str → Option Value} {full rest : Led} {Q E : Value → Shared → Prop}
    (F : Fr h₀ L s.heap m) (B : Below A₀ base outer h₀) (X : (Mine.hd.heap_39 w.params).In h₀) (N : News h₀ L s.heap full) (T : Top Mine.hd.view_39 loose mean mg mb h₀) (hk : cs.kind = .function)
    (S : Sel pre full rest) (C : Calls w f args D U pre mu post)
    (hd : dp + D < recursionLimit) (hu : un + U < cLine) (hm : ∀ b ∈ mu, ∀ p ∈ rest, p.1 ≠ b)
    (h : ∀ v new pre' h' tk', post v new pre' → FreshOver new full → Fr h₀ L h' m → News h₀ L h' (new ++ (pre' ++ rest)) → Q v { s with heap := h', toks := tk' }) :
    wpAny (model prg w) (ktrTop dp un gd cn cs L a ccd cl outer) (call (.ref f) args) Q E s :=
  C dp un gd cn cs a ccd cl outer A₀ base h₀ L m s loose mean mg mb rest Q E B F X (news_iff N fun p hp => (S.mem p).mp hp) T hk hd hu hm
    fun v new pre' h' tk' hp hf => h v new pre' h' tk' hp (freshOver_congr S.mem hf)

noncomputable def Stop (P : Prop) : Prop := P
theorem Stop.mk {P : Prop} (h : Stop P) : P := h

noncomputable def TurnEnd {σ : Type} (h₀ : Heap) (L I : Addr) (oI : Obj) (x : Str) (W : σ → Led) (Keep : Led) (Mp : σ → Str → Option Value) (J : σ → Prop) (Q : Flow → Shared → Prop) (s₁ : Shared) : Flow → Shared → Prop
  | .ret v, s₂ => Q (.ret v) s₂
  | .brk, s₂ => Q .next s₂
  | _, s₂ => ∃ h' tk m' c' all, s₂ = { s₁ with heap := h', toks := tk } ∧ Fr h₀ L h' m' ∧ News h₀ L h' all ∧ (∀ p ∈ (I, oI) :: (W c' ++ Keep), p ∈ all) ∧ (∀ z, z ≠ x → m' z = Mp c' z) ∧ J c'
theorem TurnEnd.next {σ : Type} {h₀ : Heap} {L I : Addr} {oI : Obj} {x : Str} {W : σ → Led} {Keep : Led} {Mp : σ → Str → Option Value} {J : σ → Prop} {Q : Flow → Shared → Prop} {s₁ : Shared} {h' : Heap} {tk : Nat} {m' : Str → Option Value} {c' : σ} {all : Led}
    (hj : J c') (F : Fr h₀ L h' m') (N : News h₀ L h' all) (hs : ∀ p ∈ (I, oI) :: (W c' ++ Keep), p ∈ all) (hm : ∀ z, z ≠ x → m' z = Mp c' z) : TurnEnd h₀ L I oI x W Keep Mp J Q s₁ .next { s₁ with heap := h', toks := tk } :=
  ⟨h', tk, m', c', all, rfl, F, N, hs, hm, hj⟩
theorem allLt_map {d : Addr} : ∀ {l l' : Led}, l.map (·.1) = l'.map (·.1) → AllLt d l → AllLt d l' := by
  intro l l' e h
  rw [allLt_iff] at h ⊢
  intro p hp
  have : p.1 ∈ l.map (·.1) := by rw [e]; exact List.mem_map_of_mem hp
  obtain ⟨q, hq, hqe⟩ := List.mem_map.mp this
  rw [← hqe]; exact h q hq
section
variable {prog : Program} {w : World} {A : Around} {E : Value → Shared → Prop} {s : Shared} {env : Env} {h₀ : Heap} {x : Str} {body : List Stmt} {Q : Flow → Shared → Prop} {σ : Type}
theorem loop_W {I : Addr} {fp : List Addr} {n : Nat} {P : Nat → Value → Prop} {St : Nat → Heap → Prop} {m₀ : Str → Option Value} (W : σ → Led) (Keep : Led) (Mp : σ → Str → Option Value) (J : Nat → σ → Prop) (c₀ : σ)
    (Wk : Walks prog w A I fp [I] n P St) (hLf : env.locals ∉ fp) (hI : h₀.get? I = none) (hfp : ∀ b ∈ fp, b = I ∨ (∃ o, h₀.get? b = some o) ∨ ∃ o, (b, o) ∈ Keep) (hadr : ∀ c, (W c).map (·.1) = (W c₀).map (·.1)) (hlt : ∀ p ∈ W c₀ ++ Keep, p.1 < I)
    (hIo : ∀ i h, St i h → ∃ o, h.get? I = some o) (hst : St 0 s.heap) (F : Fr h₀ env.locals s.heap m₀) (N : News h₀ env.locals s.heap (W c₀ ++ Keep)) (hm : ∀ z, z ≠ x → m₀ z = Mp c₀ z) (hj : J 0 c₀)
    (turn : ∀ i v c oI h tk, i < n → P i v → J i c → AllLt I (W c ++ Keep) → Fr h₀ env.locals h (fun y => if y = x then some v else Mp c y) → News h₀ env.locals h ((I, oI) :: (W c ++ Keep)) →
      wpAny (model prog w) A (execs body env) (TurnEnd h₀ env.locals I oI x W Keep Mp (J (i + 1)) Q { s with heap := h, toks := tk }) E { s with heap := h, toks := tk })
    (done : ∀ c u h tk, J n c → Fr h₀ env.locals h (fun y => if y = x then u else Mp c y) → News h₀ env.locals h (W c ++ Keep) → Q .next { s with heap := h, toks := tk }) :
    LoopAtV prog w A h₀ env x body Q E (.ref I) s := by
  have hap : ∀ c, ∀ p ∈ W c ++ Keep, p.1 < I := fun c p hp => by
    rcases List.mem_append.mp hp with hp | hp
    · have : p.1 ∈ (W c₀).map (·.1) := by rw [← hadr c]; exact List.mem_map_of_mem hp
      obtain ⟨q, hq, hqe⟩ := List.mem_map.mp this
      rw [← hqe]; exact hlt q (List.mem_append_left _ hq)
    · exact hlt p (List.mem_append_right _ hp)
  refine ⟨I, fp, [I], n, P, St, m₀, W c₀ ++ Keep, fun i m nw => ∃ c, nw = W c ++ Keep ∧ (∀ z, z ≠ x → m z = Mp c z) ∧ J i c, rfl, Wk, hLf, ?_, ?_, hst, F, N, ⟨c₀, rfl, hm, hj⟩, ?_, ?_⟩
  · intro b hb; rw [List.mem_singleton.mp hb]; exact hI
  · intro p hp hb
    have h1 := hap c₀ p hp
    rw [List.mem_singleton.mp hb] at h1
    exact Nat.lt_irrefl _ h1
  · rintro i v m₁ nw s₁ own ⟨h, tk, rfl⟩ hi hP ⟨c, rfl, hm₁, hJ⟩ _ hown hget hall hst₁ F₁ N₁
    have hIf : I ∈ fp := Wk.sub I (List.mem_singleton.mpr rfl)
    have em : (fun y => if y = x then some v else m₁ y) = fun y => if y = x then some v else Mp c y := by
      funext y
      by_cases hy : y = x
      · rw [if_pos hy, if_pos hy]
      · rw [if_neg hy, if_neg hy]; exact hm₁ y hy
    rw [em] at F₁
    have fresh : ∀ oI, h.get? I = some oI → wpAny (model prog w) A (execs body env) (LoopStepV h₀ env.locals [I] own (fun m nw => ∃ c, nw = W c ++ Keep ∧ (∀ z, z ≠ x → m z = Mp c z) ∧ J (i + 1) c) { s with heap := h, toks := tk } (fun v s' => Q (.ret v) s') fun s' => Q .next s') E { s with heap := h, toks := tk } := by
      intro oI hoI
      have hIo : (I, oI) ∈ own := hall I hIf hI oI hoI
      have N₂ : News h₀ env.locals h ((I, oI) :: (W c ++ Keep)) := fun p hp => by
        rcases List.mem_cons.mp hp with rfl | hp
        · exact N₁ _ (List.mem_append_left _ hIo)
        · exact N₁ _ (List.mem_append_right _ hp)
      refine wpAny_mono (turn i v c oI h tk hi hP hJ (allLt_iff.mpr (hap c)) F₁ N₂) (fun f s₂ p => ?_) fun _ _ e => e
      have fin : (∃ h' tk' m' c' all, s₂ = { s with heap := h', toks := tk' } ∧ Fr h₀ env.locals h' m' ∧ News h₀ env.locals h' all ∧ (∀ p ∈ (I, oI) :: (W c' ++ Keep), p ∈ all) ∧ (∀ z, z ≠ x → m' z = Mp c' z) ∧ J (i + 1) c') →
          LoopStepU h₀ env.locals [I] own (fun m nw => ∃ c, nw = W c ++ Keep ∧ (∀ z, z ≠ x → m z = Mp c z) ∧ J (i + 1) c) { s with heap := h, toks := tk } .next s₂ := by
        rintro ⟨h', tk', m', c', all, e, F', N', hs, hm', hj'⟩
        refine ⟨rfl, h', tk', m', W c' ++ Keep, e, F', fun p hp => ?_, fun p hp hb => ?_, c', rfl, hm', hj'⟩
        · rcases List.mem_append.mp hp with hp | hp
          · have hg : h.get? p.1 = some p.2 := hget p hp
            rcases hfp p.1 (hown p hp) with e | ⟨o, e⟩ | ⟨o, e⟩
            · rw [e, hoI] at hg
              have : p = (I, oI) := Prod.ext e (Option.some.inj hg).symm
              rw [this]; exact N' _ (hs _ (List.mem_cons_self))
            · have := (N₁ p (List.mem_append_left _ hp)).2.2
              rw [e] at this; cases this
            · have hg' := (N₁ _ (List.mem_append_right _ (List.mem_append_right _ e))).1
              rw [hg] at hg'
              have : p = (p.1, o) := Prod.ext rfl (Option.some.inj hg')
              rw [this]; exact N' _ (hs _ (List.mem_cons_of_mem _ (List.mem_append_right _ e)))
          · exact N' p (hs p (List.mem_cons_of_mem _ hp))
        · have h1 := hap c' p hp
          rw [List.mem_singleton.mp hb] at h1
          exact Nat.lt_irrefl _ h1
      cases f with
      | ret v => exact .ret p
      | brk => exact .brk p
      | next => exact .next (fin p)
      | cont => exact .cont (fin p)
    obtain ⟨oI, hoI⟩ := hIo _ _ hst₁
    exact fresh oI hoI
  · rintro h' tk m' nw F' N' _ ⟨c, rfl, hm', hJ⟩
    refine done c (m' x) h' tk hJ ?_ N'
    have em : (fun y => if y = x then m' x else Mp c y) = m' := by
      funext y
      by_cases hy : y = x
      · rw [if_pos hy, hy]
      · rw [if_neg hy]; exact (hm' y hy).symm
    rw [em]; exact F'
theorem iter_list {l : Addr} {vs : List Value} {nn : Nat} {m₀ : Str → Option Value} {full : Led} (W : σ → Led) (Keep : Led) (Mp : σ → Str → Option Value) (J : Nat → σ → Prop) (c₀ : σ)
    (hh : A.handled = none) (hl : (l, listOf vs.toArray nn) ∈ Keep) (F : Fr h₀ env.locals s.heap m₀) (N : News h₀ env.locals s.heap full) (hfull : ∀ p ∈ W c₀ ++ Keep, p ∈ full)
    (hadr : ∀ c, (W c).map (·.1) = (W c₀).map (·.1)) (hm : ∀ z, z ≠ x → m₀ z = Mp c₀ z) (hj : J 0 c₀)
    (turn : ∀ i v c I oI h tk, i < vs.length → vs[i]? = some v → J i c → AllLt I (W c ++ Keep) → Fr h₀ env.locals h (fun y => if y = x then some v else Mp c y) → News h₀ env.locals h ((I, oI) :: (W c ++ Keep)) →
      wpAny (model prog w) A (execs body env) (TurnEnd h₀ env.locals I oI x W Keep Mp (J (i + 1)) Q { s with heap := h, toks := tk }) E { s with heap := h, toks := tk })
    (done : ∀ c u h tk, J vs.length c → Fr h₀ env.locals h (fun y => if y = x then u else Mp c y) → News h₀ env.locals h (W c ++ Keep) → Q .next { s with heap := h, toks := tk }) :
    wpAny (model prog w) A (pyIter (.ref l)) (fun it s₂ => LoopAtV prog w A h₀ env x body Q E it s₂) E s := by
  have N' := news_iff N hfull
  have hol : s.heap.get? l = some (listOf vs.toArray nn) := (N' _ (List.mem_append_right _ hl)).1
  have hls : s.heap.IsList l vs.toArray := ⟨_, hol, rfl, nn, rfl⟩
  have hne : l ≠ s.heap.objs.size := Nat.ne_of_lt (Heap.lt_size hol)
  refine wpAny_pyIter_list hls ?_
  have Wk := Walks.list (prog := prog) (w := w) hh s.heap.objs.size l hne vs.toArray
  have hlen : vs.toArray.size = vs.length := by simp
  rw [hlen] at Wk
  refine loop_W W Keep Mp J c₀ Wk ?_ (next_is_new F) ?_ hadr (fun p hp => Heap.lt_size (N' p hp).1) (fun i h st => by obtain ⟨o, e, _⟩ := st.1; exact ⟨o, e⟩)
    ⟨⟨_, Heap.get?_push_size _ rfl, rfl, rfl⟩, hls.at fun o e => Heap.get?_push_of_some _ e⟩ (F.push _) (fun p hp => ⟨Heap.get?_push_of_some _ (N' p hp).1, (N' p hp).2⟩) hm hj ?_ ?_
  · intro hmem
    rcases List.mem_cons.mp hmem with e | hmem
    · exact absurd F.ns.lt (e ▸ Nat.lt_irrefl _)
    · exact (N' _ (List.mem_append_right _ hl)).2.1 ((List.mem_singleton.mp hmem).symm)
  · intro b hb
    rcases List.mem_cons.mp hb with e | hb
    · exact .inl e
    · rw [List.mem_singleton.mp hb]; exact .inr (.inr ⟨_, hl⟩)
  · intro i v c oI h tk hi hP hJ hlt F₁ N₁
    exact turn i v c _ oI h tk hi (by simpa using hP) hJ hlt F₁ N₁
  · exact fun c u h tk => done c u h tk
theorem iter_base {l : Addr} {vs : List Value} {m₀ : Str → Option Value} {full : Led} (W : σ → Led) (Keep : Led) (Mp : σ → Str → Option Value) (J : Nat → σ → Prop) (c₀ : σ)
    (hh : A.handled = none) (hl : h₀.IsList l vs.toArray) (F : Fr h₀ env.locals s.heap m₀) (N : News h₀ env.locals s.heap full) (hfull : ∀ p ∈ W c₀ ++ Keep, p ∈ full)
    (hadr : ∀ c, (W c).map (·.1) = (W c₀).map (·.1)) (hm : ∀ z, z ≠ x → m₀ z = Mp c₀ z) (hj : J 0 c₀)
    (turn : ∀ i v c I oI h tk, i < vs.length → vs[i]? = some v → J i c → AllLt I (W c ++ Keep) → Fr h₀ env.locals h (fun y => if y = x then some v else Mp c y) → News h₀ env.locals h ((I, oI) :: (W c ++ Keep)) →
      wpAny (model prog w) A (execs body env) (TurnEnd h₀ env.locals I oI x W Keep Mp (J (i + 1)) Q { s with heap := h, toks := tk }) E { s with heap := h, toks := tk })
    (done : ∀ c u h tk, J vs.length c → Fr h₀ env.locals h (fun y => if y = x then u else Mp c y) → News h₀ env.locals h (W c ++ Keep) → Q .next { s with heap := h, toks := tk }) :
    wpAny (model prog w) A (pyIter (.ref l)) (fun it s₂ => LoopAtV prog w A h₀ env x body Q E it s₂) E s := by
  have N' := news_iff N hfull
  have hls : s.heap.IsList l vs.toArray := hl.at fun o e => F.keep l o e
  obtain ⟨ol, hol, _⟩ := id hl
  have hlt : l < h₀.objs.size := Heap.lt_size hol
  have hne : l ≠ s.heap.objs.size := Nat.ne_of_lt (Nat.lt_trans (Nat.lt_of_lt_of_le hlt F.above) F.ns.lt)
  refine wpAny_pyIter_list hls ?_
  have Wk := Walks.list (prog := prog) (w := w) hh s.heap.objs.size l hne vs.toArray
  have hlen : vs.toArray.size = vs.length := by simp
  rw [hlen] at Wk
  refine loop_W W Keep Mp J c₀ Wk ?_ (next_is_new F) ?_ hadr (fun p hp => Heap.lt_size (N' p hp).1) (fun i h st => by obtain ⟨o, e, _⟩ := st.1; exact ⟨o, e⟩)
    ⟨⟨_, Heap.get?_push_size _ rfl, rfl, rfl⟩, hls.at fun o e => Heap.get?_push_of_some _ e⟩ (F.push _) (fun p hp => ⟨Heap.get?_push_of_some _ (N' p hp).1, (N' p hp).2⟩) hm hj ?_ ?_
  · intro hmem
    rcases List.mem_cons.mp hmem with e | hmem
    · exact absurd F.ns.lt (e ▸ Nat.lt_irrefl _)
    · exact absurd (Nat.lt_of_lt_of_le hlt F.above) ((List.mem_singleton.mp hmem) ▸ Nat.lt_irrefl _)
  · intro b hb
    rcases List.mem_cons.mp hb with e | hb
    · exact .inl e
    · rw [List.mem_singleton.mp hb]; exact .inr (.inl ⟨_, hol⟩)
  · intro i v c oI h tk hi hP hJ hlt F₁ N₁
    exact turn i v c _ oI h tk hi (by simpa using hP) hJ hlt F₁ N₁
  · exact fun c u h tk => done c u h tk
theorem iter_range {r : Addr} {a₀ b₀ : Int} {t₀ u₀ v₀ : Tok} {n : Nat} {m₀ : Str → Option Value} {full : Led} (W : σ → Led) (Keep : Led) (Mp : σ → Str → Option Value) (J : Nat → σ → Prop) (c₀ : σ)
    (hh : A.handled = none) (hr : IsRange s.heap r a₀ b₀ 1 t₀ u₀ v₀) (hsmall : Builtin.Range.small a₀ b₀ 1 = true) (hn : Builtin.Range.rangeSize a₀ b₀ 1 = (n : Int)) (F : Fr h₀ env.locals s.heap m₀) (N : News h₀ env.locals s.heap full) (hfull : ∀ p ∈ W c₀ ++ Keep, p ∈ full)
    (hadr : ∀ c, (W c).map (·.1) = (W c₀).map (·.1)) (hm : ∀ z, z ≠ x → m₀ z = Mp c₀ z) (hj : J 0 c₀)
    (turn : ∀ i t c I oI h tk, i < n → J i c → AllLt I (W c ++ Keep) → Fr h₀ env.locals h (fun y => if y = x then some (.int (a₀ + (i : Int)) t) else Mp c y) → News h₀ env.locals h ((I, oI) :: (W c ++ Keep)) →
      wpAny (model prog w) A (execs body env) (TurnEnd h₀ env.locals I oI x W Keep Mp (J (i + 1)) Q { s with heap := h, toks := tk }) E { s with heap := h, toks := tk })
    (done : ∀ c u h tk, J n c → Fr h₀ env.locals h (fun y => if y = x then u else Mp c y) → News h₀ env.locals h (W c ++ Keep) → Q .next { s with heap := h, toks := tk }) :
    wpAny (model prog w) A (pyIter (.ref r)) (fun it s₂ => LoopAtV prog w A h₀ env x body Q E it s₂) E s := by
  have N' := news_iff N hfull
  refine wpAny_pyIter_range hr hsmall ?_
  refine loop_W W Keep Mp J c₀ (LCg.range_walks hh a₀ n) ?_ (next_is_new F) ?_ hadr (fun p hp => Heap.lt_size (N' p hp).1) (fun i h st => ⟨_, st⟩)
    (by show IsRangeIter _ _ _ _ _; rw [hn]; simpa using Heap.get?_push_size _ rfl) (F.push _) (fun p hp => ⟨Heap.get?_push_of_some _ (N' p hp).1, (N' p hp).2⟩) hm hj ?_ ?_
  · intro hmem
    exact absurd F.ns.lt ((List.mem_singleton.mp hmem) ▸ Nat.lt_irrefl _)
  · intro b hb
    exact .inl (List.mem_singleton.mp hb)
  · rintro i v c oI h tk hi ⟨t, rfl⟩ hJ hlt F₁ N₁
    exact turn i t c _ oI h tk hi hJ hlt F₁ N₁
  · exact fun c u h tk => done c u h tk
end
theorem lt_ne {d : Addr} {l : Led} (h : ∀ p ∈ l, p.1 < d) : ∀ p ∈ l, p.1 ≠ d := fun p hp => Nat.ne_of_lt (h p hp)
/-- the map of a frame inside a loop: the loop's letters, what it stores besides (forgotten), the rest as it was -/
abbrev lmap (m₀ : Str → Option Value) (stored : List Str) (ps : List (Str × Value)) (u : Str → Option Value) : Str → Option Value := kstB (fun z => if stored.contains z then u z else m₀ z) ps
noncomputable def TEnd {σ : Type} (h₀ : Heap) (L I : Addr) (oI : Obj) (x : Str) (W : σ → Led) (Keep : Led) (m₀ : Str → Option Value) (stored : List Str) (ps : σ → List (Str × Value)) (J : σ → Prop) (Q : Flow → Shared → Prop) (s₁ : Shared) (f : Flow) (s₂ : Shared) : Prop :=
  TurnEnd h₀ L I oI x (fun c : σ × (Str → Option Value) => W c.1) Keep (fun c => lmap m₀ stored (ps c.1) c.2) (fun c => J c.1) Q s₁ f s₂
theorem TEnd.next {σ : Type} {h₀ : Heap} {L I : Addr} {oI : Obj} {x : Str} {W : σ → Led} {Keep : Led} {m₀ : Str → Option Value} {stored : List Str} {ps : σ → List (Str × Value)} {J : σ → Prop} {Q : Flow → Shared → Prop} {s₁ : Shared} {h' : Heap} {tk : Nat} {m' : Str → Option Value} {c' : σ} {all : Led}
    (F : Fr h₀ L h' m') (N : News h₀ L h' all) (hs : ∀ p ∈ (I, oI) :: (W c' ++ Keep), p ∈ all) (h1 : ∀ p ∈ ps c', m' p.1 = some p.2) (h2 : ∀ z, z ≠ x → (∀ p ∈ ps c', z ≠ p.1) → stored.contains z = false → m' z = m₀ z) (hj : J c') :
    TEnd h₀ L I oI x W Keep m₀ stored ps J Q s₁ .next { s₁ with heap := h', toks := tk } :=
  TurnEnd.next (c' := (c', m')) hj F N hs fun z hz => (kst_off h1 h2 hz).symm
section
variable {prog : Program} {w : World} {A : Around} {E : Value → Shared → Prop} {s : Shared} {env : Env} {h₀ : Heap} {x : Str} {body : List Stmt} {Q : Flow → Shared → Prop} {σ : Type}
theorem for_list {l : Addr} {vs : List Value} {nn : Nat} {m₀ : Str → Option Value} {full : Led} (W : σ → Led) (Keep : Led) (stored : List Str) (ps : σ → List (Str × Value)) (J : Nat → σ → Prop) (c₀ : σ)
    (F : Fr h₀ env.locals s.heap m₀) (N : News h₀ env.locals s.heap full) (hl : (l, listOf vs.toArray nn) ∈ Keep) (hfull : ∀ p ∈ W c₀ ++ Keep, p ∈ full)
    (hadr : ∀ c, (W c).map (·.1) = (W c₀).map (·.1)) (hm : ∀ p ∈ ps c₀, m₀ p.1 = some p.2) (hh : A.handled = none) (hj : J 0 c₀)
    (turn : ∀ i v c u I oI h tk, i < vs.length → vs[i]? = some v → J i c → AllLt I (W c ++ Keep) → Fr h₀ env.locals h (fun y => if y = x then some v else lmap m₀ stored (ps c) u y) → News h₀ env.locals h ((I, oI) :: (W c ++ Keep)) →
      wpAny (model prog w) A (execs body env) (TEnd h₀ env.locals I oI x W Keep m₀ stored ps (J (i + 1)) Q { s with heap := h, toks := tk }) E { s with heap := h, toks := tk })
    (done : ∀ c u v h tk, J vs.length c → Fr h₀ env.locals h (fun y => if y = x then v else lmap m₀ stored (ps c) u y) → News h₀ env.locals h (W c ++ Keep) → Q .next { s with heap := h, toks := tk }) :
    wpAny (model prog w) A (pyIter (.ref l)) (fun it s₂ => LoopAtV prog w A h₀ env x body Q E it s₂) E s :=
  iter_list (fun c : σ × (Str → Option Value) => W c.1) Keep (fun c => lmap m₀ stored (ps c.1) c.2) (fun i c => J i c.1) (c₀, m₀) hh hl F N hfull (fun c => hadr c.1)
    (fun z hz => (kst_off (x := x) hm (fun _ _ _ _ => rfl) hz).symm) hj (fun i v c I oI h tk hi hv hJ hlt F₁ N₁ => turn i v c.1 c.2 I oI h tk hi hv hJ hlt F₁ N₁) (fun c v h tk hJ F₁ N₁ => done c.1 c.2 v h tk hJ F₁ N₁)
theorem for_base {l : Addr} {vs : List Value} {m₀ : Str → Option Value} {full : Led} (W : σ → Led) (Keep : Led) (stored : List Str) (ps : σ → List (Str × Value)) (J : Nat → σ → Prop) (c₀ : σ)
    (F : Fr h₀ env.locals s.heap m₀) (N : News h₀ env.locals s.heap full) (hl : h₀.IsList l vs.toArray) (hfull : ∀ p ∈ W c₀ ++ Keep, p ∈ full)
    (hadr : ∀ c, (W c).map (·.1) = (W c₀).map (·.1)) (hm : ∀ p ∈ ps c₀, m₀ p.1 = some p.2) (hh : A.handled = none) (hj : J 0 c₀)
    (turn : ∀ i v c u I oI h tk, i < vs.length → vs[i]? = some v → J i c → AllLt I (W c ++ Keep) → Fr h₀ env.locals h (fun y => if y = x then some v else lmap m₀ stored (ps c) u y) → News h₀ env.locals h ((I, oI) :: (W c ++ Keep)) →
      wpAny (model prog w) A (execs body env) (TEnd h₀ env.locals I oI x W Keep m₀ stored ps (J (i + 1)) Q { s with heap := h, toks := tk }) E { s with heap := h, toks := tk })
    (done : ∀ c u v h tk, J vs.length c → Fr h₀ env.locals h (fun y => if y = x then v else lmap m₀ stored (ps c) u y) → News h₀ env.locals h (W c ++ Keep) → Q .next { s with heap := h, toks := tk }) :
    wpAny (model prog w) A (pyIter (.ref l)) (fun it s₂ => LoopAtV prog w A h₀ env x body Q E it s₂) E s :=
  iter_base (fun c : σ × (Str → Option Value) => W c.1) Keep (fun c => lmap m₀ stored (ps c.1) c.2) (fun i c => J i c.1) (c₀, m₀) hh hl F N hfull (fun c => hadr c.1)
    (fun z hz => (kst_off (x := x) hm (fun _ _ _ _ => rfl) hz).symm) hj (fun i v c I oI h tk hi hv hJ hlt F₁ N₁ => turn i v c.1 c.2 I oI h tk hi hv hJ hlt F₁ N₁) (fun c v h tk hJ F₁ N₁ => done c.1 c.2 v h tk hJ F₁ N₁)
theorem for_range {r : Addr} {a₀ b₀ : Int} {t₀ u₀ v₀ : Tok} {n : Nat} {m₀ : Str → Option Value} {full : Led} (W : σ → Led) (Keep : Led) (stored : List Str) (ps : σ → List (Str × Value)) (J : Nat → σ → Prop) (c₀ : σ)
    (F : Fr h₀ env.locals s.heap m₀) (N : News h₀ env.locals s.heap full) (hr : IsRange s.heap r a₀ b₀ 1 t₀ u₀ v₀) (hsmall : Builtin.Range.small a₀ b₀ 1 = true) (hn : Builtin.Range.rangeSize a₀ b₀ 1 = (n : Int)) (hfull : ∀ p ∈ W c₀ ++ Keep, p ∈ full)
    (hadr : ∀ c, (W c).map (·.1) = (W c₀).map (·.1)) (hm : ∀ p ∈ ps c₀, m₀ p.1 = some p.2) (hh : A.handled = none) (hj : J 0 c₀)
    (turn : ∀ i t c u I oI h tk, i < n → J i c → AllLt I (W c ++ Keep) → Fr h₀ env.locals h (fun y => if y = x then some (.int (a₀ + (i : Int)) t) else lmap m₀ stored (ps c) u y) → News h₀ env.locals h ((I, oI) :: (W c ++ Keep)) →
      wpAny (model prog w) A (execs body env) (TEnd h₀ env.locals I oI x W Keep m₀ stored ps (J (i + 1)) Q { s with heap := h, toks := tk }) E { s with heap := h, toks := tk })
    (done : ∀ c u v h tk, J n c → Fr h₀ env.locals h (fun y => if y = x then v else lmap m₀ stored (ps c) u y) → News h₀ env.locals h (W c ++ Keep) → Q .next { s with heap := h, toks := tk }) :
    wpAny (model prog w) A (pyIter (.ref r)) (fun it s₂ => LoopAtV prog w A h₀ env x body Q E it s₂) E s :=
  iter_range (fun c : σ × (Str → Option Value) => W c.1) Keep (fun c => lmap m₀ stored (ps c.1) c.2) (fun i c => J i c.1) (c₀, m₀) hh hr hsmall hn F N hfull (fun c => hadr c.1)
    (fun z hz => (kst_off (x := x) hm (fun _ _ _ _ => rfl) hz).symm) hj (fun i t c I oI h tk hi hJ hlt F₁ N₁ => turn i t c.1 c.2 I oI h tk hi hJ hlt F₁ N₁) (fun c v h tk hJ F₁ N₁ => done c.1 c.2 v h tk hJ F₁ N₁)
end
theorem comp_inv {prog : Program} {w : World} {A : Around} {h₀ : Heap} {L : Addr} {m : Str → Option Value} {env : Env} {elt : Expr} {x : Str} {scope : Scope} {cl : List (Str × Addr)} {s : Shared} {S : Led → Prop} {P : Nat → Value → Prop} {Fin : List Value → Led → Prop} {n : Nat} {σ : Type}
    (W : σ → Led) (J : Nat → List Value → σ → Prop) (c0 : σ) (h0 : J 0 [] c0)
    (turn : ∀ i ys c v I oI C oC D m₂ h tk (E' : Value → Shared → Prop), i < n → J i ys c → P i v → LCg.NsObj oC m₂ → m₂ x = some v → Fr h₀ L h m → News h₀ L h ((I, oI) :: (C, oC) :: (D, LCg.lst ys) :: W c) → LCg.Off3 I C D (W c) → ((@Ne Nat I C) ∧ (@Ne Nat I D) ∧ (@Ne Nat C D)) →
      wpAny (model prog w) A (eval elt (compEnvC scope cl C env)) (LCg.CompEnd h₀ L m { s with heap := h, toks := tk } I oI C oC D (LCg.lst ys) S (fun y nw' => ∃ c', nw' = W c' ∧ J (i + 1) (ys ++ [y]) c')) E' { s with heap := h, toks := tk })
    (fin : ∀ ys c, J n ys c → Fin ys (W c)) : LCg.CompRest prog w A h₀ L m env elt x scope cl s S P Fin n 0 [] (W c0) := by
  have key : ∀ (j i : Nat) (ys : List Value) (c : σ), i + j = n → J i ys c → LCg.CompRest prog w A h₀ L m env elt x scope cl s S P Fin j i ys (W c) := by
    intro j
    induction j with
    | zero =>
      intro i ys c hi hy
      have e : i = n := by lia
      subst e
      exact LCg.CompRest.zero (fin ys c hy)
    | succ j ih =>
      intro i ys c hi hy
      refine LCg.CompRest.succ ?_
      intro v I oI C oC D m₂ h tk E' hv hC hx F N off ne
      refine wpAny_mono (turn i ys c v I oI C oC D m₂ h tk E' (by lia) hy hv hC hx F N off ne) (fun y s₂ hq => ?_) fun _ _ e => e
      obtain ⟨h', tk', nw', e, F', N', off', hS, c', rfl, hn⟩ := hq
      exact ⟨h', tk', W c', e, F', N', off', hS, ih (i + 1) _ _ (by lia) hn⟩
  exact key n 0 [] c0 (by lia) h0
theorem compEnd_eq {σ : Type} {W : σ → Led} {J : Value → σ → Prop} {h₀ : Heap} {L I C D : Addr} {m : Str → Option Value} {s₁ : Shared} {oI oC oD : Obj} {S : Led → Prop} {y : Value} {h' : Heap} {tk : Nat} {all : Led} {c : σ}
    (hj : J y c) (F : Fr h₀ L h' m) (N : News h₀ L h' all) (sub : ∀ p ∈ (I, oI) :: (C, oC) :: (D, oD) :: W c, p ∈ all) (off : LCg.Off3 I C D (W c)) (hS : S (W c)) :
    LCg.CompEnd h₀ L m s₁ I oI C oC D oD S (fun y nw' => ∃ c', nw' = W c' ∧ J y c') y { s₁ with heap := h', toks := tk } := LCg.CompEnd.intro F N (W c) sub off hS ⟨c, rfl, hj⟩
theorem join_led {prog : Program} {w : World} {A : Around} {E : Value → Shared → Prop} {s : Shared} {h₀ : Heap} {L D : Addr} {news : Led} {x : Str} {t : Tok} {vs : List Value} {n : Nat} {ys : List Str} {Q : Value → Shared → Prop} (N : News h₀ L s.heap news) (hm : (D, listOf vs.toArray n) ∈ news) (hi : StrsAre vs ys)
    (hsep : x.length ≤ 16) (hw : (ys.map (·.length)).sum + ys.length ≤ 1048576)
    (h : ∀ t' k, Q (.str (Txt.join x ys) t') { s with toks := k }) : wpAny (model prog w) A (call (.builtin "str.join") [.str x t, .ref D]) Q E s :=
  join_listW (News.isList N hm) hi hsep hw h
theorem kl_last_snoc (y : Value) : ∀ p : List Value, kl_last (p ++ [y]) = some (p, y)
  | [] => rfl
  | x :: p => by
    show (match kl_last (p ++ [y]) with | some (p, z) => some (x :: p, z) | none => some ([], x)) = _
    rw [kl_last_snoc y p]
theorem intsAre_snoc {k : Int} : ∀ {vs : List Value} {ns : List Int}, IntsAre vs (ns ++ [k]) → ∃ us t, vs = us ++ [.int k t] ∧ IntsAre us ns
  | _, [], h => by
    cases h with
    | cons n t h => cases h; exact ⟨[], t, rfl, .nil⟩
  | _, n :: ns, h => by
    cases h with
    | cons n t h =>
      obtain ⟨us, t', e, h'⟩ := intsAre_snoc h
      exact ⟨.int n t :: us, t', by rw [e]; rfl, .cons n t h'⟩
theorem intsAre_nil {vs : List Value} (h : IntsAre vs []) : vs = [] := by cases h; rfl
theorem strsAre_snoc {y : Str} {t : Tok} {vs : List Value} {ys : List Str} (h : StrsAre vs ys) : StrsAre (vs ++ [.str y t]) (ys ++ [y]) := h.append' (.cons y t .nil)
theorem range_facts {k : Int} (h0 : 0 ≤ k) (h1 : k < 1000) : Builtin.Range.small 0 k 1 = true ∧ Builtin.Range.rangeSize 0 k 1 = ((k.toNat : Nat) : Int) :=
  ⟨small_one (by decide) (by decide) (by lia) (by lia), by rw [rangeSize_nat]; simp⟩
theorem size_ok {n : Nat} (h : n < 1000) : n ≤ sizeLine := by rw [sizeLine_eq]; lia
noncomputable def CompSrcS (prog : Program) (w : World) (A : Around) (h₀ : Heap) (L : Addr) (m : Str → Option Value) (env : Env) (elt : Expr) (x : Str) (scope : Scope) (cl : List (Str × Addr)) (Fin : Shared → List Value → Led → Prop) (xv : Value) (s₁ : Shared) : Prop :=
  ∃ y t news, xv = .str y t ∧ A.handled = none ∧ Fr h₀ L s₁.heap m ∧ News h₀ L s₁.heap news ∧ y.cps.all (· < 128) = true ∧ y.cps.size ≤ sizeLine ∧
    ∀ s₂ : Shared, (∃ h, s₂ = { s₁ with heap := h }) → LCg.CompRest prog w A h₀ L m env elt x scope cl s₂ (fun _ => True) (SignAt y) (Fin s₂) y.cps.size 0 [] news
theorem CompSrcS.intro {prog : Program} {w : World} {A : Around} {h₀ : Heap} {L : Addr} {m : Str → Option Value} {env : Env} {elt : Expr} {x : Str} {scope : Scope} {cl : List (Str × Addr)} {Fin : Shared → List Value → Led → Prop} {y : Str} {t : Tok} {news : Led} {s₁ : Shared}
    (hh : A.handled = none) (F : Fr h₀ L s₁.heap m) (N : News h₀ L s₁.heap news) (ha : y.cps.all (· < 128) = true) (hsz : y.cps.size ≤ sizeLine)
    (h : ∀ g, LCg.CompRest prog w A h₀ L m env elt x scope cl { s₁ with heap := g } (fun _ => True) (SignAt y) (Fin { s₁ with heap := g }) y.cps.size 0 [] news) :
    CompSrcS prog w A h₀ L m env elt x scope cl Fin (.str y t) s₁ := ⟨y, t, news, rfl, hh, F, N, ha, hsz, fun _ ⟨g, e⟩ => e ▸ h g⟩
section
variable {prog : Program} {w : World} {A : Around} {E : Value → Shared → Prop} {s : Shared} {h₀ : Heap} {L : Addr} {m : Str → Option Value} {env : Env}
theorem ListComp_S {elt iter : Expr} {x : Str} {px : Pos} {scope : Scope} {cl : List (Str × Addr)} {pos : Pos} {Q : Value → Shared → Prop} (F₀ : Fr h₀ L s.heap m)
    (hclos : closureFor scope env = pure cl) (hcell : ∀ y ∈ scope.names, y.2 ≠ .cell) (hkind : scope.kind = .function)
    (hnames : ∀ y ∈ scope.names, y.2 = .local → scope.names.lookup y.1 = some .local) (hx : scope.names.lookup x = some .local)
    (h : wpAny (model prog w) A (eval iter env) (CompSrcS prog w A h₀ L m env elt x scope cl (fun s₂ => LCg.FinE h₀ L m s₂ Q)) E s)
    (hs : ∀ x, foldedSetIterable iter env x = pure x := by intro _; rfl) :
    wpAny (model prog w) A (eval (.ListComp elt [⟨.Name x px, iter, [], 0⟩] scope pos) env) Q E s := by
  rw [eval_ListComp]
  refine wpAny_comprehension_free (use := none) rfl hs hclos hkind hnames (wpAny_mono h (fun xv s₁ h₁ => ?_) fun _ _ e => e)
  obtain ⟨y, t, news, rfl, hh, F, N, ha, hsz, R⟩ := h₁
  refine wpAny_pyIter_ascii ha ?_
  refine LCg.block_U (Walks.strAscii hh s₁.heap.objs.size y t) hsz (fun i h st => by obtain ⟨o, e, _⟩ := st; exact ⟨o, e⟩)
    (fun i h h' o nw st e e' _ _ _ => by obtain ⟨o', q, r⟩ := st; rw [e] at q; cases q; exact ⟨o, e', r⟩) hcell hkind hx ⟨_, Heap.get?_push_size _ rfl, rfl, rfl⟩ (fun b hb => ?_)
    (F.push _) (fun p hp => ⟨Heap.get?_push_of_some _ (N p hp).1, (N p hp).2⟩) (Nat.ne_of_lt F.ns.lt) (next_is_new F) (fun p hp => Nat.ne_of_lt (Heap.lt_size (N p hp).1)) trivial (R _ ⟨_, rfl⟩) ?_
  · rw [List.mem_singleton.mp hb]
    show s₁.heap.objs.size < (s₁.heap.push _).objs.size
    rw [Heap.size_push]; exact Nat.lt_succ_self _
  · intro D C h' tk m' ys news' F' N' o1 hn hC₀ hD₀ hCL hDL hCD offC fin
    refine ⟨m', hn, fun h'' hs'' => fin D h'' tk (F'.change hs'' hCL hC₀) (fun p hp => ?_) o1⟩
    refine ⟨hs''.extBut _ _ ?_ (N' p hp).1, (N' p hp).2⟩
    rcases List.mem_cons.mp hp with rfl | hp
    · exact Ne.symm hCD
    · exact offC p hp
end
theorem chr_ne {c k : Nat} {s : String} (hs : Str.ofString s = ⟨#[k]⟩) (h : c ≠ k) : ((⟨#[c]⟩ : Str) == Str.ofString s) = false := by
  rw [beq_eq_false_iff_ne, hs]
  intro e
  have := congrArg Str.cps e
  simp at this
  exact h this
noncomputable def Letters (y : Str) : Prop := ∀ c ∈ y.cps.toList, 97 ≤ c ∧ c ≤ 122
noncomputable def sign (c : Nat) : Str := ⟨#[c]⟩
theorem str_ext {a b : Str} (h : a.cps.toList = b.cps.toList) : a = b := by
  cases a; cases b; simp only [Str.mk.injEq]; exact Array.toList_inj.mp h
theorem toList_append (a b : Str) : (a ++ b).cps.toList = a.cps.toList ++ b.cps.toList := by
  show (a.cps ++ b.cps).toList = _
  simp
theorem toList_empty : (Str.ofString "").cps.toList = [] := by decide +kernel
theorem join_empty (xs : List Str) : (Txt.join (Str.ofString "") xs).cps.toList = (xs.map (·.cps.toList)).flatten := by
  show (Builtin.Str.glued (Str.ofString "") xs).cps.toList = _
  rw [StrLaws.glued_eq_join]
  induction xs with
  | nil => rfl
  | cons x r ih =>
    cases r with
    | nil => simp [Str.join]
    | cons y r =>
      show (x ++ Str.ofString "" ++ Str.join (Str.ofString "") (y :: r)).cps.toList = _
      rw [toList_append, toList_append, ih, toList_empty]
      simp
theorem join_signs (y : Str) : Txt.join (Str.ofString "") (y.cps.toList.map sign) = y := by
  apply str_ext
  rw [join_empty]
  simp only [List.map_map]
  have : ((fun x => x.cps.toList) ∘ sign) = fun c => [c] := rfl
  rw [this]
  induction y.cps.toList with
  | nil => rfl
  | cons c r ih => simp only [List.map_cons, List.flatten_cons, ih]; rfl
theorem signs_sum (l : List Nat) : ((l.map sign).map (·.length)).sum = l.length := by
  induction l with
  | nil => rfl
  | cons c r ih => simp only [List.map_cons, List.sum_cons, ih, List.length_cons]; show 1 + _ = _; lia
theorem letters_ascii {y : Str} (h : Letters y) : y.cps.all (· < 128) = true := by
  rw [Array.all_eq_true']
  intro c hc
  have := h c (by simpa using hc)
  simp; lia
noncomputable def Short (M : Nat) (xs : List Str) : Prop := ∀ y ∈ xs, y.length ≤ M
theorem len_led {prog : Program} {w : World} {A : Around} {E : Value → Shared → Prop} {s : Shared} {h₀ : Heap} {L D : Addr} {news : Led} {vs : List Value} {n : Nat} {Q : Value → Shared → Prop} (N : News h₀ L s.heap news) (hm : (D, listOf vs.toArray n) ∈ news) (hz : vs.length < 9223372036854775808)
    (h : Q (.int vs.length (s.toks + 1)) { s with toks := s.toks + 1 + 1 }) : wpAny (model prog w) A (call (.builtin "len") [.ref D]) Q E s := by
  refine len_list (News.isList N hm) ?_ ?_
  · rw [List.size_toArray]; lia
  · rw [List.size_toArray]; exact h
theorem item_led {prog : Program} {w : World} {A : Around} {E : Value → Shared → Prop} {s : Shared} {h₀ : Heap} {L D : Addr} {news : Led} {vs : List Value} {n : Nat} {value slice : PySem.Expr} {k : Int} {u : Tok} {v : Value} {Q : Value → Shared → Prop} (N : News h₀ L s.heap news) (hm : (D, listOf vs.toArray n) ∈ news)
    (h0 : 0 ≤ k) (hhi : k < 9223372036854775808) (hx : vs[k.toNat]? = some v) (h : Q v s)
    (hs : subscripted slice false (.ref D) (.int k u) = operate [.ref D, .int k u] (getItem (.ref D) (.int k u)) := by with_unfolding_all rfl) :
    wpAny (model prog w) A (subscriptTail value slice (.ref D) (.int k u)) Q E s :=
  tail_any (News.isList N hm).typeIs slot_list_getitem.lookup (wpAny_getItem_list (News.isList N hm) h0 hhi (by simpa using hx) h) hs
section
variable {prog : Program} {w : World} {A : Around} {E : Value → Shared → Prop} {s : Shared} {env : Env} {h₀ : Heap} {x : Str} {body : List Stmt} {Q : Flow → Shared → Prop} {σ : Type}
theorem for_range0 {r : Addr} {b₀ : Int} {t₀ u₀ v₀ : Tok} {n : Nat} {m₀ : Str → Option Value} {full : Led} (W : σ → Led) (Keep : Led) (stored : List Str) (ps : σ → List (Str × Value)) (J : Nat → σ → Prop) (c₀ : σ)
    (F : Fr h₀ env.locals s.heap m₀) (N : News h₀ env.locals s.heap full) (hr : IsRange s.heap r 0 b₀ 1 t₀ u₀ v₀) (hb : b₀ = (n : Int)) (hn : n < 1000) (hfull : ∀ p ∈ W c₀ ++ Keep, p ∈ full)
    (hadr : ∀ c, (W c).map (·.1) = (W c₀).map (·.1)) (hm : ∀ p ∈ ps c₀, m₀ p.1 = some p.2) (hh : A.handled = none) (hj : J 0 c₀)
    (turn : ∀ i t c u I oI h tk, i < n → J i c → AllLt I (W c ++ Keep) → Fr h₀ env.locals h (fun y => if y = x then some (.int (i : Int) t) else lmap m₀ stored (ps c) u y) → News h₀ env.locals h ((I, oI) :: (W c ++ Keep)) →
      wpAny (model prog w) A (execs body env) (TEnd h₀ env.locals I oI x W Keep m₀ stored ps (J (i + 1)) Q { s with heap := h, toks := tk }) E { s with heap := h, toks := tk })
    (done : ∀ c u v h tk, J n c → Fr h₀ env.locals h (fun y => if y = x then v else lmap m₀ stored (ps c) u y) → News h₀ env.locals h (W c ++ Keep) → Q .next { s with heap := h, toks := tk }) :
    wpAny (model prog w) A (pyIter (.ref r)) (fun it s₂ => LoopAtV prog w A h₀ env x body Q E it s₂) E s := by
  subst hb
  have hf := range_facts (k := (n : Int)) (by lia) (by lia)
  refine for_range (n := n) W Keep stored ps J c₀ F N hr hf.1 (by rw [hf.2]; rfl) hfull hadr hm hh hj (fun i t c u I oI h tk hi hJ hlt F₁ N₁ => ?_) done
  rw [show (0 : Int) + (i : Int) = (i : Int) by lia] at F₁
  exact turn i t c u I oI h tk hi hJ hlt F₁ N₁
end
noncomputable def strI (n : Int) : Str := Str.ofString (toString n)
theorem strI_short : ∀ n : Nat, n < 20 → (strI (n : Int)).length ≤ 2 := by decide +kernel
theorem len_sp : (Str.ofString " ").length = 1 := by decide +kernel
theorem len_lb : (Str.ofString "[").length = 1 := by decide +kernel
theorem len_rb : (Str.ofString "]").length = 1 := by decide +kernel
theorem len_e : (Str.ofString "").length = 0 := by decide +kernel
theorem rjust_len (x : Str) (i : Int) : (Txt.rjust x i).length ≤ x.length + i.toNat := by
  have h := rjustF_list x i 32
  have e : (Txt.rjust x i).cps.toList.length = (List.replicate (i.toNat - x.length) 32 ++ x.cps.toList).length := congrArg List.length h
  have e2 : x.cps.toList.length = x.length := by simp [Str.length]
  have e3 : (Txt.rjust x i).cps.toList.length = (Txt.rjust x i).length := by simp [Str.length]
  rw [List.length_append, List.length_replicate, e2, e3] at e
  lia
noncomputable def turns (n per : Nat) : Nat := (n + per - 1) / per
theorem turns_size {n per : Nat} (hp : 1 ≤ per) : Builtin.Range.rangeSize 0 (n : Int) (per : Int) = ((turns n per : Nat) : Int) := by
  unfold Builtin.Range.rangeSize turns
  have h1 : (per : Int) > 0 := by lia
  rw [if_pos h1]
  by_cases h : (0 : Int) < n
  · rw [if_pos h]
    have e : (n : Int) - 0 - 1 = ((n - 1 : Nat) : Int) := by lia
    rw [e, ← Int.natCast_ediv]
    have e2 : n + per - 1 = (n - 1) + per := by lia
    rw [e2, Nat.add_div_right _ (by lia)]
    rfl
  · rw [if_neg h]
    have e : n = 0 := by lia
    subst e
    rw [Nat.zero_add, Nat.div_eq_of_lt (by lia)]
    rfl
theorem turns_small {n per : Nat} (hp : 1 ≤ per) (hp9 : per < 1000) (hn : n < 1000) : Builtin.Range.small 0 (n : Int) (per : Int) = true := by
  unfold Builtin.Range.small
  rw [turns_size hp]
  have ht : turns n per ≤ n := by
    unfold turns
    rcases Nat.eq_zero_or_pos n with h | h
    · subst h; rw [Nat.zero_add, Nat.div_eq_of_lt (by lia)]; lia
    · exact (Nat.div_le_iff_le_mul_add_pred (by lia)).mpr (by
        have : n ≤ per * n := Nat.le_mul_of_pos_left n (by lia)
        lia)
  simp only [Builtin.Range.rangeFitsLong, Bool.and_eq_true, Bool.or_eq_true, decide_eq_true_eq, beq_iff_eq]
  have h1 : (per : Int) > 0 := by lia
  simp only [h1, if_true]
  have h2 : ((turns n per : Nat) : Int) ≤ n := by lia
  refine ⟨by lia, .inr ?_⟩
  rw [Bool.and_eq_true, decide_eq_true_eq, decide_eq_true_eq]
  lia
section
variable {prog : Program} {w : World} {A : Around} {E : Value → Shared → Prop} {s : Shared} {env : Env} {h₀ : Heap} {x : Str} {body : List Stmt} {Q : Flow → Shared → Prop} {σ : Type}
theorem for_rangeS {r : Addr} {b₀ st₀ : Int} {t₀ u₀ v₀ : Tok} {n per : Nat} {m₀ : Str → Option Value} {full : Led} (W : σ → Led) (Keep : Led) (stored : List Str) (ps : σ → List (Str × Value)) (J : Nat → σ → Prop) (c₀ : σ)
    (F : Fr h₀ env.locals s.heap m₀) (N : News h₀ env.locals s.heap full) (hr : IsRange s.heap r 0 b₀ st₀ t₀ u₀ v₀) (hb : b₀ = (n : Int)) (hst : st₀ = (per : Int)) (hn : n < 1000) (hp : 1 ≤ per) (hp9 : per < 1000) (hfull : ∀ p ∈ W c₀ ++ Keep, p ∈ full)
    (hadr : ∀ c, (W c).map (·.1) = (W c₀).map (·.1)) (hm : ∀ p ∈ ps c₀, m₀ p.1 = some p.2) (hh : A.handled = none) (hj : J 0 c₀)
    (turn : ∀ i t c u I oI h tk, i < turns n per → J i c → AllLt I (W c ++ Keep) → Fr h₀ env.locals h (fun y => if y = x then some (.int ((i * per : Nat) : Int) t) else lmap m₀ stored (ps c) u y) → News h₀ env.locals h ((I, oI) :: (W c ++ Keep)) →
      wpAny (model prog w) A (execs body env) (TEnd h₀ env.locals I oI x W Keep m₀ stored ps (J (i + 1)) Q { s with heap := h, toks := tk }) E { s with heap := h, toks := tk })
    (done : ∀ c u v h tk, J (turns n per) c → Fr h₀ env.locals h (fun y => if y = x then v else lmap m₀ stored (ps c) u y) → News h₀ env.locals h (W c ++ Keep) → Q .next { s with heap := h, toks := tk }) :
    wpAny (model prog w) A (pyIter (.ref r)) (fun it s₂ => LoopAtV prog w A h₀ env x body Q E it s₂) E s := by
  subst hb; subst hst
  have N' := news_iff N hfull
  refine wpAny_pyIter_range hr (turns_small hp hp9 hn) ?_
  refine loop_W (fun c : σ × (Str → Option Value) => W c.1) Keep (fun c => lmap m₀ stored (ps c.1) c.2) (fun i c => J i c.1) (c₀, m₀) (Walks.range hh s.heap.objs.size 0 (per : Int) (turns n per)) ?_ (next_is_new F) ?_ (fun c => hadr c.1) (fun p hp => Heap.lt_size (N' p hp).1) (fun i h st => ⟨_, st⟩)
    (by show IsRangeIter _ _ _ _ _; rw [turns_size hp]; simpa using Heap.get?_push_size _ rfl) (F.push _) (fun p hp => ⟨Heap.get?_push_of_some _ (N' p hp).1, (N' p hp).2⟩) (fun z hz => (kst_off (x := x) hm (fun _ _ _ _ => rfl) hz).symm) hj ?_ ?_
  · intro hmem
    exact absurd F.ns.lt ((List.mem_singleton.mp hmem) ▸ Nat.lt_irrefl _)
  · intro b hb
    exact .inl (List.mem_singleton.mp hb)
  · rintro i v c oI h tk hi ⟨t, rfl⟩ hJ hlt F₁ N₁
    rw [show (0 : Int) + (i : Int) * (per : Int) = ((i * per : Nat) : Int) by rw [Int.natCast_mul]; lia] at F₁
    exact turn i t c.1 c.2 _ oI h tk hi hJ hlt F₁ N₁
  · exact fun c v h tk hJ F₁ N₁ => done c.1 c.2 v h tk hJ F₁ N₁
end
theorem pick_strs {vs : List Value} {xs : List Str} (h : StrsAre vs xs) (lo hi : Option Int) : StrsAre (kms_pick vs lo hi) ((xs.drop (kms_lo lo xs.length)).take (kms_hi hi xs.length - kms_lo lo xs.length)) := by
  unfold kms_pick
  rw [h.len_eq]
  exact (h.drop' _).take' _
theorem sum_short {M : Nat} : ∀ {ys : List Str}, Short M ys → (ys.map (·.length)).sum ≤ M * ys.length
  | [], _ => by simp
  | y :: r, h => by
    have h1 := h y (.head _)
    have h2 := sum_short (M := M) (ys := r) fun z hz => h z (.tail _ hz)
    simp only [List.map_cons, List.sum_cons, List.length_cons, Nat.mul_succ]
    lia
theorem joinsum {ys : List Str} (h : Short 900 ys) (hl : ys.length ≤ 900) : (ys.map (·.length)).sum + ys.length ≤ 1048576 := by
  have h1 := sum_short h
  lia
theorem short_map {M K : Nat} {xs : List Str} {f : Str → Str} (h : Short M xs) (hf : ∀ y, y.length ≤ M → (f y).length ≤ K) : Short K (xs.map f) := fun z hz => by
  obtain ⟨y, hy, rfl⟩ := List.mem_map.mp hz
  exact hf y (h y hy)
theorem short_pick {M a b : Nat} {xs : List Str} (h : Short M xs) : Short M ((xs.drop a).take b) := fun z hz => h z (List.mem_of_mem_drop (List.mem_of_mem_take hz))
theorem pick_len {a b : Nat} {xs : List Str} : ((xs.drop a).take b).length ≤ xs.length := by
  rw [List.length_take, List.length_drop]; lia
noncomputable def wid (xs : List Str) : Nat := xs.foldl (fun a y => max a y.length) 0
theorem wid_snoc (xs : List Str) (y : Str) : wid (xs ++ [y]) = max (wid xs) y.length := by simp [wid]
theorem wid_le {M : Nat} {xs : List Str} (h : Short M xs) : wid xs ≤ M := by
  have key : ∀ (xs : List Str) (a : Nat), a ≤ M → Short M xs → xs.foldl (fun a y => max a y.length) a ≤ M := by
    intro xs
    induction xs with
    | nil => intro a ha _; exact ha
    | cons y r ih =>
      intro a ha hs
      have h1 := hs y (.head _)
      exact ih _ (Nat.max_le.mpr ⟨ha, h1⟩) fun z hz => hs z (.tail _ hz)
  exact key xs 0 (Nat.zero_le _) h
theorem max_ints {prog : Program} {w : World} {A : Around} {E : Value → Shared → Prop} {s : Shared} {h₀ : Heap} {L : Addr} {m : Str → Option Value} {news : Led} {a b : Int} {t u : Tok} {Q : Value → Shared → Prop} (hh : A.handled = none) (F : Fr h₀ L s.heap m) (N : News h₀ L s.heap news)
    (h : ∀ h' tk t', Fr h₀ L h' m → News h₀ L h' news → Q (.int (max a b) t') { s with heap := h', toks := tk }) : wpAny (model prog w) A (call (.builtin "max") [.int a t, .int b u]) Q E s := by
  refine PySem.Flt.max_two_num hh (.int a t) (.int b u) fun h' tk kp => ?_
  have hl : PySem.Flt.ltV (.int a t) (.int b u) = decide (a < b) := rfl
  rw [hl]
  by_cases hab : a < b
  · rw [decide_eq_true hab, if_pos rfl]
    have e : max a b = b := by lia
    have := h h' tk u (F.grownK kp) (N.grown kp)
    rwa [e] at this
  · rw [decide_eq_false hab, if_neg (by simp)]
    have e : max a b = a := by lia
    have := h h' tk t (F.grownK kp) (N.grown kp)
    rwa [e] at this
theorem turns_le {n per : Nat} (hp : 1 ≤ per) : turns n per ≤ n := by
  unfold turns
  rcases Nat.eq_zero_or_pos n with h | h
  · subst h; rw [Nat.zero_add, Nat.div_eq_of_lt (by lia)]; lia
  · exact (Nat.div_le_iff_le_mul_add_pred (by lia)).mpr (by
      have : n ≤ per * n := Nat.le_mul_of_pos_left n (by lia)
      lia)
theorem fdiv_bound {P d : Int} (h0 : 0 ≤ P) (hd : 1 ≤ d) : 0 ≤ Int.fdiv P d ∧ Int.fdiv P d ≤ P := by
  rw [Int.fdiv_eq_ediv_of_nonneg _ (by lia)]
  exact ⟨Int.ediv_nonneg h0 (by lia), Int.ediv_le_self _ h0⟩
theorem joinlen {sep : Str} {ys : List Str} (h : Short 900 ys) (hl : ys.length ≤ 900) (hs : sep.length ≤ 16) : (Txt.join sep ys).length ≤ 1000000 := by
  have h1 := sum_short h
  have h2 := size_glued sep ys
  have h3 : (ys.length - 1) * sep.length ≤ 900 * 16 := Nat.mul_le_mul (by lia) hs
  show (Builtin.Str.glued _ _).length ≤ _
  lia
theorem ite_strs {M : Model} {A : Around} {E : Value → Shared → Prop} {s : Shared} {env env' : Env} {o : Bool} {a b : Str} {k1 k2 : Nat} {p1 p2 : Pos} {Q : Value → Shared → Prop}
    (h : Q (.str (if o then a else b) s.toks) { s with toks := s.toks + 1 }) :
    if o = true then wpAny M A (eval (.Constant (.str a) k1 p1) env) Q E s else wpAny M A (eval (.Constant (.str b) k2 p2) env') Q E s := by
  cases o
  · rw [if_neg (by decide)]; exact fun _ _ _ => h
  · rw [if_pos rfl]; exact fun _ _ _ => h
theorem add_led {prog : Program} {w : World} {A : Around} {E : Value → Shared → Prop} {s : Shared} {h₀ : Heap} {L a b : Addr} {m : Str → Option Value} {news : Led} {vs ws : List Value} {n1 n2 : Nat} {Q : Value → Shared → Prop} (F : Fr h₀ L s.heap m) (N : News h₀ L s.heap news) (ha : (a, listOf vs.toArray n1) ∈ news) (hb : (b, listOf ws.toArray n2) ∈ news)
    (hz : vs.length + ws.length ≤ sizeLine) (h : ∀ D h', Fr h₀ L h' m → News h₀ L h' ((D, listOf (vs ++ ws).toArray 0) :: news) → (∀ p ∈ news, p.1 < D) → Q (.ref D) { s with heap := h' }) :
    wpAny (model prog w) A (binaryOp .Add (.ref a) (.ref b)) Q E s :=
  add_lists F N (News.isList N ha) (News.isList N hb) (fun h' F' N' => h _ h' F' N' fun p hp => Heap.lt_size (N p hp).1) hz
theorem kpick_len (l : List Value) (lo hi : Option Int) : (kms_pick l lo hi).length ≤ l.length := by
  unfold kms_pick
  rw [List.length_take, List.length_drop]; lia
theorem short_app {M : Nat} {xs ys : List Str} (h : Short M xs) (h' : Short M ys) : Short M (xs ++ ys) := fun z hz => by
  rcases List.mem_append.mp hz with hz | hz
  · exact h z hz
  · exact h' z hz
theorem short_one {M : Nat} {y : Str} (h : y.length ≤ M) : Short M [y] := fun z hz => by rw [List.mem_singleton.mp hz]; exact h
theorem len_app_le {xs ys : List Str} {a b : Nat} (h : xs.length ≤ a) (h' : ys.length ≤ b) : (xs ++ ys).length ≤ a + b := by rw [List.length_append]; lia
abbrev ent (w : World) (k : Str) (t : Tok) (v : Value) : DictEntry := { hash := PyData.keyHash w.params k, key := .str k t, val := v }
abbrev vecD (w : World) (k i a : Value) (t1 t2 t3 t4 t5 : Tok) : List DictEntry :=
  [ent w (Str.ofString "kind") t1 k, ent w (Str.ofString "items") t2 i, ent w (Str.ofString "attrs") t3 a, ent w (Str.ofString "shared") t4 (.bool false), ent w (Str.ofString "loose") t5 (.bool false)]
/-- a made Vector in the ledger -/
abbrev vecL (w : World) (x d : Addr) (k : Str) (tk t1 t2 t3 t4 t5 : Tok) (n : Nat) (i a : Value) : Led := [(x, instObj 236 d), (d, dictOf (vecD w (.str k tk) i a t1 t2 t3 t4 t5) n)]
theorem vecD_lit (w : World) (k i a : Value) (t1 t2 t3 t4 t5 : Tok) : vecD w k i a t1 t2 t3 t4 t5 = [{ hash := PyData.keyHash w.params (Str.ofString "kind"), key := .str (Str.ofString "kind") t1, val := k }, { hash := PyData.keyHash w.params (Str.ofString "items"), key := .str (Str.ofString "items") t2, val := i },
  { hash := PyData.keyHash w.params (Str.ofString "attrs"), key := .str (Str.ofString "attrs") t3, val := a }, { hash := PyData.keyHash w.params (Str.ofString "shared"), key := .str (Str.ofString "shared") t4, val := .bool false }, { hash := PyData.keyHash w.params (Str.ofString "loose"), key := .str (Str.ofString "loose") t5, val := .bool false }] := rfl
theorem ne_lt {a b : Nat} (h : a < b) : a ≠ b := Nat.ne_of_lt h
theorem ne_gt {a b : Nat} (h : b < a) : a ≠ b := Nat.ne_of_gt h
theorem ne_lt_s {a b : Nat} (h : a < b) : a ≠ b + 1 := Nat.ne_of_lt (Nat.lt_succ_of_lt h)
theorem ne_gt_s {a b : Nat} (h : b < a) : a + 1 ≠ b := Nat.ne_of_gt (Nat.lt_succ_of_lt h)
theorem allLt_ne_s {d : Nat} {l : Led} (h : AllLt d l) : ∀ p ∈ l, p.1 ≠ d + 1 := fun p hp => Nat.ne_of_lt (Nat.lt_succ_of_lt (allLt_iff.mp h p hp))
theorem allLt_off_s {d : Nat} {l : Led} (h : AllLt d l) : OffD (d + 1 : Nat) l := off1_iff.mpr (allLt_ne_s h)
inductive CodesAre : List Value → List (Option Int) → Prop
  | nil : CodesAre [] []
  | none {vs ks} : CodesAre vs ks → CodesAre (.none :: vs) (Option.none :: ks)
  | int (k : Int) (t : Tok) {vs ks} : CodesAre vs ks → CodesAre (.int k t :: vs) (some k :: ks)
theorem CodesAre.len_eq {vs : List Value} {ks : List (Option Int)} (h : CodesAre vs ks) : vs.length = ks.length := by
  induction h <;> simp_all
theorem CodesAre.item {vs : List Value} {ks : List (Option Int)} (h : CodesAre vs ks) : ∀ (i : Nat) (v : Value), vs[i]? = some v → (v = .none ∧ ks[i]? = some Option.none) ∨ ∃ k t, v = .int k t ∧ ks[i]? = some (some k) := by
  induction h with
  | nil => intro i v hv; simp at hv
  | none _ ih =>
    intro i v hv
    cases i with
    | zero => left; simp at hv; exact ⟨hv.symm, rfl⟩
    | succ i => simpa using ih i v (by simpa using hv)
  | int k t _ ih =>
    intro i v hv
    cases i with
    | zero => right; simp at hv; exact ⟨k, t, hv.symm, rfl⟩
    | succ i => simpa using ih i v (by simpa using hv)
theorem CodesAre.app {vs ws : List Value} {ks js : List (Option Int)} (h : CodesAre vs ks) (h' : CodesAre ws js) : CodesAre (vs ++ ws) (ks ++ js) := by
  induction h with
  | nil => exact h'
  | none _ ih => exact .none ih
  | int k t _ ih => exact .int k t ih
inductive LabsAre : List Value → List (Option Str) → Prop
  | nil : LabsAre [] []
  | none {vs ks} : LabsAre vs ks → LabsAre (.none :: vs) (Option.none :: ks)
  | str (y : Str) (t : Tok) {vs ks} : LabsAre vs ks → LabsAre (.str y t :: vs) (some y :: ks)
theorem LabsAre.len_eq {vs : List Value} {ks : List (Option Str)} (h : LabsAre vs ks) : vs.length = ks.length := by
  induction h <;> simp_all
theorem LabsAre.item {vs : List Value} {ks : List (Option Str)} (h : LabsAre vs ks) : ∀ (i : Nat) (v : Value), vs[i]? = some v → (v = .none ∧ ks[i]? = some Option.none) ∨ ∃ y t, v = .str y t ∧ ks[i]? = some (some y) := by
  induction h with
  | nil => intro i v hv; simp at hv
  | none _ ih =>
    intro i v hv
    cases i with
    | zero => left; simp at hv; exact ⟨hv.symm, rfl⟩
    | succ i => simpa using ih i v (by simpa using hv)
  | str y t _ ih =>
    intro i v hv
    cases i with
    | zero => right; simp at hv; exact ⟨y, t, hv.symm, rfl⟩
    | succ i => simpa using ih i v (by simpa using hv)
theorem LabsAre.app {vs ws : List Value} {ks js : List (Option Str)} (h : LabsAre vs ks) (h' : LabsAre ws js) : LabsAre (vs ++ ws) (ks ++ js) := by
  induction h with
  | nil => exact h'
  | none _ ih => exact .none ih
  | str y t _ ih => exact .str y t ih
/-- what a code names -/
noncomputable def labOf (xs : List Str) (c : Option Int) : Option Str := match c with
  | Option.none => Option.none
  | some k => if 1 ≤ k ∧ k ≤ (xs.length : Int) then xs[(k - 1).toNat]? else none
theorem labOf_out {xs : List Str} {k : Int} (h : ¬ (1 ≤ k ∧ k ≤ (xs.length : Int))) : labOf xs (some k) = none := if_neg h
theorem labOf_in {xs : List Str} {k : Int} (h : 1 ≤ k ∧ k ≤ (xs.length : Int)) : labOf xs (some k) = some (xs.getD (k - 1).toNat Str.empty) := by
  unfold labOf
  simp only [if_pos h]
  have : (k - 1).toNat < xs.length := by lia
  rw [List.getD_eq_getElem?_getD, List.getElem?_eq_getElem this]; rfl
theorem labs_snoc {us : List Value} {v : Value} {xs : List Str} {ks : List (Option Int)} {i : Nat} {c : Option Int} {l : Option Str} (h : LabsAre us ((ks.take i).map (labOf xs))) (hc : ks[i]? = some c) (hl : labOf xs c = l) (hv : LabsAre [v] [l]) :
    LabsAre (us ++ [v]) ((ks.take (i + 1)).map (labOf xs)) := by
  rw [List.take_add_one, hc, List.map_append]
  exact h.app (by simpa [hl] using hv)
section
variable {w : World} {f : Addr} {args : List Value} {D U : Nat} {pre : Led} {mu : List Addr}
    {dp un : Nat} {gd : Option (List Code)} {cn : Str} {cs : Scope} {a : Addr} {ccd : Value} {cl : List (Str × Addr)} {outer : List Env} {A₀ : Around} {base h₀ : Heap} {L : Addr} {m : Str → Option Value} {s : Shared}
    {loose : List Str} {mean : ExcName → Option Value} {mg mb : Str → Option Value} {full rest : Led} {Q E : Value → Shared → Prop}
/-- a call that reads alone and gives a new list -/
theorem Calls.useL {P : List Value → Prop} (F : Fr h₀ L s.heap m) (B : Below A₀ base outer h₀) (X : (Mine.hd.heap_39 w.params).In h₀) (N : News h₀ L s.heap full) (T : Top Mine.hd.view_39 loose mean mg mb h₀) (hk : cs.kind = .function)
    (S : Sel pre full rest) (C : Calls w f args D U pre [] (fun v new pre' => ∃ D ys k, v = .ref D ∧ new = [(D, listOf ys.toArray k)] ∧ pre' = pre ∧ P ys))
    (hd : dp + D < recursionLimit) (hu : un + U < cLine)
    (h : ∀ D ys k h' tk', P ys → OffD D full → Fr h₀ L h' m → News h₀ L h' ((D, listOf ys.toArray k) :: full) → Q (.ref D) { s with heap := h', toks := tk' }) :
    wpAny (model prg w) (ktrTop dp un gd cn cs L a ccd cl outer) (call (.ref f) args) Q E s := by
  refine Calls.use F B X N T hk S C hd hu (fun b hb => (nomatch hb)) ?_
  rintro v new pre' h' tk' ⟨D, ys, k, rfl, rfl, rfl, hp⟩ hf F' N'
  refine h D ys k h' tk' hp hf.1 F' (news_iff N' fun p hp => ?_)
  rcases List.mem_cons.mp hp with rfl | hp
  · exact List.mem_cons_self
  · exact List.mem_cons_of_mem _ ((S.mem p).mpr hp)
/-- a call that reads alone and gives a plain value with a mark of its own -/
theorem Calls.useT {V : Tok → Value} (F : Fr h₀ L s.heap m) (B : Below A₀ base outer h₀) (X : (Mine.hd.heap_39 w.params).In h₀) (N : News h₀ L s.heap full) (T : Top Mine.hd.view_39 loose mean mg mb h₀) (hk : cs.kind = .function)
    (S : Sel pre full rest) (C : Calls w f args D U pre [] (fun v new pre' => new = [] ∧ pre' = pre ∧ ∃ t', v = V t'))
    (hd : dp + D < recursionLimit) (hu : un + U < cLine)
    (h : ∀ t' h' tk', Fr h₀ L h' m → News h₀ L h' full → Q (V t') { s with heap := h', toks := tk' }) :
    wpAny (model prg w) (ktrTop dp un gd cn cs L a ccd cl outer) (call (.ref f) args) Q E s := by
  refine Calls.use F B X N T hk S C hd hu (fun b hb => (nomatch hb)) ?_
  rintro v new pre' h' tk' ⟨rfl, rfl, t', rfl⟩ hf F' N'
  exact h t' h' tk' F' (news_iff N' fun p hp => (S.mem p).mpr hp)
/-- a call that reads alone and gives a known value -/
theorem Calls.useV {V : Value} (F : Fr h₀ L s.heap m) (B : Below A₀ base outer h₀) (X : (Mine.hd.heap_39 w.params).In h₀) (N : News h₀ L s.heap full) (T : Top Mine.hd.view_39 loose mean mg mb h₀) (hk : cs.kind = .function)
    (S : Sel pre full rest) (C : Calls w f args D U pre [] (fun v new pre' => v = V ∧ new = [] ∧ pre' = pre))
    (hd : dp + D < recursionLimit) (hu : un + U < cLine)
    (h : ∀ h' tk', Fr h₀ L h' m → News h₀ L h' full → Q V { s with heap := h', toks := tk' }) :
    wpAny (model prg w) (ktrTop dp un gd cn cs L a ccd cl outer) (call (.ref f) args) Q E s := by
  refine Calls.use F B X N T hk S C hd hu (fun b hb => (nomatch hb)) ?_
  rintro v new pre' h' tk' ⟨rfl, rfl, rfl⟩ hf F' N'
  exact h h' tk' F' (news_iff N' fun p hp => (S.mem p).mpr hp)
end
theorem freshL {D : Addr} {o : Obj} {full : Led} (h : OffD D full) : FreshOver [(D, o)] full := ⟨h, trivial⟩
theorem offD_sub {d : Addr} {l l' : Led} (h : OffD d l) (hs : ∀ p ∈ l', p ∈ l) : OffD d l' := off1_sub h hs
theorem offD_tail {d : Addr} {p : Addr × Obj} {l : Led} (h : OffD d (p :: l)) : OffD d l := h.2
theorem offD_app {d : Addr} {l l' : Led} (h : OffD d l) (h' : OffD d l') : OffD d (l ++ l') := off1_iff.mpr fun p hp => by
  rcases List.mem_append.mp hp with hp | hp
  · exact off1_iff.mp h p hp
  · exact off1_iff.mp h' p hp
theorem closeL {h₀ : Heap} {L : Addr} {m : Str → Option Value} {s : Shared} {pre news full : Led} {Q : Value → Shared → Prop} {P : List Value → Prop} {D : Addr} {ys : List Value} {k : Nat} {h' : Heap} {tk' : Nat}
    (ret : ∀ v new pre' h' tk', (∃ D ys k, v = .ref D ∧ new = [(D, listOf ys.toArray k)] ∧ pre' = pre ∧ P ys) → FreshOver new (pre ++ news) → Fr h₀ L h' m → News h₀ L h' (new ++ (pre' ++ news)) → Q v { s with heap := h', toks := tk' })
    (F : Fr h₀ L h' m) (N : News h₀ L h' ((D, listOf ys.toArray k) :: full)) (hs : ∀ p ∈ pre ++ news, p ∈ (D, listOf ys.toArray k) :: full) (hf : OffD D (pre ++ news)) (hp : P ys) : Q (.ref D) { s with heap := h', toks := tk' } :=
  ret _ [_] pre _ _ ⟨D, ys, k, rfl, rfl, rfl, hp⟩ ⟨hf, trivial⟩ F (news_iff N fun p hp => by
    rcases List.mem_cons.mp hp with rfl | hp
    · exact List.mem_cons_self
    · exact hs p hp)
theorem closeT {h₀ : Heap} {L : Addr} {m : Str → Option Value} {s : Shared} {pre news full : Led} {Q : Value → Shared → Prop} {V : Tok → Value} {t : Tok} {h' : Heap} {tk' : Nat}
    (ret : ∀ v new pre' h' tk', (new = [] ∧ pre' = pre ∧ ∃ t', v = V t') → FreshOver new (pre ++ news) → Fr h₀ L h' m → News h₀ L h' (new ++ (pre' ++ news)) → Q v { s with heap := h', toks := tk' })
    (F : Fr h₀ L h' m) (N : News h₀ L h' full) (hs : ∀ p ∈ pre ++ news, p ∈ full) : Q (V t) { s with heap := h', toks := tk' } :=
  ret _ [] pre _ _ ⟨rfl, rfl, t, rfl⟩ trivial F (news_iff N hs)
noncomputable def WEnd {σ : Type} (h₀ : Heap) (L : Addr) (Keep : Led) (m₀ : Str → Option Value) (stored : List Str) (ps : σ → List (Str × Value)) (J : Nat → σ → Prop) (n : Nat) (Q : Flow → Shared → Prop) (s₁ : Shared) : Flow → Shared → Prop
  | .ret v, s₂ => Q (.ret v) s₂
  | .brk, s₂ => Q .next s₂
  | _, s₂ => ∃ h' tk m' c' n' all, s₂ = { s₁ with heap := h', toks := tk } ∧ Fr h₀ L h' m' ∧ News h₀ L h' all ∧ (∀ p ∈ Keep, p ∈ all) ∧ (∀ p ∈ ps c', m' p.1 = some p.2) ∧ (∀ z, (∀ p ∈ ps c', z ≠ p.1) → stored.contains z = false → m' z = m₀ z) ∧ n' < n ∧ J n' c'
theorem WEnd.next {σ : Type} {h₀ : Heap} {L : Addr} {Keep : Led} {m₀ : Str → Option Value} {stored : List Str} {ps : σ → List (Str × Value)} {J : Nat → σ → Prop} {n : Nat} {Q : Flow → Shared → Prop} {s₁ : Shared} {h' : Heap} {tk : Nat} {m' : Str → Option Value} {c' : σ} {n' : Nat} {all : Led}
    (F : Fr h₀ L h' m') (N : News h₀ L h' all) (hs : ∀ p ∈ Keep, p ∈ all) (h1 : ∀ p ∈ ps c', m' p.1 = some p.2) (h2 : ∀ z, (∀ p ∈ ps c', z ≠ p.1) → stored.contains z = false → m' z = m₀ z) (hn : n' < n) (hj : J n' c') :
    WEnd h₀ L Keep m₀ stored ps J n Q s₁ .next { s₁ with heap := h', toks := tk } := ⟨h', tk, m', c', n', all, rfl, F, N, hs, h1, h2, hn, hj⟩
theorem lmap_all {m₀ m' : Str → Option Value} {stored : List Str} {ps : List (Str × Value)} (h1 : ∀ p ∈ ps, m' p.1 = some p.2) (h2 : ∀ z, (∀ p ∈ ps, z ≠ p.1) → stored.contains z = false → m' z = m₀ z) : m' = lmap m₀ stored ps m' := by
  funext z
  by_cases hz : z = Str.ofString "a"
  · exact (kst_off (x := Str.ofString "b") h1 (fun z _ => h2 z) (by rw [hz]; decide +kernel)).symm
  · exact (kst_off (x := Str.ofString "a") h1 (fun z _ => h2 z) hz).symm
theorem while_W {prog : Program} {w : World} {A : Around} {E : Value → Shared → Prop} {Q : Flow → Shared → Prop} {s : Shared} {env : Env} {h₀ : Heap} {L : Addr} {σ : Type} {test : Expr} {body : List Stmt} {pos : Pos} {m₀ : Str → Option Value} {full : Led} (Keep : Led) (stored : List Str) (ps : σ → List (Str × Value)) (J : Nat → σ → Prop) (n₀ : Nat) (c₀ : σ)
    (F : Fr h₀ L s.heap m₀) (N : News h₀ L s.heap full) (hsub : ∀ p ∈ Keep, p ∈ full) (hm : ∀ p ∈ ps c₀, m₀ p.1 = some p.2) (hj : J n₀ c₀)
    (turn : ∀ n c u h tk, J n c → Fr h₀ L h (lmap m₀ stored (ps c) u) → News h₀ L h Keep →
      wpAny (model prog w) A (isTrue test env (eval test env)) (fun b s₂ => if b = true then wpAny (model prog w) A (execs body env) (WEnd h₀ L Keep m₀ stored ps J n Q s) E s₂ else Q .next s₂) E { s with heap := h, toks := tk })
    (hE : PassesOwn (model prog w) A env E := by passes_own) :
    wpAny (model prog w) A (exec (.While test body [] pos) env) Q E s := by
  refine While_inv2 (fun n m nw => ∃ c, nw = Keep ∧ (∀ p ∈ ps c, m p.1 = some p.2) ∧ (∀ z, (∀ p ∈ ps c, z ≠ p.1) → stored.contains z = false → m z = m₀ z) ∧ J n c) (n₀ := n₀) F (news_iff N hsub) ⟨c₀, rfl, hm, fun _ _ _ => rfl, hj⟩ ?_ hE
  rintro n m₁ news₁ h₁ tk₁ F₁ N₁ ⟨c, rfl, h1, h2, hJ⟩
  have e := lmap_all h1 h2
  rw [e] at F₁
  refine wpAny_mono (turn n c m₁ h₁ tk₁ hJ F₁ N₁) (fun b s₂ h => ?_) fun _ _ e => e
  by_cases hb : b = true
  · rw [if_pos hb] at h ⊢
    refine wpAny_mono h (fun f s₃ h3 => ?_) fun _ _ e => e
    cases f with
    | next =>
      obtain ⟨h', tk, m', c', n', all, rfl, F', N', hs, k1, k2, hn, hj'⟩ := h3
      exact ⟨h', tk, m', _, n', rfl, F', news_iff N' hs, hn, c', rfl, k1, k2, hj'⟩
    | cont =>
      obtain ⟨h', tk, m', c', n', all, rfl, F', N', hs, k1, k2, hn, hj'⟩ := h3
      exact ⟨h', tk, m', _, n', rfl, F', news_iff N' hs, hn, c', rfl, k1, k2, hj'⟩
    | brk => exact h3
    | ret v => exact h3
  · rw [if_neg hb] at h ⊢
    exact h
noncomputable def WOut {σ : Type} (h₀ : Heap) (L : Addr) (Keep : Led) (m₀ : Str → Option Value) (stored : List Str) (ps : σ → List (Str × Value)) (J : σ → Prop) (s₁ s₂ : Shared) : Prop :=
  ∃ h' tk m' c' all, s₂ = { s₁ with heap := h', toks := tk } ∧ Fr h₀ L h' m' ∧ News h₀ L h' all ∧ (∀ p ∈ Keep, p ∈ all) ∧ (∀ p ∈ ps c', m' p.1 = some p.2) ∧ (∀ z, (∀ p ∈ ps c', z ≠ p.1) → stored.contains z = false → m' z = m₀ z) ∧ J c'
theorem WOut.mk {σ : Type} {h₀ : Heap} {L : Addr} {Keep : Led} {m₀ : Str → Option Value} {stored : List Str} {ps : σ → List (Str × Value)} {J : σ → Prop} {s₁ : Shared} {h' : Heap} {tk : Nat} {m' : Str → Option Value} {c' : σ} {all : Led}
    (F : Fr h₀ L h' m') (N : News h₀ L h' all) (hs : ∀ p ∈ Keep, p ∈ all) (h1 : ∀ p ∈ ps c', m' p.1 = some p.2) (h2 : ∀ z, (∀ p ∈ ps c', z ≠ p.1) → stored.contains z = false → m' z = m₀ z) (hj : J c') :
    WOut h₀ L Keep m₀ stored ps J s₁ { s₁ with heap := h', toks := tk } := ⟨h', tk, m', c', all, rfl, F, N, hs, h1, h2, hj⟩
theorem while_W2 {prog : Program} {w : World} {A : Around} {E : Value → Shared → Prop} {Q : Flow → Shared → Prop} {s : Shared} {env : Env} {h₀ : Heap} {L : Addr} {σ : Type} {test : Expr} {body : List Stmt} {pos : Pos} {m₀ : Str → Option Value} {full : Led} (Keep : Led) (stored : List Str) (ps : σ → List (Str × Value)) (J : Nat → σ → Prop) (Jd : σ → Prop) (n₀ : Nat) (c₀ : σ)
    (F : Fr h₀ L s.heap m₀) (N : News h₀ L s.heap full) (hsub : ∀ p ∈ Keep, p ∈ full) (hm : ∀ p ∈ ps c₀, m₀ p.1 = some p.2) (hj : J n₀ c₀)
    (turn : ∀ n c u h tk (Q' : Flow → Shared → Prop), J n c → Fr h₀ L h (lmap m₀ stored (ps c) u) → News h₀ L h Keep →
      wpAny (model prog w) A (isTrue test env (eval test env)) (fun b s₂ => if b = true then wpAny (model prog w) A (execs body env) (WEnd h₀ L Keep m₀ stored ps J n Q' s) E s₂ else WOut h₀ L Keep m₀ stored ps Jd s s₂) E { s with heap := h, toks := tk })
    (done : ∀ c u h tk, Jd c → Fr h₀ L h (lmap m₀ stored (ps c) u) → News h₀ L h Keep → Q .next { s with heap := h, toks := tk })
    (hE : PassesOwn (model prog w) A env E := by passes_own) :
    wpAny (model prog w) A (exec (.While test body [] pos) env) Q E s := by
  refine while_W Keep stored ps J n₀ c₀ F N hsub hm hj (fun n c u h tk hJ F₁ N₁ => wpAny_mono (turn n c u h tk Q hJ F₁ N₁) (fun b s₂ h => ?_) fun _ _ e => e) hE
  by_cases hb : b = true
  · rw [if_pos hb] at h ⊢; exact h
  · rw [if_neg hb] at h ⊢
    obtain ⟨h', tk, m', c', all, rfl, F', N', hs, h1, h2, hd⟩ := h
    rw [lmap_all h1 h2] at F'
    exact done c' m' h' tk hd F' (news_iff N' hs)
theorem short_nil {M : Nat} : Short M [] := fun z hz => by cases hz
theorem short_cons {M : Nat} {y : Str} {ys : List Str} (h : y.length ≤ M) (h' : Short M ys) : Short M (y :: ys) := fun z hz => by
  rcases List.mem_cons.mp hz with rfl | hz
  · exact h
  · exact h' z hz
theorem turns_lt {i n per : Nat} (hp : 1 ≤ per) (h : i < turns n per) : i * per < n := by
  unfold turns at h
  have h1 := Nat.div_mul_le_self (n + per - 1) per
  have h2 : (i + 1) * per ≤ (n + per - 1) / per * per := Nat.mul_le_mul_right _ h
  rw [Nat.succ_mul] at h2
  lia
theorem setL_last {v v' : Value} : ∀ us : List Value, ki_setL (us ++ [v]) us.length v' = some (us ++ [v'])
  | [] => rfl
  | u :: us => by
    show (match ki_setL (us ++ [v]) us.length v' with | some q => some (u :: q) | none => none) = _
    rw [setL_last us]; rfl
theorem last_get {prog : Program} {w : World} {A : Around} {E : Value → Shared → Prop} {s : Shared} {h₀ : Heap} {L D : Addr} {news : Led} {us : List Value} {v : Value} {n : Nat} {t : Tok} {Q : Value → Shared → Prop} (N : News h₀ L s.heap news) (hm : (D, listOf (us ++ [v]).toArray n) ∈ news)
    (h : Q v s) : wpAny (model prog w) A (getItem (.ref D) (.int (-1) t)) Q E s := by
  have hz : (us ++ [v]).toArray.size = us.length + 1 := by simp
  refine wpAny_getItem_list_neg (News.isList N hm) (by decide) (by rw [hz]; lia) (by decide) ?_ h
  rw [hz, show (-1 + ((us.length + 1 : Nat) : Int)).toNat = us.length by lia]
  simp
theorem last_set {prog : Program} {w : World} {A : Around} {E : Value → Shared → Prop} {s : Shared} {h₀ : Heap} {L D : Addr} {m : Str → Option Value} {news news' : Led} {us : List Value} {v v' : Value} {n : Nat} {t : Tok} {Q : Unit → Shared → Prop} (F : Fr h₀ L s.heap m) (N : News h₀ L s.heap news)
    (U : Upd D (listOf (us ++ [v]).toArray n) (listOf (us ++ [v']).toArray n) news news') (h : ∀ h', Fr h₀ L h' m → News h₀ L h' news' → Q () { s with heap := h' }) :
    wpAny (model prog w) A (setItem (.ref D) (.int (-1) t) v') Q E s := by
  have hz : (us ++ [v]).toArray.size = us.length + 1 := by simp
  refine ki_setNeg (j := us.length) F N (by decide) (by decide) ?_ (setL_last us) U h
  rw [PySem.seqIndex_neg (by decide) (by rw [hz]; lia), hz]
  congr 1
  lia
section
open LCg
section
variable {prog : Program} {w : World} {A : Around} {E : Value → Shared → Prop} {s : Shared} {h₀ : Heap} {L : Addr} {m : Str → Option Value} {env : Env}
noncomputable def DEnd (h₀ : Heap) (L : Addr) (m : Str → Option Value) (s₁ : Shared) (I : Addr) (oI : Obj) (C : Addr) (oC : Obj) (D : Addr) (oD : Obj) (S : Led → Prop) (Next : Str → Value → Led → Prop) (kv vv : Value) (s₂ : Shared) : Prop :=
  ∃ h' tk' news' y t, kv = .str y t ∧ s₂ = { s₁ with heap := h', toks := tk' } ∧ Fr h₀ L h' m ∧ News h₀ L h' ((I, oI) :: (C, oC) :: (D, oD) :: news') ∧ Off3 I C D news' ∧ S news' ∧ Next y vv news'
theorem DEnd.mk {h₀ : Heap} {L : Addr} {m : Str → Option Value} {s₁ : Shared} {I : Addr} {oI : Obj} {C : Addr} {oC : Obj} {D : Addr} {oD : Obj} {S : Led → Prop} {Next : Str → Value → Led → Prop} {y : Str} {t : Tok} {vv : Value} {h' : Heap} {tk' : Nat} {all : Led}
    (nw : Led) (F : Fr h₀ L h' m) (N : News h₀ L h' all) (sub : ∀ p ∈ (I, oI) :: (C, oC) :: (D, oD) :: nw, p ∈ all) (off : Off3 I C D nw) (hS : S nw) (hn : Next y vv nw) :
    DEnd h₀ L m s₁ I oI C oC D oD S Next (.str y t) vv { s₁ with heap := h', toks := tk' } := ⟨h', tk', nw, y, t, rfl, rfl, F, news_iff N sub, off, hS, hn⟩
noncomputable def DRest (prog : Program) (w : World) (A : Around) (h₀ : Heap) (L : Addr) (m : Str → Option Value) (env : Env) (kx vx : Expr) (x : Str) (scope : Scope) (cl : List (Str × Addr)) (s : Shared) (S : Led → Prop) (P : Nat → Value → Prop) (Fin : List (Str × Value) → Led → Prop) : Nat → Nat → List (Str × Value) → Led → Prop
  | 0, _, kvs, news => Fin kvs news
  | k + 1, i, kvs, news => kvs.length ≤ 1000 ∧ ∀ v I oI C oC D oD m₂ h tk (E' : Value → Shared → Prop), P i v → NsObj oC m₂ → m₂ x = some v → Fr h₀ L h m → oD.IsDictOf (strKind prog w) kvs → News h₀ L h ((I, oI) :: (C, oC) :: (D, oD) :: news) → Off3 I C D news → ((@Ne Nat I C) ∧ (@Ne Nat I D) ∧ (@Ne Nat C D)) →
      wpAny (model prog w) A (eval kx (compEnvC scope cl C env)) (fun kv s₄ => wpAny (model prog w) A (eval vx (compEnvC scope cl C env)) (DEnd h₀ L m { s with heap := h, toks := tk } I oI C oC D oD S (fun y vv news' => DRest prog w A h₀ L m env kx vx x scope cl s S P Fin k (i + 1) (stored kvs y vv) news') kv) E' s₄) E' { s with heap := h, toks := tk }

theorem block_D {kx vx iter : Expr} {x : Str} {px : Pos} {scope : Scope} {cl : List (Str × Addr)} {pos : Pos} {s₂ : Shared} {I : Addr} {fp : List Addr} {n : Nat} {P : Nat → Value → Prop} {St : Nat → Heap → Prop} {S : Led → Prop} {news : Led}
    {Fin : List (Str × Value) → Led → Prop} {RR : Value → Addr → Result → Shared → Prop}
    (W : Walks prog w A I fp [I] n P St) (hIo : ∀ i h, St i h → ∃ o, h.get? I = some o)
    (hSt : ∀ i h h' o nw, St i h → h.get? I = some o → h'.get? I = some o → (∀ b o, h₀.get? b = some o → h'.get? b = some o) → News h₀ L h' nw → S nw → St i h')
    (hcell : ∀ y ∈ scope.names, y.2 ≠ .cell) (hkind : scope.kind = .function) (hx : scope.names.lookup x = some .local) (hst : St 0 s₂.heap) (hfp : ∀ b ∈ fp, b < s₂.heap.objs.size)
    (F : Fr h₀ L s₂.heap m) (N : News h₀ L s₂.heap news) (hIL : L ≠ I) (hI₀ : h₀.get? I = none) (off : ∀ p ∈ news, p.1 ≠ I) (hS : S news)
    (R : DRest prog w A h₀ L m env kx vx x scope cl s₂ S P Fin n 0 [] news)
    (hRR : ∀ D oD C h tk m' kvs news', Fr h₀ L h m → oD.IsDictOf (strKind prog w) kvs → News h₀ L h ((D, oD) :: news') → Off1 D news' → h.Ns C m' → h₀.get? C = none → h₀.get? D = none → C ≠ L → D ≠ L → C ≠ D → (∀ p ∈ news', p.1 ≠ C) → (sysModules < h₀.objs.size → (D == sysModules) = false) → Fin kvs news' → RR (.ref D) C (.ok .next) { s₂ with heap := h, toks := tk }) :
    wpAny (model prog w) A newDict (fun acc s₃ => wpAny (model prog w) A (newFunctionEnv scope env.globals cl [] env.qual none .none (some env)) (fun cenv s₄ =>
      codeAny (model prog w) A (.compStart (.DictComp kx vx [⟨.Name x px, iter, [], 0⟩] scope pos) 0 (.ref I) acc { cenv with scope := relabel scope env }) (RR acc cenv.locals) s₄) E s₃) E s₂ := by
  refine wpAny_newObj_type (wpAny_newFunctionEnv hcell (by intro y hy; simp at hy) (fun h₁ hns₁ hsb₁ => ?_) hkind)
  dsimp only at hns₁ hsb₁ ⊢
  have hnew : (s₂.heap.push { cls := .type "dict", dict := none, data := .dict #[] }).DictOf (strKind prog w) s₂.heap.objs.size [] := Heap.DictOf.new s₂.heap
  generalize hH2 : s₂.heap.push { cls := .type "dict", dict := none, data := .dict #[] } = H2 at hns₁ hsb₁ hnew ⊢
  have hC : H2.objs.size = s₂.heap.objs.size + 1 := by rw [← hH2, Heap.size_push]
  have hDC : s₂.heap.objs.size ≠ H2.objs.size := by rw [hC]; exact Nat.ne_of_lt (Nat.lt_succ_self _)
  have below : ∀ b, b < s₂.heap.objs.size → b ≠ H2.objs.size ∧ b ≠ s₂.heap.objs.size := fun b hb => ⟨by rw [hC]; exact Nat.ne_of_lt (Nat.lt_succ_of_lt hb), Nat.ne_of_lt hb⟩
  have hDf : s₂.heap.objs.size ∉ fp := fun hm => Nat.lt_irrefl _ (hfp _ hm)
  have hCf : H2.objs.size ∉ fp := fun hm => by have := hfp _ hm; rw [hC] at this; exact Nat.lt_irrefl _ (Nat.lt_of_succ_lt this)
  have hIf : I ∈ fp := W.sub I (List.mem_singleton.mpr rfl)
  have hIlt : I < s₂.heap.objs.size := hfp I hIf
  have old : ∀ b o, s₂.heap.get? b = some o → h₁.get? b = some o := fun b o e => hsb₁.extBut b o (below b (Heap.lt_size e)).1 (Heap.get?_push_of_some _ (hH2 ▸ Heap.get?_push_of_some _ e))
  obtain ⟨oD₀, hacc, hdD₀⟩ : ∃ oD, h₁.get? s₂.heap.objs.size = some oD ∧ oD.IsDictOf (strKind prog w) [] := by
    obtain ⟨o, ho, hd⟩ := Heap.dictOf_iff.mp hnew
    exact ⟨o, hsb₁.extBut _ _ hDC (Heap.get?_push_of_some _ ho), hd⟩
  have hst₁ : St 0 h₁ := W.frame _ _ _ hst fun b _ o e => old b o e
  have fresh : ∀ a, s₂.heap.objs.size ≤ a → s₂.heap.get? a = none := fun a ha => by
    cases e : s₂.heap.get? a with
    | none => rfl
    | some o' => exact absurd (Heap.lt_size e) (Nat.not_lt.mpr ha)
  have fresh₀ : ∀ a, s₂.heap.objs.size ≤ a → h₀.get? a = none := fun a ha => by
    cases e : h₀.get? a with
    | none => rfl
    | some o' => have := F.keep a o' e; rw [fresh a ha] at this; cases this
  have hD₀ : h₀.get? s₂.heap.objs.size = none := fresh₀ _ (Nat.le_refl _)
  have hC₀ : h₀.get? H2.objs.size = none := fresh₀ _ (by rw [hC]; exact Nat.le_succ _)
  have hLlt : L < s₂.heap.objs.size := F.ns.lt
  have hDL : s₂.heap.objs.size ≠ L := Ne.symm (below L hLlt).2
  have hmod : sysModules < h₀.objs.size → (s₂.heap.objs.size == sysModules) = false := fun hb => Fr.notModules F hb
  have hCL : H2.objs.size ≠ L := Ne.symm (below L hLlt).1
  have hCI : I ≠ H2.objs.size := (below I hIlt).1
  have hDI : I ≠ s₂.heap.objs.size := (below I hIlt).2
  have off₀ : Off3 I H2.objs.size s₂.heap.objs.size news := Off3.of fun p hp => ⟨off p hp, (below _ (Heap.lt_size (N p hp).1)).1, (below _ (Heap.lt_size (N p hp).1)).2⟩
  have loop : ∀ s₃ : Shared, s₃ = { s₂ with heap := h₁, toks := s₂.toks + ([] : List (Str × Value)).length } →
      codeAny (model prog w) A (.compLoop (.DictComp kx vx [⟨.Name x px, iter, [], 0⟩] scope pos) 0 (.ref I) (.ref s₂.heap.objs.size) (compEnvC scope cl H2.objs.size env))
        (RR (.ref s₂.heap.objs.size) H2.objs.size) s₃ := by
    rintro s₃ rfl
    refine codeAny_compLoop_testsD
      (fun k s' => ∃ h' tk i kvs oD m' news', s' = { s₂ with heap := h', toks := tk } ∧ i ≤ n ∧ k = n + 1 - i ∧ St i h' ∧ Fr h₀ L h' m ∧ h'.Ns H2.objs.size m' ∧ oD.IsDictOf (strKind prog w) kvs ∧ News h₀ L h' ((s₂.heap.objs.size, oD) :: news') ∧
        Off3 I H2.objs.size s₂.heap.objs.size news' ∧ S news' ∧ DRest prog w A h₀ L m env kx vx x scope cl s₂ S P Fin (n - i) i kvs news') ?_ (n + 1)
      ⟨h₁, _, 0, [], oD₀, _, news, rfl, Nat.zero_le _, rfl, hst₁, F.keeps old, hns₁, hdD₀, fun p hp => ?_, off₀, hS, R⟩
    · rintro k s' ⟨h', tk, i, kvs, oD, m', news', rfl, hi, rfl, hst', F', hn', hdD, N', off', hS', R'⟩
      by_cases hlt : i < n
      · obtain ⟨j, hj⟩ : ∃ j, n - i = j + 1 := ⟨n - i - 1, by lia⟩
        rw [hj] at R'
        obtain ⟨hsz, R'⟩ := R'
        refine W.item i _ _ _ hlt hst' fun v h₂ tk₂ hPv hst₂ hk₂ => ?_
        refine wpAny_assign_Name (wpAny_storeName_local (lookup_relabel_local hx) (hn'.at' fun o e => hk₂ _ o (by simpa using Ne.symm hCI) e) (fun h₃ hn₃ hs₃ => ?_) (by simp [compEnvC, relabel, hkind]))
        refine wpAny_tests_nil ?_
        simp only [if_true]
        have hst₃ : St (i + 1) h₃ := W.frame _ _ _ hst₂ fun b hb o e => hs₃.extBut b o (fun q => hCf (by have q' : b = H2.objs.size := q; rw [← q']; exact hb)) e
        obtain ⟨oI, heI⟩ := hIo _ _ hst₃
        obtain ⟨oC, heC, hoC⟩ := ns_obj hn₃
        have F₃ : Fr h₀ L h₃ m := (fr_but F' hk₂ hIL hI₀).change hs₃ hCL hC₀
        have off3 := off'.mem
        have N₂ : News h₀ L h₂ ((s₂.heap.objs.size, oD) :: news') := news_but N' hk₂ fun p hp => by
          rcases List.mem_cons.mp hp with rfl | hp
          · exact Ne.symm hDI
          · exact (off3 p hp).1
        have N₃ : News h₀ L h₃ ((I, oI) :: (H2.objs.size, oC) :: (s₂.heap.objs.size, oD) :: news') := fun p hp => by
          rcases List.mem_cons.mp hp with rfl | hp
          · exact ⟨heI, Ne.symm hIL, hI₀⟩
          · rcases List.mem_cons.mp hp with rfl | hp
            · exact ⟨heC, hCL, hC₀⟩
            · have z := N₂ p hp
              refine ⟨hs₃.extBut _ _ ?_ z.1, z.2⟩
              rcases List.mem_cons.mp hp with rfl | hp
              · exact hDC
              · exact (off3 p hp).2.1
        refine wpAny_mono (R' v I oI H2.objs.size oC s₂.heap.objs.size oD _ h₃ _ _ hPv hoC (by simp) F₃ hdD N₃ off' ⟨hCI, hDI, Ne.symm hDC⟩) (fun kv s₄ hv₄ => ?_) fun _ _ e => e
        refine wpAny_mono hv₄ (fun vv s₅ h₅ => ?_) fun _ _ e => e
        obtain ⟨h₄, tk₄, news₄, y, ty, rfl, rfl, F₄, N₄, off₄, hS₄, R₄⟩ := h₅
        have zI := (N₄ (I, oI) List.mem_cons_self).1
        have zC := (N₄ (H2.objs.size, oC) (List.mem_cons_of_mem _ List.mem_cons_self)).1
        have zD := (N₄ (s₂.heap.objs.size, oD) (List.mem_cons_of_mem _ (List.mem_cons_of_mem _ List.mem_cons_self))).1
        have N₄' : News h₀ L h₄ news₄ := fun p hp => N₄ p (List.mem_cons_of_mem _ (List.mem_cons_of_mem _ (List.mem_cons_of_mem _ hp)))
        have hst₄ : St (i + 1) h₄ := hSt _ _ _ _ _ hst₃ heI zI F₄.keep N₄' hS₄
        refine wpAny_dictSet_pairs (k := y) (kvs := kvs) (hsz := Nat.le_trans hsz (by rw [sizeLine_eq]; decide)) (strKind_is _ _ _ _) (Heap.dictOf_iff.mpr ⟨oD, zD, hdD⟩) fun h₅ hl₅ hs₅ => ?_
        obtain ⟨oD', zD', hdD'⟩ := Heap.dictOf_iff.mp hl₅
        have off4 := off₄.mem
        refine ⟨n + 1 - (i + 1), by lia, h₅, _, i + 1, stored kvs y vv, oD', _, news₄, rfl, hlt, rfl, W.frame _ _ _ hst₄ fun b hb o e => hs₅.extBut b o (fun q => hDf (q ▸ hb)) e, F₄.change hs₅ hDL hD₀,
          (hoC.ns zC).sameBut hs₅ (Ne.symm hDC), hdD', fun p hp => ?_, off₄, hS₄, ?_⟩
        · rcases List.mem_cons.mp hp with rfl | hp
          · exact ⟨zD', hDL, hD₀⟩
          · exact ⟨hs₅.extBut _ _ (off4 p hp).2.2 (N₄' p hp).1, (N₄' p hp).2⟩
        · rw [show n - (i + 1) = j by lia]
          exact R₄
      · obtain rfl : i = n := Nat.le_antisymm hi (Nat.not_lt.mp hlt)
        rw [Nat.sub_self] at R'
        refine W.done _ _ _ hst' fun h₂ tk₂ hk₂ => ?_
        have off3 := off'.mem
        exact hRR _ oD _ h₂ tk₂ _ kvs news' (fr_but F' hk₂ hIL hI₀) hdD (news_but N' hk₂ fun p hp => by
          rcases List.mem_cons.mp hp with rfl | hp
          · exact Ne.symm hDI
          · exact (off3 p hp).1) off'.one (hn'.at' fun o e => hk₂ _ o (by simpa using Ne.symm hCI) e) hC₀ hD₀ hCL hDL (Ne.symm hDC) (fun p hp => (off3 p hp).2.1) hmod R'
    · rcases List.mem_cons.mp hp with rfl | hp
      · exact ⟨hacc, hDL, hD₀⟩
      · exact ⟨old _ _ (N p hp).1, (N p hp).2⟩
  exact codeAny_compStart_dict (loop _ rfl) (W.self 0 _ _ _ hst₁ (loop _ rfl))
noncomputable def FinD (prog : Program) (w : World) (h₀ : Heap) (L : Addr) (m : Str → Option Value) (s : Shared) (Q : Value → Shared → Prop) (kvs : List (Str × Value)) (news : Led) : Prop :=
  ∀ D oD h tk, Fr h₀ L h m → oD.IsDictOf (strKind prog w) kvs → News h₀ L h ((D, oD) :: news) → Off1 D news → (sysModules < h₀.objs.size → (D == sysModules) = false) → Q (.ref D) { s with heap := h, toks := tk }
noncomputable def DSrc (prog : Program) (w : World) (A : Around) (h₀ : Heap) (L : Addr) (m : Str → Option Value) (env : Env) (kx vx : Expr) (x : Str) (scope : Scope) (cl : List (Str × Addr)) (Q : Value → Shared → Prop) (xv : Value) (s₁ : Shared) : Prop :=
  ∃ d od kvs news, xv = .ref d ∧ A.handled = none ∧ Fr h₀ L s₁.heap m ∧ News h₀ L s₁.heap news ∧ (d, od) ∈ news ∧ od.IsDictOf (strKind prog w) kvs ∧ (d == sysModules) = false ∧
    ∀ g, DRest prog w A h₀ L m env kx vx x scope cl { s₁ with heap := g } (fun nw => (d, od) ∈ nw) (fun i v => ∃ k z, kvs[i]? = some (k, z) ∧ (strKind prog w).is k v = true) (FinD prog w h₀ L m { s₁ with heap := g } Q) kvs.length 0 [] news
theorem DSrc.intro {kx vx : Expr} {x : Str} {scope : Scope} {cl : List (Str × Addr)} {Q : Value → Shared → Prop} {d : Addr} {od : Obj} {kvs : List (Str × Value)} {news : Led} {s₁ : Shared}
    (hh : A.handled = none) (F : Fr h₀ L s₁.heap m) (N : News h₀ L s₁.heap news) (hd : od.IsDictOf (strKind prog w) kvs) (hm : (d, od) ∈ news) (lo : (d == sysModules) = false)
    (h : ∀ g, DRest prog w A h₀ L m env kx vx x scope cl { s₁ with heap := g } (fun nw => (d, od) ∈ nw) (fun i v => ∃ k z, kvs[i]? = some (k, z) ∧ (strKind prog w).is k v = true) (FinD prog w h₀ L m { s₁ with heap := g } Q) kvs.length 0 [] news) :
    DSrc prog w A h₀ L m env kx vx x scope cl Q (.ref d) s₁ := ⟨d, od, kvs, news, rfl, hh, F, N, hm, hd, lo, h⟩
theorem DictComp_U {kx vx iter : Expr} {x : Str} {px : Pos} {scope : Scope} {cl : List (Str × Addr)} {pos : Pos} {Q : Value → Shared → Prop} (F₀ : Fr h₀ L s.heap m)
    (hclos : closureFor scope env = pure cl) (hcell : ∀ y ∈ scope.names, y.2 ≠ .cell) (hkind : scope.kind = .function)
    (hnames : ∀ y ∈ scope.names, y.2 = .local → scope.names.lookup y.1 = some .local) (hx : scope.names.lookup x = some .local)
    (h : wpAny (model prog w) A (eval iter env) (DSrc prog w A h₀ L m env kx vx x scope cl Q) E s)
    (hs : ∀ x, foldedSetIterable iter env x = pure x := by intro _; rfl) :
    wpAny (model prog w) A (eval (.DictComp kx vx [⟨.Name x px, iter, [], 0⟩] scope pos) env) Q E s := by
  rw [arm_eval_DictComp]
  refine wpAny_comprehension_free (use := none) rfl hs hclos hkind hnames (wpAny_mono h (fun xv s₁ h₁ => ?_) fun _ _ e => e)
  obtain ⟨d, od, kvs, news, rfl, hh, F, N, hm, hd, lo, R⟩ := h₁
  obtain ⟨ep, ha⟩ := KdkAt.of hd
  have hat := ha.dictAt (N _ hm).1
  have hlt : d < s₁.heap.objs.size := Heap.lt_size (N _ hm).1
  refine wpAny_pyIter_dict lo hat ?_
  have up : ∀ b o, s₁.heap.get? b = some o → (s₁.heap.push { cls := .type "dict_keyiterator", data := .fields #[.ref d, .int 0 0, .int kvs.length 0, .int ep 0] }).get? b = some o := fun b o e => Heap.get?_push_of_some _ e
  refine block_D (Walks.dictKeys hh s₁.heap.objs.size d (Nat.ne_of_lt hlt) kvs ep) (fun i h st => by obtain ⟨o, e, _⟩ := st.1; exact ⟨o, e⟩)
    (fun i h h' o nw st e e' _ N' hS => ⟨by obtain ⟨o', q, r⟩ := st.1; rw [e] at q; cases q; exact ⟨o, e', r⟩, ha.dictAt (N' _ hS).1⟩) hcell hkind hx ⟨⟨_, Heap.get?_push_size _ rfl, rfl, rfl⟩, hat.push _⟩ (fun b hb => ?_)
    (F.keeps up) (N.grown up) (Nat.ne_of_lt F.ns.lt) (next_is_new F) (fun p hp => Nat.ne_of_lt (Heap.lt_size (N p hp).1)) hm (R _) ?_
  · show b < (s₁.heap.push _).objs.size
    rw [Heap.size_push]
    rcases List.mem_cons.mp hb with rfl | hb
    · exact Nat.lt_succ_self _
    · rw [List.mem_singleton.mp hb]; exact Nat.lt_succ_of_lt hlt
  · intro D oD C h' tk m' kvs' news' F' hd' N' o1 hn hC₀ hD₀ hCL hDL hCD offC hmod fin
    refine ⟨m', hn, fun h'' hs'' => fin D oD h'' tk (F'.change hs'' hCL hC₀) hd' (fun p hp => ?_) o1 hmod⟩
    refine ⟨hs''.extBut _ _ ?_ (N' p hp).1, (N' p hp).2⟩
    rcases List.mem_cons.mp hp with rfl | hp
    · exact Ne.symm hCD
    · exact offC p hp
end
abbrev tupO (k : Value) (q : Addr) : Obj := { cls := .type "tuple", data := .seq #[k, .ref q] 0 }
theorem seen_end {h₀ : Heap} {L : Addr} {m : Str → Option Value} {s₁ : Shared} {I : Addr} {oI : Obj} {C : Addr} {oC : Obj} {D : Addr} {oD : Obj} {S : Led → Prop} {Next : Str → Value → Led → Prop} {y : Str} {t : Tok} {h' : Heap} {tk' : Nat} {u q : Addr} {o1 : Obj} {o2 : Obj} {news : Led}
    (F : Fr h₀ L h' m) (N : News h₀ L h' ((u, o1) :: (q, o2) :: (I, oI) :: (C, oC) :: (D, oD) :: news)) (hu : AllLt u ((q, o2) :: (I, oI) :: (C, oC) :: (D, oD) :: news)) (hq : AllLt q ((I, oI) :: (C, oC) :: (D, oD) :: news)) (off : Off3 I C D news)
    (hS : S ((u, o1) :: (q, o2) :: news)) (hn : Next y (.ref u) ((u, o1) :: (q, o2) :: news)) : DEnd h₀ L m s₁ I oI C oC D oD S Next (.str y t) (.ref u) { s₁ with heap := h', toks := tk' } := by
  have hu' : (q < u) ∧ (I < u) ∧ (C < u) ∧ (D < u) ∧ AllLt u news := hu
  have hq' : (I < q) ∧ (C < q) ∧ (D < q) ∧ AllLt q news := hq
  refine DEnd.mk ((u, o1) :: (q, o2) :: news) F N (fun p hp => ?_) ⟨⟨ne_gt hu'.2.1, ne_gt hu'.2.2.1, ne_gt hu'.2.2.2.1⟩, ⟨ne_gt hq'.1, ne_gt hq'.2.1, ne_gt hq'.2.2.1⟩, off⟩ hS hn
  simp only [List.mem_cons] at hp ⊢
  rcases hp with h | h | h | h | h | h <;> simp [h]
end
theorem off_at {d a : Addr} {o : Obj} {l : Led} (h : OffD d l) (hm : (a, o) ∈ l) : a ≠ d := off1_ne h _ hm
theorem off_at' {d a : Addr} {o : Obj} {l : Led} (h : OffD d l) (hm : (a, o) ∈ l) : d ≠ a := Ne.symm (off1_ne h _ hm)
theorem lt_at {d a : Addr} {o : Obj} {l : Led} (h : AllLt d l) (hm : (a, o) ∈ l) : a ≠ d := allLt_ne h _ hm
theorem lt_at' {d a : Addr} {o : Obj} {l : Led} (h : AllLt d l) (hm : (a, o) ∈ l) : d ≠ a := Ne.symm (allLt_ne h _ hm)
theorem fa_nil {d : Addr} : ∀ p ∈ ([] : Led), p.1 ≠ d := fun _ h => nomatch h
theorem fa_cons {d a : Addr} {o : Obj} {l : Led} (h : a ≠ d) (h' : ∀ p ∈ l, p.1 ≠ d) : ∀ p ∈ (a, o) :: l, p.1 ≠ d := fun p hp => by
  rcases List.mem_cons.mp hp with rfl | hp
  · exact h
  · exact h' p hp
theorem sb_nil {l : Led} : ∀ p ∈ ([] : Led), p ∈ l := fun _ h => nomatch h
theorem sb_cons {x : Addr × Obj} {l l' : Led} (h : x ∈ l') (h' : ∀ p ∈ l, p ∈ l') : ∀ p ∈ x :: l, p ∈ l' := fun p hp => by
  rcases List.mem_cons.mp hp with rfl | hp
  · exact h
  · exact h' p hp
theorem sb_refl {l : Led} : ∀ p ∈ l, p ∈ l := fun _ h => h
theorem sb_tail {x : Addr × Obj} {l l' : Led} (h : ∀ p ∈ l, p ∈ l') : ∀ p ∈ l, p ∈ x :: l' := fun p hp => .tail _ (h p hp)
theorem m0 {α : Type} {a : α} {l : List α} : a ∈ a :: l := .head _
theorem memL {α : Type} {a : α} {l : List α} (h : List.Mem a l) : a ∈ l := h
theorem mtl {α : Type} {a b : α} {l : List α} (h : a ∈ l) : a ∈ b :: l := .tail _ h
theorem m1 {α : Type} {a b : α} {l : List α} : a ∈ b :: a :: l := .tail _ (.head _)
theorem m2 {α : Type} {a b c : α} {l : List α} : a ∈ b :: c :: a :: l := .tail _ m1
theorem m3 {α : Type} {a b c d : α} {l : List α} : a ∈ b :: c :: d :: a :: l := .tail _ m2
theorem m4 {α : Type} {a b c d e : α} {l : List α} : a ∈ b :: c :: d :: e :: a :: l := .tail _ m3
theorem m5 {α : Type} {a b c d e f : α} {l : List α} : a ∈ b :: c :: d :: e :: f :: a :: l := .tail _ m4
theorem m6s {α : Type} {a b c d e f g : α} {l : List α} (h : a ∈ l) : a ∈ b :: c :: d :: e :: f :: g :: l := .tail _ (.tail _ (.tail _ (.tail _ (.tail _ (.tail _ h)))))
theorem m3s {α : Type} {a b c d : α} {l : List α} (h : a ∈ l) : a ∈ b :: c :: d :: l := .tail _ (.tail _ (.tail _ h))
theorem one_more {h₀ h : Heap} {L : Addr} {l : Led} {p : Addr × Obj} (N : News h₀ L h l) (hp : p ∈ l) : News h₀ L h (p :: l) := fun r hr => by
  rcases List.mem_cons.mp hr with rfl | hr
  · exact N _ hp
  · exact N _ hr
set_option maxRecDepth 100000
local macro_rules | `(tactic| k_mem) => `(tactic| k_extra "k_mem")
local macro_rules | `(tactic| k_memK) => `(tactic| k_extra "k_memK")
local macro_rules | `(tactic| k_ne) => `(tactic| k_extra "k_ne")
local macro_rules | `(tactic| k_all) => `(tactic| k_extra "k_all")
local macro_rules | `(tactic| k_room) => `(tactic| k_extra "k_room")
local macro_rules | `(tactic| k_units) => `(tactic| k_extra "k_units")
local macro_rules | `(tactic| units_room) => `(tactic| k_extra "units_room")
local macro_rules | `(tactic| k_qdec) => `(tactic| k_extra "k_qdec")
local macro_rules | `(tactic| walk_at $s:str) => `(tactic| k_extra $s)
theorem words_B1 : True := by
  k_with_none
  k_with "call builtin:list.pop" => (k_here; k_dflt (refine' kl_pop ?zqF ?zqN (kl_last_snoc _ _) ?zqU ?zqZ ?_; (case zqF => k_asm); (case zqN => k_asm); (case zqU => k_upd); (case zqZ => (simp only [sizeLine_eq]; simp only [List.length_append, List.length_singleton]; lia)); k_whole; intro h' F' N'))
  k_with "CompSrc" => (refine Stop.mk ?_)
  k_with "eval ListComp" => (k_here; k_dflt (refine LCg.ListComp_U (F₀ := by k_asm) (by with_unfolding_all rfl) (by decide) (by rfl) (by decide) (by rfl) ?_))
  k_with "sel" => first | exact Sel.nil | (refine' Sel.cons ?zqsl1 ?zqsl2; (case zqsl1 => walk_at "rem"); (case zqsl2 => walk_at "sel"))
  k_with "rem" => first | exact Rem.head | (refine' Rem.tail ?zqrm1; (case zqrm1 => walk_at "rem"))
  k_with "apart" => first | exact List.forall_mem_nil _ | (refine List.forall_mem_cons.mpr ⟨by k_all, ?_⟩; walk_at "apart")
  k_with "CompEnd" => (refine Stop.mk ?_)
  k_with "call builtin:str.join" => (k_here; k_dflt (refine join_led (by k_asm) (by k_mem) (by first | assumption | walk_at "strs") (by first | assumption | decide +kernel) (by first | assumption | walk_at "joinsum") ?_); intro _ _)
  k_with "led" => ((try dsimp only); (try simp only [List.cons_append, List.nil_append]); kcf_all)
  k_with "pyIter ref" => (k_here; refine Stop.mk ?_)
  k_with "exec For" => (k_here; k_dflt (refine For_invVF (by k_asm) (by rfl) (by rfl) ?_))
  k_with "kept" => (intro z9 h91 h92 h93; (try simp only [List.contains_cons, List.contains_nil, Bool.or_false, Bool.or_eq_false_iff, beq_eq_false_iff_ne, ne_eq] at h93); simp [lmap, kstB, h91, h93])
  k_with "held" => first | exact List.forall_mem_nil _ | (refine List.forall_mem_cons.mpr ⟨rfl, ?_⟩; walk_at "held")
  k_with "call builtin:list.append" => (k_here; k_dflt (refine' append_K ?zqk1 ?zqk2 ?zqk3 ?_ ?zqz; (case zqk1 => k_asm); (case zqk2 => k_asm); (case zqk3 => k_upd); (case zqz => first | (simp only [List.size_toArray, sizeLine_eq, List.length_append, List.length_singleton]; lia) | (simp only [List.size_toArray, sizeLine_eq, List.length_append, List.length_singleton]; refine Nat.le_trans (Nat.add_le_add_right (kpick_len _ _ _) _) ?_; lia)); k_whole); intro h' F' N'; (try simp only [List.push_toArray] at N'); (try k_sweep))
  k_with "call builtin:list.reverse" => (k_here; k_dflt (refine' kl_reverse ?zqF ?zqN ?zqe ?zqU ?zqz ?_; (case zqF => k_asm); (case zqN => k_asm); (case zqU => k_upd); (case zqe => exact (rfl : _ = List.reverse _)); (case zqz => (show List.length _ ≤ _; rw [IntsAre.length (by assumption)]; simp only [sizeLine_eq]; lia)); k_whole); intro h' F' N')
  k_with "below" => ((try simp only [List.cons_append, List.nil_append, AllLt, and_true]); first | assumption | exact allLt_iff.mpr (by assumption) | exact And.right (by assumption) | exact And.right (And.right (by assumption)) | exact And.right (And.right (And.right (by assumption))) | exact And.right (And.right (And.right (And.right (by assumption)))))
  k_with "exec For Name Name cons nil" => (k_here; k_dflt (refine For_invVF (by k_asm) (by rfl) (by rfl) ?_))
  k_with "exec For Name Name" => (k_here; k_dflt (refine For_invVF (by k_asm) (by rfl) (by rfl) ?_))
  k_with "exec For Name Call cons nil" => (k_here; k_dflt (refine For_invVF (by k_asm) (by rfl) (by rfl) ?_))
  k_with "exec For Name Call" => (k_here; k_dflt (refine For_invVF (by k_asm) (by rfl) (by rfl) ?_))
  k_with "exec For Name Attribute cons nil" => (k_here; k_dflt (refine For_invVF (by k_asm) (by rfl) (by rfl) ?_))
  k_with "exec For Name Attribute" => (k_here; k_dflt (refine For_invVF (by k_asm) (by rfl) (by rfl) ?_))
  k_with "exec For Name Subscript cons nil" => (k_here; k_dflt (refine For_invVF (by k_asm) (by rfl) (by rfl) ?_))
  k_with "exec For Name Subscript" => (k_here; k_dflt (refine For_invVF (by k_asm) (by rfl) (by rfl) ?_))
  k_with "exec For Name List cons nil" => (k_here; k_dflt (refine For_invVF (by k_asm) (by rfl) (by rfl) ?_))
  k_with "exec For Name List" => (k_here; k_dflt (refine For_invVF (by k_asm) (by rfl) (by rfl) ?_))
  k_with "call builtin:len" => (k_here; k_dflt (first | (refine P.len_str (by lia) ?_) | (refine len_led (by k_asm) (by k_mem) (by lia) ?_)))
  k_with "call builtin:str.rjust" => (k_here; k_dflt (refine SC.rjust (padOk_of (by lia) (by lia)) ?_); intro _ _)
  k_with "call builtin:str.ljust" => (k_here; k_dflt (refine SC.ljust (padOk_of (by lia) (by lia)) ?_); intro _ _)
  k_with "srcat" => exact Or.inr ⟨_, by k_mem, rfl, _, rfl⟩
  k_with "FinE" => ((unfold LCg.FinE); intro D' h' tk' F' N' o1'; (replace o1' := offD_of o1'); (try simp only [OffD, and_true] at o1'); (repeat (obtain ⟨o2', o1'⟩ := o1')); (try simp only [List.nil_append, List.cons_append] at N'); (try dsimp only))
  k_with "fresh" => ((simp only [FreshOver, OffD, List.nil_append, List.cons_append, and_true]); (repeat' (refine And.intro ?_ ?_)); all_goals first | assumption | exact Dist.symm (by assumption) | exact lt_off (by assumption) | exact allLt_off (by assumption) | exact allLt_off (And.right (by assumption)) | exact allLt_off (And.right (And.right (by assumption))) | exact allLt_off (And.right (And.right (And.right (by assumption)))) | exact Dist.of (by lia))
  k_with "subscriptTail" => (k_here; (with_reducible show wpAny _ _ (subscriptTail _ _ (Value.ref _) (Value.int _ _)) _ _ _); k_dflt (refine item_led (by k_asm) (by k_mem) (by lia) (by lia) (by assumption) ?_))
  k_with "binaryOp Add str str" => (k_here; (with_reducible show wpAny _ _ (binaryOp Operator.Add (Value.str _ _) (Value.str _ _)) _ _ _); (refine PyProof.Rows.add_str (hsz := ?zqhz9) ?_); (case zqhz9 => first | (simp only [Str.length_append, sizeLine_eq]; lia) | walk_at "addlen"); intro _ _)
  k_with "subscriptTail Name Name ref int" => (k_here; k_dflt (refine item_led (by k_asm) (by k_mem) (by lia) (by lia) (by assumption) ?_))
  k_with "call builtin:max" => (k_here; k_dflt (refine max_ints rfl (by k_asm) (by k_asm) ?_); intro h' tk' t' F' N'; (try k_sweep))
  k_with "call type:range" => (k_here; (with_reducible show wpAny _ _ (call _ [_, _, _]) _ _ _); k_dflt (refine range3_rows (by k_asm) (by k_asm) (by lia) ?_ (Or.inl (PyProof.noPylong_small (by lia)))); intro h' tk' t₁ u₁ v₁ r' F' N' k')
  k_with "FinA" => ((unfold LCg.FinA); intro D' h' tk' F' N' o1'; (replace o1' := offD_of o1'); (try simp only [OffD, and_true] at o1'); (repeat (obtain ⟨o2', o1'⟩ := o1')); (try simp only [List.nil_append, List.cons_append] at N'); (try dsimp only))
  k_with "exec Assign cons ListComp" => (k_here; k_dflt (refine LCg.Assign_ListComp_U (F₀ := by k_asm) (by rfl) (by with_unfolding_all rfl) (by with_unfolding_all rfl) (by decide) (by rfl) (by decide) (by rfl) (by rfl) (by rfl) ?_))
  k_with "ite" => (refine ite_strs ?_)
  k_with "units_room" => (((try simp only [units_under_make, units_in1, units_deeper, Around.mark_units, units_caller]); (try dsimp only [ktrTop]); (try simp only [units_under_make, units_in1, units_deeper, Around.mark_units, units_caller]); lia))
  k_with "k_room" => (((try simp only [depth_under_make, depth_under_kw, depth_in1, depth_deeper, depth_caller]); (try dsimp only [ktrTop]); lia))
  k_with "k_units" => (units_room)
  k_with "k_all" => (first | assumption | exact off1_ne (by assumption) | exact off1_ne (off3_I (by assumption)) | exact off1_ne (off3_C (by assumption)) | exact off1_ne (off3_D (by assumption)) | exact lt_ne (by assumption) | exact allLt_ne (by assumption) | exact allLt_ne (And.right (by assumption)) | exact allLt_ne (And.right (And.right (by assumption))) | exact allLt_ne (And.right (And.right (And.right (by assumption)))))
  k_with "k_ne" => (first | exact Dist.ne (by assumption) | exact Dist.ne (Dist.symm (by assumption)))
  trivial

set_option maxRecDepth 100000 in
set_option maxHeartbeats 8000000 in
theorem next_calls (w : World) {r : Addr} {vs : List Value} {q : List Int} {n : Nat} (hi : IntsAre vs q.reverse) (hlen : q.length ≤ 1000) :
    Calls w 307 [.ref r] 1 80 [(r, listOf vs.toArray n)] [r] (fun v new pre' => new = [] ∧ ∃ vs' n' t, v = .int (q.headD 0) t ∧ pre' = [(r, listOf vs'.toArray n')] ∧ IntsAre vs' q.tail.reverse) := by
  unfold Calls
  intro dp un gd cn cs a ccd cl outer A₀ base h₀ L m s loose mean mg mb news Q E B F X N T hk hd hu hm ret
  cases cs; cases hk
  have hap := hm r (.head _)
  simp only [List.cons_append, List.nil_append] at N
  cases q with
  | nil =>
    obtain rfl := intsAre_nil hi
    refine wpAny_call ?_
    k_dflt k_enter
    k_steps
    exact ret _ [] [(r, listOf #[] n)] _ _ ⟨rfl, _, _, _, rfl, rfl, .nil⟩ trivial (by k_asm) (news_iff (by k_asm) (by walk_at "led"))
  | cons k q =>
    rw [List.reverse_cons] at hi
    have hlen' := hi.length
    obtain ⟨us, t, rfl, hi'⟩ := intsAre_snoc hi
    simp only [List.length_append, List.length_reverse, List.length_cons, List.length_nil] at hlen' hlen
    refine wpAny_call ?_
    k_dflt k_enter
    k_steps
    · simp_all
    · exact ret _ [] [(r, listOf us.toArray (n+1))] _ _ ⟨rfl, _, _, _, rfl, rfl, hi'⟩ trivial (by k_asm) (news_iff (by k_asm) (by walk_at "led"))
theorem words_B2 : True := by
  k_with_none
  k_with "call builtin:list.pop" => (k_here; k_dflt (refine' kl_pop ?zqF ?zqN (kl_last_snoc _ _) ?zqU ?zqZ ?_; (case zqF => k_asm); (case zqN => k_asm); (case zqU => k_upd); (case zqZ => (simp only [sizeLine_eq]; simp only [List.length_append, List.length_singleton]; lia)); k_whole; intro h' F' N'))
  k_with "CompSrc" => (refine Stop.mk ?_)
  k_with "eval ListComp" => (k_here; k_dflt (refine LCg.ListComp_U (F₀ := by k_asm) (by with_unfolding_all rfl) (by decide) (by rfl) (by decide) (by rfl) ?_))
  k_with "sel" => first | exact Sel.nil | (refine' Sel.cons ?zqsl1 ?zqsl2; (case zqsl1 => walk_at "rem"); (case zqsl2 => walk_at "sel"))
  k_with "rem" => first | exact Rem.head | (refine' Rem.tail ?zqrm1; (case zqrm1 => walk_at "rem"))
  k_with "apart" => first | exact List.forall_mem_nil _ | (refine List.forall_mem_cons.mpr ⟨by k_all, ?_⟩; walk_at "apart")
  k_with "CompEnd" => (refine Stop.mk ?_)
  k_with "call builtin:str.join" => (k_here; k_dflt (refine join_led (by k_asm) (by k_mem) (by first | assumption | walk_at "strs") (by first | assumption | decide +kernel) (by first | assumption | walk_at "joinsum") ?_); intro _ _)
  k_with "led" => ((try dsimp only); (try simp only [List.cons_append, List.nil_append]); kcf_all)
  k_with "pyIter ref" => (k_here; refine Stop.mk ?_)
  k_with "exec For" => (k_here; k_dflt (refine For_invVF (by k_asm) (by rfl) (by rfl) ?_))
  k_with "kept" => (intro z9 h91 h92 h93; (try simp only [List.contains_cons, List.contains_nil, Bool.or_false, Bool.or_eq_false_iff, beq_eq_false_iff_ne, ne_eq] at h93); simp [lmap, kstB, h91, h93])
  k_with "held" => first | exact List.forall_mem_nil _ | (refine List.forall_mem_cons.mpr ⟨rfl, ?_⟩; walk_at "held")
  k_with "call builtin:list.append" => (k_here; k_dflt (refine' append_K ?zqk1 ?zqk2 ?zqk3 ?_ ?zqz; (case zqk1 => k_asm); (case zqk2 => k_asm); (case zqk3 => k_upd); (case zqz => first | (simp only [List.size_toArray, sizeLine_eq, List.length_append, List.length_singleton]; lia) | (simp only [List.size_toArray, sizeLine_eq, List.length_append, List.length_singleton]; refine Nat.le_trans (Nat.add_le_add_right (kpick_len _ _ _) _) ?_; lia)); k_whole); intro h' F' N'; (try simp only [List.push_toArray] at N'); (try k_sweep))
  k_with "call builtin:list.reverse" => (k_here; k_dflt (refine' kl_reverse ?zqF ?zqN ?zqe ?zqU ?zqz ?_; (case zqF => k_asm); (case zqN => k_asm); (case zqU => k_upd); (case zqe => exact (rfl : _ = List.reverse _)); (case zqz => (show List.length _ ≤ _; rw [IntsAre.length (by assumption)]; simp only [sizeLine_eq]; lia)); k_whole); intro h' F' N')
  k_with "below" => ((try simp only [List.cons_append, List.nil_append, AllLt, and_true]); first | assumption | exact allLt_iff.mpr (by assumption) | exact And.right (by assumption) | exact And.right (And.right (by assumption)) | exact And.right (And.right (And.right (by assumption))) | exact And.right (And.right (And.right (And.right (by assumption)))))
  k_with "exec For Name Name cons nil" => (k_here; k_dflt (refine For_invVF (by k_asm) (by rfl) (by rfl) ?_))
  k_with "exec For Name Name" => (k_here; k_dflt (refine For_invVF (by k_asm) (by rfl) (by rfl) ?_))
  k_with "exec For Name Call cons nil" => (k_here; k_dflt (refine For_invVF (by k_asm) (by rfl) (by rfl) ?_))
  k_with "exec For Name Call" => (k_here; k_dflt (refine For_invVF (by k_asm) (by rfl) (by rfl) ?_))
  k_with "exec For Name Attribute cons nil" => (k_here; k_dflt (refine For_invVF (by k_asm) (by rfl) (by rfl) ?_))
  k_with "exec For Name Attribute" => (k_here; k_dflt (refine For_invVF (by k_asm) (by rfl) (by rfl) ?_))
  k_with "exec For Name Subscript cons nil" => (k_here; k_dflt (refine For_invVF (by k_asm) (by rfl) (by rfl) ?_))
  k_with "exec For Name Subscript" => (k_here; k_dflt (refine For_invVF (by k_asm) (by rfl) (by rfl) ?_))
  k_with "exec For Name List cons nil" => (k_here; k_dflt (refine For_invVF (by k_asm) (by rfl) (by rfl) ?_))
  k_with "exec For Name List" => (k_here; k_dflt (refine For_invVF (by k_asm) (by rfl) (by rfl) ?_))
  k_with "call builtin:len" => (k_here; k_dflt (first | (refine P.len_str (by lia) ?_) | (refine len_led (by k_asm) (by k_mem) (by lia) ?_)))
  k_with "call builtin:str.rjust" => (k_here; k_dflt (refine SC.rjust (padOk_of (by lia) (by lia)) ?_); intro _ _)
  k_with "call builtin:str.ljust" => (k_here; k_dflt (refine SC.ljust (padOk_of (by lia) (by lia)) ?_); intro _ _)
  k_with "srcat" => exact Or.inr ⟨_, by k_mem, rfl, _, rfl⟩
  k_with "FinE" => ((unfold LCg.FinE); intro D' h' tk' F' N' o1'; (replace o1' := offD_of o1'); (try simp only [OffD, and_true] at o1'); (repeat (obtain ⟨o2', o1'⟩ := o1')); (try simp only [List.nil_append, List.cons_append] at N'); (try dsimp only))
  k_with "fresh" => ((simp only [FreshOver, OffD, List.nil_append, List.cons_append, and_true]); (repeat' (refine And.intro ?_ ?_)); all_goals first | assumption | exact Dist.symm (by assumption) | exact lt_off (by assumption) | exact allLt_off (by assumption) | exact allLt_off (And.right (by assumption)) | exact allLt_off (And.right (And.right (by assumption))) | exact allLt_off (And.right (And.right (And.right (by assumption)))) | exact Dist.of (by lia))
  k_with "subscriptTail" => (k_here; (with_reducible show wpAny _ _ (subscriptTail _ _ (Value.ref _) (Value.int _ _)) _ _ _); k_dflt (refine item_led (by k_asm) (by k_mem) (by lia) (by lia) (by assumption) ?_))
  k_with "binaryOp Add str str" => (k_here; (with_reducible show wpAny _ _ (binaryOp Operator.Add (Value.str _ _) (Value.str _ _)) _ _ _); (refine PyProof.Rows.add_str (hsz := ?zqhz9) ?_); (case zqhz9 => first | (simp only [Str.length_append, sizeLine_eq]; lia) | walk_at "addlen"); intro _ _)
  k_with "subscriptTail Name Name ref int" => (k_here; k_dflt (refine item_led (by k_asm) (by k_mem) (by lia) (by lia) (by assumption) ?_))
  k_with "call builtin:max" => (k_here; k_dflt (refine max_ints rfl (by k_asm) (by k_asm) ?_); intro h' tk' t' F' N'; (try k_sweep))
  k_with "call type:range" => (k_here; (with_reducible show wpAny _ _ (call _ [_, _, _]) _ _ _); k_dflt (refine range3_rows (by k_asm) (by k_asm) (by lia) ?_ (Or.inl (PyProof.noPylong_small (by lia)))); intro h' tk' t₁ u₁ v₁ r' F' N' k')
  k_with "FinA" => ((unfold LCg.FinA); intro D' h' tk' F' N' o1'; (replace o1' := offD_of o1'); (try simp only [OffD, and_true] at o1'); (repeat (obtain ⟨o2', o1'⟩ := o1')); (try simp only [List.nil_append, List.cons_append] at N'); (try dsimp only))
  k_with "exec Assign cons ListComp" => (k_here; k_dflt (refine LCg.Assign_ListComp_U (F₀ := by k_asm) (by rfl) (by with_unfolding_all rfl) (by with_unfolding_all rfl) (by decide) (by rfl) (by decide) (by rfl) (by rfl) (by rfl) ?_))
  k_with "ite" => (refine ite_strs ?_)
  k_with "units_room" => (((try simp only [units_under_make, units_in1, units_deeper, Around.mark_units, units_caller]); (try dsimp only [ktrTop]); (try simp only [units_under_make, units_in1, units_deeper, Around.mark_units, units_caller]); lia))
  k_with "k_room" => (((try simp only [depth_under_make, depth_under_kw, depth_in1, depth_deeper, depth_caller]); (try dsimp only [ktrTop]); lia))
  k_with "k_units" => (units_room)
  k_with "k_all" => (first | assumption | exact off1_ne (by assumption) | exact off1_ne (off3_I (by assumption)) | exact off1_ne (off3_C (by assumption)) | exact off1_ne (off3_D (by assumption)) | exact lt_ne (by assumption) | exact allLt_ne (by assumption) | exact allLt_ne (And.right (by assumption)) | exact allLt_ne (And.right (And.right (by assumption))) | exact allLt_ne (And.right (And.right (And.right (by assumption)))))
  k_with "k_ne" => (first | exact Dist.ne (by assumption) | exact Dist.ne (Dist.symm (by assumption)))
  k_with "call ref" => (k_here; (with_reducible show wpAny _ _ (call (.ref 307) _) _ _ _); k_dflt (refine Calls.use (by k_asm) (by k_asm) (by k_asm) (by k_asm) (by k_asm) rfl (by walk_at "sel") (next_calls _ (by assumption) (by lia)) (by k_room) (by units_room) (by walk_at "apart") ?_); k_whole; intro v9 nw9 pr9 h' tk' hp9 hf' F' N'; obtain ⟨e91, vs', n', t', e92, e93, hi'⟩ := hp9; subst e91; subst e92; subst e93; (try simp only [List.nil_append, List.cons_append] at N'); (try dsimp only))
  trivial
noncomputable def ltr (x : Int) : Str := ⟨#[(97 + Int.fmod x 26).toNat]⟩
noncomputable def letters (k : Nat) (q : List Int) : List Str := (List.range k).map fun j => ltr ((q.drop j).headD 0)
theorem letters_succ (k : Nat) (q : List Int) : letters (k + 1) q = letters k q ++ [ltr ((q.drop k).headD 0)] := by
  simp [letters, List.range_succ]
theorem fmod7 (x : Int) : 0 ≤ Int.fmod x 7 ∧ Int.fmod x 7 < 7 := ⟨Int.fmod_nonneg_of_pos _ (by decide), Int.fmod_lt_of_pos _ (by decide)⟩
theorem fmod26 (x : Int) : 0 ≤ Int.fmod x 26 ∧ Int.fmod x 26 < 26 := ⟨Int.fmod_nonneg_of_pos _ (by decide), Int.fmod_lt_of_pos _ (by decide)⟩
noncomputable def wlen (q : List Int) : Nat := (1 + Int.fmod (q.headD 0) 7).toNat
noncomputable def wordOf (q : List Int) : Str := Txt.join (Str.ofString "") (letters (wlen q) q.tail)
noncomputable def wordRest (q : List Int) : List Int := q.tail.drop (wlen q)
theorem wlen_le (q : List Int) : wlen q ≤ 7 := by have := fmod7 (q.headD 0); unfold wlen; lia
theorem letters_len (k : Nat) (q : List Int) : (letters k q).length = k := by simp [letters]
theorem letters_sum (k : Nat) (q : List Int) : ((letters k q).map (·.length)).sum = k := by
  induction k with
  | zero => rfl
  | succ k ih => rw [letters_succ, List.map_append, List.sum_append, ih]; rfl
set_option maxRecDepth 100000 in
set_option maxHeartbeats 8000000 in
theorem word_calls (w : World) {r : Addr} {vs : List Value} {q : List Int} {n : Nat} (hi : IntsAre vs q.reverse) (hlen : q.length ≤ 1000) :
    Calls w 317 [.ref r] 2 100 [(r, listOf vs.toArray n)] [r] (fun v new pre' => new = [] ∧ ∃ vs' n' t, v = .str (wordOf q) t ∧ pre' = [(r, listOf vs'.toArray n')] ∧ IntsAre vs' (wordRest q).reverse) := by
  unfold Calls
  intro dp un gd cn cs a ccd cl outer A₀ base h₀ L m s loose mean mg mb news Q E B F X N T hk hd hu hm ret
  cases cs; cases hk
  have hap := hm r (.head _)
  simp only [List.cons_append, List.nil_append] at N
  refine wpAny_call ?_
  k_dflt k_enter
  k_steps
  rename_i l1 oc d1 _ _ _ _ _ _ _ _ _ _ _ _ _ _ _ _ _ _ _ _
  unfold Stop
  have h7 := fmod7 (q.headD 0)
  have hr := range_facts (k := 1 + Int.fmod (q.headD 0) 7) (by lia) (by lia)
  k_dflt (refine LCg.CompSrc.range (n := wlen q) (by rfl) (by k_asm) (by k_asm) (by assumption) hr.1 hr.2 (size_ok (by have := wlen_le q; lia)) ?_)
  intro g
  refine comp_inv (fun c : List Value × Nat => (r, listOf c.1.toArray c.2) :: (_, _) :: news) (fun i ys c => IntsAre c.1 (q.tail.drop i).reverse ∧ StrsAre ys (letters i q.tail)) (_, _) ⟨by simpa using (by assumption), .nil⟩ ?_ ?_
  · rintro i ys ⟨vs', n'⟩ v I oI C oC D m₂ h tk E' hin ⟨hi', hys⟩ hP hoC hx F₁ N₁ hoff hne
    have hoff' := off3_of hoff
    simp only [Off3D] at hoff'
    obtain ⟨h91, h92, h93, h94, h95, h96, h97⟩ := hoff'
    have hlen' : (q.tail.drop i).length ≤ 1000 := by simp; lia
    k_steps
    have e : q.tail.drop (i + 1) = (q.tail.drop i).tail := by simp
    refine compEnd_eq (c := (_, _)) (by rw [e, letters_succ]; exact ⟨by assumption, strsAre_snoc hys⟩) (by assumption) (by k_asm) (by walk_at "led") (by exact hoff) trivial
  · rintro ys ⟨vs', n'⟩ ⟨hi', hys⟩
    have hw : ((letters (wlen q) q.tail).map (·.length)).sum + (letters (wlen q) q.tail).length ≤ 1048576 := by
      rw [letters_sum, letters_len]; have := wlen_le q; lia
    k_steps
    refine ret _ [] [(r, listOf vs'.toArray n')] _ _ ⟨rfl, _, _, _, rfl, rfl, hi'⟩ trivial (by k_asm) (news_iff (by k_asm) (by walk_at "led"))
theorem words_B3 : True := by
  k_with_none
  k_with "call builtin:list.pop" => (k_here; k_dflt (refine' kl_pop ?zqF ?zqN (kl_last_snoc _ _) ?zqU ?zqZ ?_; (case zqF => k_asm); (case zqN => k_asm); (case zqU => k_upd); (case zqZ => (simp only [sizeLine_eq]; simp only [List.length_append, List.length_singleton]; lia)); k_whole; intro h' F' N'))
  k_with "CompSrc" => (refine Stop.mk ?_)
  k_with "eval ListComp" => (k_here; k_dflt (refine LCg.ListComp_U (F₀ := by k_asm) (by with_unfolding_all rfl) (by decide) (by rfl) (by decide) (by rfl) ?_))
  k_with "sel" => first | exact Sel.nil | (refine' Sel.cons ?zqsl1 ?zqsl2; (case zqsl1 => walk_at "rem"); (case zqsl2 => walk_at "sel"))
  k_with "rem" => first | exact Rem.head | (refine' Rem.tail ?zqrm1; (case zqrm1 => walk_at "rem"))
  k_with "apart" => first | exact List.forall_mem_nil _ | (refine List.forall_mem_cons.mpr ⟨by k_all, ?_⟩; walk_at "apart")
  k_with "CompEnd" => (refine Stop.mk ?_)
  k_with "call builtin:str.join" => (k_here; k_dflt (refine join_led (by k_asm) (by k_mem) (by first | assumption | walk_at "strs") (by first | assumption | decide +kernel) (by first | assumption | walk_at "joinsum") ?_); intro _ _)
  k_with "led" => ((try dsimp only); (try simp only [List.cons_append, List.nil_append]); kcf_all)
  k_with "pyIter ref" => (k_here; refine Stop.mk ?_)
  k_with "exec For" => (k_here; k_dflt (refine For_invVF (by k_asm) (by rfl) (by rfl) ?_))
  k_with "kept" => (intro z9 h91 h92 h93; (try simp only [List.contains_cons, List.contains_nil, Bool.or_false, Bool.or_eq_false_iff, beq_eq_false_iff_ne, ne_eq] at h93); simp [lmap, kstB, h91, h93])
  k_with "held" => first | exact List.forall_mem_nil _ | (refine List.forall_mem_cons.mpr ⟨rfl, ?_⟩; walk_at "held")
  k_with "call builtin:list.append" => (k_here; k_dflt (refine' append_K ?zqk1 ?zqk2 ?zqk3 ?_ ?zqz; (case zqk1 => k_asm); (case zqk2 => k_asm); (case zqk3 => k_upd); (case zqz => first | (simp only [List.size_toArray, sizeLine_eq, List.length_append, List.length_singleton]; lia) | (simp only [List.size_toArray, sizeLine_eq, List.length_append, List.length_singleton]; refine Nat.le_trans (Nat.add_le_add_right (kpick_len _ _ _) _) ?_; lia)); k_whole); intro h' F' N'; (try simp only [List.push_toArray] at N'); (try k_sweep))
  k_with "call builtin:list.reverse" => (k_here; k_dflt (refine' kl_reverse ?zqF ?zqN ?zqe ?zqU ?zqz ?_; (case zqF => k_asm); (case zqN => k_asm); (case zqU => k_upd); (case zqe => exact (rfl : _ = List.reverse _)); (case zqz => (show List.length _ ≤ _; rw [IntsAre.length (by assumption)]; simp only [sizeLine_eq]; lia)); k_whole); intro h' F' N')
  k_with "below" => ((try simp only [List.cons_append, List.nil_append, AllLt, and_true]); first | assumption | exact allLt_iff.mpr (by assumption) | exact And.right (by assumption) | exact And.right (And.right (by assumption)) | exact And.right (And.right (And.right (by assumption))) | exact And.right (And.right (And.right (And.right (by assumption)))))
  k_with "exec For Name Name cons nil" => (k_here; k_dflt (refine For_invVF (by k_asm) (by rfl) (by rfl) ?_))
  k_with "exec For Name Name" => (k_here; k_dflt (refine For_invVF (by k_asm) (by rfl) (by rfl) ?_))
  k_with "exec For Name Call cons nil" => (k_here; k_dflt (refine For_invVF (by k_asm) (by rfl) (by rfl) ?_))
  k_with "exec For Name Call" => (k_here; k_dflt (refine For_invVF (by k_asm) (by rfl) (by rfl) ?_))
  k_with "exec For Name Attribute cons nil" => (k_here; k_dflt (refine For_invVF (by k_asm) (by rfl) (by rfl) ?_))
  k_with "exec For Name Attribute" => (k_here; k_dflt (refine For_invVF (by k_asm) (by rfl) (by rfl) ?_))
  k_with "exec For Name Subscript cons nil" => (k_here; k_dflt (refine For_invVF (by k_asm) (by rfl) (by rfl) ?_))
  k_with "exec For Name Subscript" => (k_here; k_dflt (refine For_invVF (by k_asm) (by rfl) (by rfl) ?_))
  k_with "exec For Name List cons nil" => (k_here; k_dflt (refine For_invVF (by k_asm) (by rfl) (by rfl) ?_))
  k_with "exec For Name List" => (k_here; k_dflt (refine For_invVF (by k_asm) (by rfl) (by rfl) ?_))
  k_with "call builtin:len" => (k_here; k_dflt (first | (refine P.len_str (by lia) ?_) | (refine len_led (by k_asm) (by k_mem) (by lia) ?_)))
  k_with "call builtin:str.rjust" => (k_here; k_dflt (refine SC.rjust (padOk_of (by lia) (by lia)) ?_); intro _ _)
  k_with "call builtin:str.ljust" => (k_here; k_dflt (refine SC.ljust (padOk_of (by lia) (by lia)) ?_); intro _ _)
  k_with "srcat" => exact Or.inr ⟨_, by k_mem, rfl, _, rfl⟩
  k_with "FinE" => ((unfold LCg.FinE); intro D' h' tk' F' N' o1'; (replace o1' := offD_of o1'); (try simp only [OffD, and_true] at o1'); (repeat (obtain ⟨o2', o1'⟩ := o1')); (try simp only [List.nil_append, List.cons_append] at N'); (try dsimp only))
  k_with "fresh" => ((simp only [FreshOver, OffD, List.nil_append, List.cons_append, and_true]); (repeat' (refine And.intro ?_ ?_)); all_goals first | assumption | exact Dist.symm (by assumption) | exact lt_off (by assumption) | exact allLt_off (by assumption) | exact allLt_off (And.right (by assumption)) | exact allLt_off (And.right (And.right (by assumption))) | exact allLt_off (And.right (And.right (And.right (by assumption)))) | exact Dist.of (by lia))
  k_with "subscriptTail" => (k_here; (with_reducible show wpAny _ _ (subscriptTail _ _ (Value.ref _) (Value.int _ _)) _ _ _); k_dflt (refine item_led (by k_asm) (by k_mem) (by lia) (by lia) (by assumption) ?_))
  k_with "binaryOp Add str str" => (k_here; (with_reducible show wpAny _ _ (binaryOp Operator.Add (Value.str _ _) (Value.str _ _)) _ _ _); (refine PyProof.Rows.add_str (hsz := ?zqhz9) ?_); (case zqhz9 => first | (simp only [Str.length_append, sizeLine_eq]; lia) | walk_at "addlen"); intro _ _)
  k_with "subscriptTail Name Name ref int" => (k_here; k_dflt (refine item_led (by k_asm) (by k_mem) (by lia) (by lia) (by assumption) ?_))
  k_with "call builtin:max" => (k_here; k_dflt (refine max_ints rfl (by k_asm) (by k_asm) ?_); intro h' tk' t' F' N'; (try k_sweep))
  k_with "call type:range" => (k_here; (with_reducible show wpAny _ _ (call _ [_, _, _]) _ _ _); k_dflt (refine range3_rows (by k_asm) (by k_asm) (by lia) ?_ (Or.inl (PyProof.noPylong_small (by lia)))); intro h' tk' t₁ u₁ v₁ r' F' N' k')
  k_with "FinA" => ((unfold LCg.FinA); intro D' h' tk' F' N' o1'; (replace o1' := offD_of o1'); (try simp only [OffD, and_true] at o1'); (repeat (obtain ⟨o2', o1'⟩ := o1')); (try simp only [List.nil_append, List.cons_append] at N'); (try dsimp only))
  k_with "exec Assign cons ListComp" => (k_here; k_dflt (refine LCg.Assign_ListComp_U (F₀ := by k_asm) (by rfl) (by with_unfolding_all rfl) (by with_unfolding_all rfl) (by decide) (by rfl) (by decide) (by rfl) (by rfl) (by rfl) ?_))
  k_with "ite" => (refine ite_strs ?_)
  k_with "units_room" => (((try simp only [units_under_make, units_in1, units_deeper, Around.mark_units, units_caller]); (try dsimp only [ktrTop]); (try simp only [units_under_make, units_in1, units_deeper, Around.mark_units, units_caller]); lia))
  k_with "k_room" => (((try simp only [depth_under_make, depth_under_kw, depth_in1, depth_deeper, depth_caller]); (try dsimp only [ktrTop]); lia))
  k_with "k_units" => (units_room)
  k_with "k_all" => (first | assumption | exact off1_ne (by assumption) | exact off1_ne (off3_I (by assumption)) | exact off1_ne (off3_C (by assumption)) | exact off1_ne (off3_D (by assumption)) | exact lt_ne (by assumption) | exact allLt_ne (by assumption) | exact allLt_ne (And.right (by assumption)) | exact allLt_ne (And.right (And.right (by assumption))) | exact allLt_ne (And.right (And.right (And.right (by assumption)))))
  k_with "k_ne" => (first | exact Dist.ne (by assumption) | exact Dist.ne (Dist.symm (by assumption)))
  trivial
set_option maxRecDepth 100000 in
set_option maxHeartbeats 8000000 in
theorem lawrow_calls (w : World) (dp un : Nat) (gd : Option (List Code)) (cn : Str) (cs : Scope) (a : Addr) (ccd : Value) (cl : List (Str × Addr)) (outer : List Env) (A₀ : Around) (base h₀ : Heap) (L : Addr) (m : Str → Option Value) (s : Shared)
    (loose : List Str) (mean : ExcName → Option Value) (mg mb : Str → Option Value) (news : Led) (Q E : Value → Shared → Prop)
    (l : Addr) (vs : List Value) (ns : List Int)
    (F : Fr h₀ L s.heap m) (B : Below A₀ base outer h₀) (X : (Mine.hd.heap_39 w.params).In h₀) (N : News h₀ L s.heap news) (T : Top Mine.hd.view_39 loose mean mg mb h₀) (hk : cs.kind = .function)
    (hl : h₀.IsList l vs.toArray) (hi : IntsAre vs ns) (hlen : ns.length ≤ 63)
    (hd : dp + 1 < recursionLimit) (hu : un + 80 < cLine)
    (ret : ∀ D vs' n' (q : List Int) h' tk', AllLt D news → Fr h₀ L h' m → News h₀ L h' ((D, listOf vs'.toArray n') :: news) → IntsAre vs' q.reverse → q.length ≤ 160 → Q (.ref D) { s with heap := h', toks := tk' }) :
    wpAny (model prg w) (ktrTop dp un gd cn cs L a ccd cl outer) (call (.ref 300) [.ref l]) Q E s := by
  cases cs; cases hk
  refine wpAny_call ?_
  k_dflt k_enter
  have hl' := hl.at fun o e => Fr.keep (by assumption) l o e
  k_steps
  unfold Stop
  rename_i r9 _ _ _ D9 ws9 _ _ _ _ _ _ _
  refine for_list (fun c : List Value × Nat => [(r9, listOf c.1.toArray c.2)]) ((D9, listOf ws9.toArray 0) :: news) [Str.ofString "figure", Str.ofString "lap"] (fun _ => []) (fun i c => (∃ q, IntsAre c.1 q) ∧ c.1.length ≤ 31 * i) ([], 0)
    (by k_asm) (by k_asm) (by k_mem) (by walk_at "led") (fun _ => rfl) (by walk_at "held") rfl ⟨⟨[], .nil⟩, by simp⟩ ?_ ?_
  · rintro i v ⟨us, k⟩ u I oI h tk hi9 hv ⟨⟨q, hq⟩, hql⟩ hlt F₁ N₁
    simp only [List.cons_append, List.nil_append, AllLt, and_true] at N₁ hlt
    obtain ⟨n9, t9, rfl, hn9⟩ := IntsAre.at (by assumption) i v hv
    have hw9 := IntsAre.length (by assumption : IntsAre ws9 _)
    have hc9 : (List.take 40 ns).length ≤ 40 := by simp; lia
    dsimp only at hq hql ⊢
    k_steps
    all_goals unfold Stop
    all_goals refine for_range (fun c : Int × Tok × List Value × Nat => [(r9, listOf c.2.2.1.toArray c.2.2.2)]) ((I, oI) :: (D9, listOf ws9.toArray 0) :: news) [Str.ofString "figure"] (fun c => [(Str.ofString "figure", .int c.1 c.2.1)]) (fun j c => (∃ q, IntsAre c.2.2.1 q) ∧ c.2.2.1.length ≤ 31 * i + 1 + j) (_, _, _, _) (by k_asm) (by k_asm) (by assumption) rfl (range_facts (k := 30) (by decide) (by decide)).2 (by walk_at "led") (fun _ => rfl) (by walk_at "held") rfl ⟨⟨_, IntsAre.append hq (.cons _ _ .nil)⟩, by simp; lia⟩ ?_ ?_
    · rintro j t ⟨f9, tf9, us9, k9⟩ u I oI h tk hj9 ⟨⟨q, hq⟩, hql⟩ hlt F₁ N₁
      simp only [List.cons_append, List.nil_append, AllLt, and_true] at N₁ hlt
      simp only [Int.reduceToNat] at hj9
      dsimp only at hq hql ⊢
      k_steps
      · exact TEnd.next (c' := (_, _, _, _)) (by k_asm) (by k_asm) (by walk_at "led") (by walk_at "held") (by walk_at "kept") ⟨⟨_, IntsAre.append hq (.cons _ _ .nil)⟩, by simp; lia⟩
      · exact TEnd.next (c' := (_, _, _, _)) (by k_asm) (by k_asm) (by walk_at "led") (by walk_at "held") (by walk_at "kept") ⟨⟨_, hq⟩, by simp; lia⟩
    · rintro ⟨f9, tf9, us9, k9⟩ u v h tk ⟨⟨q, hq⟩, hql⟩ F₁ N₁
      simp only [List.cons_append, List.nil_append] at N₁
      dsimp only at hq hql ⊢
      k_steps
      exact TEnd.next (c' := (_, _)) (by k_asm) (by k_asm) (by walk_at "led") (by walk_at "held") (by walk_at "kept") ⟨⟨_, hq⟩, by simp; lia⟩
    · rintro j t ⟨f9, tf9, us9, k9⟩ u I oI h tk hj9 ⟨⟨q, hq⟩, hql⟩ hlt F₁ N₁
      simp only [List.cons_append, List.nil_append, AllLt, and_true] at N₁ hlt
      simp only [Int.reduceToNat] at hj9
      dsimp only at hq hql ⊢
      k_steps
      · exact TEnd.next (c' := (_, _, _, _)) (by k_asm) (by k_asm) (by walk_at "led") (by walk_at "held") (by walk_at "kept") ⟨⟨_, IntsAre.append hq (.cons _ _ .nil)⟩, by simp; lia⟩
      · exact TEnd.next (c' := (_, _, _, _)) (by k_asm) (by k_asm) (by walk_at "led") (by walk_at "held") (by walk_at "kept") ⟨⟨_, hq⟩, by simp; lia⟩
    · rintro ⟨f9, tf9, us9, k9⟩ u v h tk ⟨⟨q, hq⟩, hql⟩ F₁ N₁
      simp only [List.cons_append, List.nil_append] at N₁
      dsimp only at hq hql ⊢
      k_steps
      exact TEnd.next (c' := (_, _)) (by k_asm) (by k_asm) (by walk_at "led") (by walk_at "held") (by walk_at "kept") ⟨⟨_, hq⟩, by simp; lia⟩
  · rintro ⟨us, k⟩ u v h tk ⟨⟨q, hq⟩, hql⟩ F₁ N₁
    simp only [List.cons_append, List.nil_append] at N₁
    have hw9 := IntsAre.length (by assumption : IntsAre ws9 _)
    have hc9 : (List.take 40 ns).length ≤ 40 := by simp; lia
    dsimp only at hq hql ⊢
    k_steps
    exact ret _ _ _ (List.take 160 q) _ _ (by walk_at "below") (by k_asm) (news_iff (by k_asm) (by walk_at "led")) (IntsAre.reverse (by assumption)) (by simp; lia)
theorem words_B4 : True := by
  k_with_none
  k_with "call builtin:list.pop" => (k_here; k_dflt (refine' kl_pop ?zqF ?zqN (kl_last_snoc _ _) ?zqU ?zqZ ?_; (case zqF => k_asm); (case zqN => k_asm); (case zqU => k_upd); (case zqZ => (simp only [sizeLine_eq]; simp only [List.length_append, List.length_singleton]; lia)); k_whole; intro h' F' N'))
  k_with "CompSrc" => (refine Stop.mk ?_)
  k_with "eval ListComp" => (k_here; k_dflt (refine LCg.ListComp_U (F₀ := by k_asm) (by with_unfolding_all rfl) (by decide) (by rfl) (by decide) (by rfl) ?_))
  k_with "sel" => first | exact Sel.nil | (refine' Sel.cons ?zqsl1 ?zqsl2; (case zqsl1 => walk_at "rem"); (case zqsl2 => walk_at "sel"))
  k_with "rem" => first | exact Rem.head | (refine' Rem.tail ?zqrm1; (case zqrm1 => walk_at "rem"))
  k_with "apart" => first | exact List.forall_mem_nil _ | (refine List.forall_mem_cons.mpr ⟨by k_all, ?_⟩; walk_at "apart")
  k_with "CompEnd" => (refine Stop.mk ?_)
  k_with "call builtin:str.join" => (k_here; k_dflt (refine join_led (by k_asm) (by k_mem) (by first | assumption | walk_at "strs") (by first | assumption | decide +kernel) (by first | assumption | walk_at "joinsum") ?_); intro _ _)
  k_with "led" => ((try dsimp only); (try simp only [List.cons_append, List.nil_append]); kcf_all)
  k_with "pyIter ref" => (k_here; refine Stop.mk ?_)
  k_with "exec For" => (k_here; k_dflt (refine For_invVF (by k_asm) (by rfl) (by rfl) ?_))
  k_with "kept" => (intro z9 h91 h92 h93; (try simp only [List.contains_cons, List.contains_nil, Bool.or_false, Bool.or_eq_false_iff, beq_eq_false_iff_ne, ne_eq] at h93); simp [lmap, kstB, h91, h93])
  k_with "held" => first | exact List.forall_mem_nil _ | (refine List.forall_mem_cons.mpr ⟨rfl, ?_⟩; walk_at "held")
  k_with "call builtin:list.append" => (k_here; k_dflt (refine' append_K ?zqk1 ?zqk2 ?zqk3 ?_ ?zqz; (case zqk1 => k_asm); (case zqk2 => k_asm); (case zqk3 => k_upd); (case zqz => first | (simp only [List.size_toArray, sizeLine_eq, List.length_append, List.length_singleton]; lia) | (simp only [List.size_toArray, sizeLine_eq, List.length_append, List.length_singleton]; refine Nat.le_trans (Nat.add_le_add_right (kpick_len _ _ _) _) ?_; lia)); k_whole); intro h' F' N'; (try simp only [List.push_toArray] at N'); (try k_sweep))
  k_with "call builtin:list.reverse" => (k_here; k_dflt (refine' kl_reverse ?zqF ?zqN ?zqe ?zqU ?zqz ?_; (case zqF => k_asm); (case zqN => k_asm); (case zqU => k_upd); (case zqe => exact (rfl : _ = List.reverse _)); (case zqz => (show List.length _ ≤ _; rw [IntsAre.length (by assumption)]; simp only [sizeLine_eq]; lia)); k_whole); intro h' F' N')
  k_with "below" => ((try simp only [List.cons_append, List.nil_append, AllLt, and_true]); first | assumption | exact allLt_iff.mpr (by assumption) | exact And.right (by assumption) | exact And.right (And.right (by assumption)) | exact And.right (And.right (And.right (by assumption))) | exact And.right (And.right (And.right (And.right (by assumption)))))
  k_with "exec For Name Name cons nil" => (k_here; k_dflt (refine For_invVF (by k_asm) (by rfl) (by rfl) ?_))
  k_with "exec For Name Name" => (k_here; k_dflt (refine For_invVF (by k_asm) (by rfl) (by rfl) ?_))
  k_with "exec For Name Call cons nil" => (k_here; k_dflt (refine For_invVF (by k_asm) (by rfl) (by rfl) ?_))
  k_with "exec For Name Call" => (k_here; k_dflt (refine For_invVF (by k_asm) (by rfl) (by rfl) ?_))
  k_with "exec For Name Attribute cons nil" => (k_here; k_dflt (refine For_invVF (by k_asm) (by rfl) (by rfl) ?_))
  k_with "exec For Name Attribute" => (k_here; k_dflt (refine For_invVF (by k_asm) (by rfl) (by rfl) ?_))
  k_with "exec For Name Subscript cons nil" => (k_here; k_dflt (refine For_invVF (by k_asm) (by rfl) (by rfl) ?_))
  k_with "exec For Name Subscript" => (k_here; k_dflt (refine For_invVF (by k_asm) (by rfl) (by rfl) ?_))
  k_with "exec For Name List cons nil" => (k_here; k_dflt (refine For_invVF (by k_asm) (by rfl) (by rfl) ?_))
  k_with "exec For Name List" => (k_here; k_dflt (refine For_invVF (by k_asm) (by rfl) (by rfl) ?_))
  k_with "call builtin:len" => (k_here; k_dflt (first | (refine P.len_str (by lia) ?_) | (refine len_led (by k_asm) (by k_mem) (by lia) ?_)))
  k_with "call builtin:str.rjust" => (k_here; k_dflt (refine SC.rjust (padOk_of (by lia) (by lia)) ?_); intro _ _)
  k_with "call builtin:str.ljust" => (k_here; k_dflt (refine SC.ljust (padOk_of (by lia) (by lia)) ?_); intro _ _)
  k_with "srcat" => exact Or.inr ⟨_, by k_mem, rfl, _, rfl⟩
  k_with "FinE" => ((unfold LCg.FinE); intro D' h' tk' F' N' o1'; (replace o1' := offD_of o1'); (try simp only [OffD, and_true] at o1'); (repeat (obtain ⟨o2', o1'⟩ := o1')); (try simp only [List.nil_append, List.cons_append] at N'); (try dsimp only))
  k_with "fresh" => ((simp only [FreshOver, OffD, List.nil_append, List.cons_append, and_true]); (repeat' (refine And.intro ?_ ?_)); all_goals first | assumption | exact Dist.symm (by assumption) | exact lt_off (by assumption) | exact allLt_off (by assumption) | exact allLt_off (And.right (by assumption)) | exact allLt_off (And.right (And.right (by assumption))) | exact allLt_off (And.right (And.right (And.right (by assumption)))) | exact Dist.of (by lia))
  k_with "subscriptTail" => (k_here; (with_reducible show wpAny _ _ (subscriptTail _ _ (Value.ref _) (Value.int _ _)) _ _ _); k_dflt (refine item_led (by k_asm) (by k_mem) (by lia) (by lia) (by assumption) ?_))
  k_with "binaryOp Add str str" => (k_here; (with_reducible show wpAny _ _ (binaryOp Operator.Add (Value.str _ _) (Value.str _ _)) _ _ _); (refine PyProof.Rows.add_str (hsz := ?zqhz9) ?_); (case zqhz9 => first | (simp only [Str.length_append, sizeLine_eq]; lia) | walk_at "addlen"); intro _ _)
  k_with "subscriptTail Name Name ref int" => (k_here; k_dflt (refine item_led (by k_asm) (by k_mem) (by lia) (by lia) (by assumption) ?_))
  k_with "call builtin:max" => (k_here; k_dflt (refine max_ints rfl (by k_asm) (by k_asm) ?_); intro h' tk' t' F' N'; (try k_sweep))
  k_with "call type:range" => (k_here; (with_reducible show wpAny _ _ (call _ [_, _, _]) _ _ _); k_dflt (refine range3_rows (by k_asm) (by k_asm) (by lia) ?_ (Or.inl (PyProof.noPylong_small (by lia)))); intro h' tk' t₁ u₁ v₁ r' F' N' k')
  k_with "FinA" => ((unfold LCg.FinA); intro D' h' tk' F' N' o1'; (replace o1' := offD_of o1'); (try simp only [OffD, and_true] at o1'); (repeat (obtain ⟨o2', o1'⟩ := o1')); (try simp only [List.nil_append, List.cons_append] at N'); (try dsimp only))
  k_with "exec Assign cons ListComp" => (k_here; k_dflt (refine LCg.Assign_ListComp_U (F₀ := by k_asm) (by rfl) (by with_unfolding_all rfl) (by with_unfolding_all rfl) (by decide) (by rfl) (by decide) (by rfl) (by rfl) (by rfl) ?_))
  k_with "ite" => (refine ite_strs ?_)
  k_with "units_room" => (((try simp only [units_under_make, units_in1, units_deeper, Around.mark_units, units_caller]); (try dsimp only [ktrTop]); (try simp only [units_under_make, units_in1, units_deeper, Around.mark_units, units_caller]); lia))
  k_with "k_room" => (((try simp only [depth_under_make, depth_under_kw, depth_in1, depth_deeper, depth_caller]); (try dsimp only [ktrTop]); lia))
  k_with "k_units" => (units_room)
  k_with "k_all" => (first | assumption | exact off1_ne (by assumption) | exact off1_ne (off3_I (by assumption)) | exact off1_ne (off3_C (by assumption)) | exact off1_ne (off3_D (by assumption)) | exact lt_ne (by assumption) | exact allLt_ne (by assumption) | exact allLt_ne (And.right (by assumption)) | exact allLt_ne (And.right (And.right (by assumption))) | exact allLt_ne (And.right (And.right (And.right (by assumption)))))
  k_with "k_ne" => (first | exact Dist.ne (by assumption) | exact Dist.ne (Dist.symm (by assumption)))
  trivial
set_option maxRecDepth 100000 in
set_option maxHeartbeats 8000000 in
theorem esc_calls (w : World) {c : Nat} {t : Tok} (h1 : 97 ≤ c) (h2 : c ≤ 122) :
    Calls w 149 [.str ⟨#[c]⟩ t, .bool false] 1 80 [] [] (fun v new pre' => new = [] ∧ pre' = [] ∧ ∃ t', v = .str ⟨#[c]⟩ t') := by
  unfold Calls
  intro dp un gd cn cs a ccd cl outer A₀ base h₀ L m s loose mean mg mb news Q E B F X N T hk hd hu hm ret
  cases cs; cases hk
  simp only [List.nil_append] at N
  refine wpAny_call ?_
  k_dflt k_enter
  have e1 := chr_ne (c := c) (k := 92) (s := "\\") (by decide +kernel) (by lia)
  have e2 := chr_ne (c := c) (k := 34) (s := "\"") (by decide +kernel) (by lia)
  k_steps
  all_goals first
    | exact ret _ [] [] _ _ ⟨rfl, rfl, _, rfl⟩ trivial (by k_asm) (news_iff (by k_asm) (by walk_at "led"))
    | (exfalso; lia)
    | (exfalso; simp_all; done)
theorem words_B5 : True := by
  k_with_none
  k_with "call builtin:list.pop" => (k_here; k_dflt (refine' kl_pop ?zqF ?zqN (kl_last_snoc _ _) ?zqU ?zqZ ?_; (case zqF => k_asm); (case zqN => k_asm); (case zqU => k_upd); (case zqZ => (simp only [sizeLine_eq]; simp only [List.length_append, List.length_singleton]; lia)); k_whole; intro h' F' N'))
  k_with "CompSrc" => (refine Stop.mk ?_)
  k_with "eval ListComp" => (k_here; k_dflt (refine LCg.ListComp_U (F₀ := by k_asm) (by with_unfolding_all rfl) (by decide) (by rfl) (by decide) (by rfl) ?_))
  k_with "sel" => first | exact Sel.nil | (refine' Sel.cons ?zqsl1 ?zqsl2; (case zqsl1 => walk_at "rem"); (case zqsl2 => walk_at "sel"))
  k_with "rem" => first | exact Rem.head | (refine' Rem.tail ?zqrm1; (case zqrm1 => walk_at "rem"))
  k_with "apart" => first | exact List.forall_mem_nil _ | (refine List.forall_mem_cons.mpr ⟨by k_all, ?_⟩; walk_at "apart")
  k_with "CompEnd" => (refine Stop.mk ?_)
  k_with "call builtin:str.join" => (k_here; k_dflt (refine join_led (by k_asm) (by k_mem) (by first | assumption | walk_at "strs") (by first | assumption | decide +kernel) (by first | assumption | walk_at "joinsum") ?_); intro _ _)
  k_with "led" => ((try dsimp only); (try simp only [List.cons_append, List.nil_append]); kcf_all)
  k_with "pyIter ref" => (k_here; refine Stop.mk ?_)
  k_with "exec For" => (k_here; k_dflt (refine For_invVF (by k_asm) (by rfl) (by rfl) ?_))
  k_with "kept" => (intro z9 h91 h92 h93; (try simp only [List.contains_cons, List.contains_nil, Bool.or_false, Bool.or_eq_false_iff, beq_eq_false_iff_ne, ne_eq] at h93); simp [lmap, kstB, h91, h93])
  k_with "held" => first | exact List.forall_mem_nil _ | (refine List.forall_mem_cons.mpr ⟨rfl, ?_⟩; walk_at "held")
  k_with "call builtin:list.append" => (k_here; k_dflt (refine' append_K ?zqk1 ?zqk2 ?zqk3 ?_ ?zqz; (case zqk1 => k_asm); (case zqk2 => k_asm); (case zqk3 => k_upd); (case zqz => first | (simp only [List.size_toArray, sizeLine_eq, List.length_append, List.length_singleton]; lia) | (simp only [List.size_toArray, sizeLine_eq, List.length_append, List.length_singleton]; refine Nat.le_trans (Nat.add_le_add_right (kpick_len _ _ _) _) ?_; lia)); k_whole); intro h' F' N'; (try simp only [List.push_toArray] at N'); (try k_sweep))
  k_with "call builtin:list.reverse" => (k_here; k_dflt (refine' kl_reverse ?zqF ?zqN ?zqe ?zqU ?zqz ?_; (case zqF => k_asm); (case zqN => k_asm); (case zqU => k_upd); (case zqe => exact (rfl : _ = List.reverse _)); (case zqz => (show List.length _ ≤ _; rw [IntsAre.length (by assumption)]; simp only [sizeLine_eq]; lia)); k_whole); intro h' F' N')
  k_with "below" => ((try simp only [List.cons_append, List.nil_append, AllLt, and_true]); first | assumption | exact allLt_iff.mpr (by assumption) | exact And.right (by assumption) | exact And.right (And.right (by assumption)) | exact And.right (And.right (And.right (by assumption))) | exact And.right (And.right (And.right (And.right (by assumption)))))
  k_with "exec For Name Name cons nil" => (k_here; k_dflt (refine For_invVF (by k_asm) (by rfl) (by rfl) ?_))
  k_with "exec For Name Name" => (k_here; k_dflt (refine For_invVF (by k_asm) (by rfl) (by rfl) ?_))
  k_with "exec For Name Call cons nil" => (k_here; k_dflt (refine For_invVF (by k_asm) (by rfl) (by rfl) ?_))
  k_with "exec For Name Call" => (k_here; k_dflt (refine For_invVF (by k_asm) (by rfl) (by rfl) ?_))
  k_with "exec For Name Attribute cons nil" => (k_here; k_dflt (refine For_invVF (by k_asm) (by rfl) (by rfl) ?_))
  k_with "exec For Name Attribute" => (k_here; k_dflt (refine For_invVF (by k_asm) (by rfl) (by rfl) ?_))
  k_with "exec For Name Subscript cons nil" => (k_here; k_dflt (refine For_invVF (by k_asm) (by rfl) (by rfl) ?_))
  k_with "exec For Name Subscript" => (k_here; k_dflt (refine For_invVF (by k_asm) (by rfl) (by rfl) ?_))
  k_with "exec For Name List cons nil" => (k_here; k_dflt (refine For_invVF (by k_asm) (by rfl) (by rfl) ?_))
  k_with "exec For Name List" => (k_here; k_dflt (refine For_invVF (by k_asm) (by rfl) (by rfl) ?_))
  k_with "call builtin:len" => (k_here; k_dflt (first | (refine P.len_str (by lia) ?_) | (refine len_led (by k_asm) (by k_mem) (by lia) ?_)))
  k_with "call builtin:str.rjust" => (k_here; k_dflt (refine SC.rjust (padOk_of (by lia) (by lia)) ?_); intro _ _)
  k_with "call builtin:str.ljust" => (k_here; k_dflt (refine SC.ljust (padOk_of (by lia) (by lia)) ?_); intro _ _)
  k_with "srcat" => exact Or.inr ⟨_, by k_mem, rfl, _, rfl⟩
  k_with "FinE" => ((unfold LCg.FinE); intro D' h' tk' F' N' o1'; (replace o1' := offD_of o1'); (try simp only [OffD, and_true] at o1'); (repeat (obtain ⟨o2', o1'⟩ := o1')); (try simp only [List.nil_append, List.cons_append] at N'); (try dsimp only))
  k_with "fresh" => ((simp only [FreshOver, OffD, List.nil_append, List.cons_append, and_true]); (repeat' (refine And.intro ?_ ?_)); all_goals first | assumption | exact Dist.symm (by assumption) | exact lt_off (by assumption) | exact allLt_off (by assumption) | exact allLt_off (And.right (by assumption)) | exact allLt_off (And.right (And.right (by assumption))) | exact allLt_off (And.right (And.right (And.right (by assumption)))) | exact Dist.of (by lia))
  k_with "subscriptTail" => (k_here; (with_reducible show wpAny _ _ (subscriptTail _ _ (Value.ref _) (Value.int _ _)) _ _ _); k_dflt (refine item_led (by k_asm) (by k_mem) (by lia) (by lia) (by assumption) ?_))
  k_with "binaryOp Add str str" => (k_here; (with_reducible show wpAny _ _ (binaryOp Operator.Add (Value.str _ _) (Value.str _ _)) _ _ _); (refine PyProof.Rows.add_str (hsz := ?zqhz9) ?_); (case zqhz9 => first | (simp only [Str.length_append, sizeLine_eq]; lia) | walk_at "addlen"); intro _ _)
  k_with "subscriptTail Name Name ref int" => (k_here; k_dflt (refine item_led (by k_asm) (by k_mem) (by lia) (by lia) (by assumption) ?_))
  k_with "call builtin:max" => (k_here; k_dflt (refine max_ints rfl (by k_asm) (by k_asm) ?_); intro h' tk' t' F' N'; (try k_sweep))
  k_with "call type:range" => (k_here; (with_reducible show wpAny _ _ (call _ [_, _, _]) _ _ _); k_dflt (refine range3_rows (by k_asm) (by k_asm) (by lia) ?_ (Or.inl (PyProof.noPylong_small (by lia)))); intro h' tk' t₁ u₁ v₁ r' F' N' k')
  k_with "FinA" => ((unfold LCg.FinA); intro D' h' tk' F' N' o1'; (replace o1' := offD_of o1'); (try simp only [OffD, and_true] at o1'); (repeat (obtain ⟨o2', o1'⟩ := o1')); (try simp only [List.nil_append, List.cons_append] at N'); (try dsimp only))
  k_with "exec Assign cons ListComp" => (k_here; k_dflt (refine LCg.Assign_ListComp_U (F₀ := by k_asm) (by rfl) (by with_unfolding_all rfl) (by with_unfolding_all rfl) (by decide) (by rfl) (by decide) (by rfl) (by rfl) (by rfl) ?_))
  k_with "ite" => (refine ite_strs ?_)
  k_with "units_room" => (((try simp only [units_under_make, units_in1, units_deeper, Around.mark_units, units_caller]); (try dsimp only [ktrTop]); (try simp only [units_under_make, units_in1, units_deeper, Around.mark_units, units_caller]); lia))
  k_with "k_room" => (((try simp only [depth_under_make, depth_under_kw, depth_in1, depth_deeper, depth_caller]); (try dsimp only [ktrTop]); lia))
  k_with "k_units" => (units_room)
  k_with "k_all" => (first | assumption | exact off1_ne (by assumption) | exact off1_ne (off3_I (by assumption)) | exact off1_ne (off3_C (by assumption)) | exact off1_ne (off3_D (by assumption)) | exact lt_ne (by assumption) | exact allLt_ne (by assumption) | exact allLt_ne (And.right (by assumption)) | exact allLt_ne (And.right (And.right (by assumption))) | exact allLt_ne (And.right (And.right (And.right (by assumption)))))
  k_with "k_ne" => (first | exact Dist.ne (by assumption) | exact Dist.ne (Dist.symm (by assumption)))
  k_with "eval ListComp" => (k_here; k_dflt (refine ListComp_S (F₀ := by k_asm) (by with_unfolding_all rfl) (by decide) (by rfl) (by decide) (by rfl) ?_))
  k_with "call ref" => (k_here; (with_reducible show wpAny _ _ (call (.ref 149) _) _ _ _); k_dflt (refine Calls.use (by k_asm) (by k_asm) (by k_asm) (by k_asm) (by k_asm) rfl (by walk_at "sel") (esc_calls _ (by lia) (by lia)) (by k_room) (by units_room) (by walk_at "apart") ?_); k_whole; intro v9 nw9 pr9 h' tk' hp9 hf' F' N'; obtain ⟨e91, e92, t', e93⟩ := hp9; subst e91; subst e92; subst e93; (try simp only [List.nil_append, List.cons_append] at N'); (try dsimp only))
  k_with "CompSrcS" => (refine Stop.mk ?_)
  trivial
set_option maxRecDepth 100000 in
set_option maxHeartbeats 8000000 in
theorem enc_calls (w : World) {y : Str} {t : Tok} (hy : Letters y) (hl : y.length ≤ 900) :
    Calls w 154 [.str y t, .bool false] 2 100 [] [] (fun v new pre' => new = [] ∧ pre' = [] ∧ ∃ t', v = .str y t') := by
  unfold Calls
  intro dp un gd cn cs a ccd cl outer A₀ base h₀ L m s loose mean mg mb news Q E B F X N T hk hd hu hm ret
  cases cs; cases hk
  simp only [List.nil_append] at N
  refine wpAny_call ?_
  k_dflt k_enter
  k_steps
  unfold Stop
  have hsz : y.cps.toList.length ≤ 900 := hl
  refine CompSrcS.intro rfl (by k_asm) (by k_asm) (letters_ascii hy) (Nat.le_trans hl (size_ok (by decide))) ?_
  intro g
  refine comp_inv (fun _ : Unit => (_, _) :: news) (fun i ys _ => StrsAre ys ((y.cps.toList.take i).map sign)) () .nil ?_ ?_
  · rintro i ys _ v I oI C oC D m₂ h tk E' hin hys hP hoC hx F₁ N₁ hoff hne
    obtain ⟨c, u, hc, rfl⟩ := hP
    have hc' : y.cps.toList[i]? = some c := by simpa using hc
    have hcl := hy c (List.mem_of_getElem? hc')
    k_steps
    refine compEnd_eq (c := ()) (by rw [List.take_add_one, hc', List.map_append]; exact strsAre_snoc hys) (by assumption) (by k_asm) (by walk_at "led") hoff trivial
  · rintro ys _ hys
    have e9 : y.cps.toList.take y.cps.size = y.cps.toList := List.take_of_length_le (by simp)
    simp only [e9] at hys
    have hw : ((y.cps.toList.map sign).map (·.length)).sum + (y.cps.toList.map sign).length ≤ 1048576 := by
      rw [signs_sum, List.length_map]; lia
    k_steps
    rw [join_signs]
    exact ret _ [] [] _ _ ⟨rfl, rfl, _, rfl⟩ trivial (by k_asm) (news_iff (by k_asm) (by walk_at "led"))
set_option maxRecDepth 100000 in
set_option maxHeartbeats 8000000 in
theorem encN_calls (w : World) :
    Calls w 154 [.none, .bool false] 2 100 [] [] (fun v new pre' => new = [] ∧ pre' = [] ∧ ∃ t', v = .str (Str.ofString "<NA>") t') := by
  unfold Calls
  intro dp un gd cn cs a ccd cl outer A₀ base h₀ L m s loose mean mg mb news Q E B F X N T hk hd hu hm ret
  cases cs; cases hk
  simp only [List.nil_append] at N
  refine wpAny_call ?_
  k_dflt k_enter
  k_steps
  exact ret _ [] [] _ _ ⟨rfl, rfl, _, rfl⟩ trivial (by k_asm) (news_iff (by k_asm) (by walk_at "led"))
theorem words_B6 : True := by
  k_with_none
  k_with "call builtin:list.pop" => (k_here; k_dflt (refine' kl_pop ?zqF ?zqN (kl_last_snoc _ _) ?zqU ?zqZ ?_; (case zqF => k_asm); (case zqN => k_asm); (case zqU => k_upd); (case zqZ => (simp only [sizeLine_eq]; simp only [List.length_append, List.length_singleton]; omega)); k_whole; intro h' F' N'))
  k_with "CompSrc" => (refine Stop.mk ?_)
  k_with "eval ListComp" => (k_here; k_dflt (refine LCg.ListComp_U (F₀ := by k_asm) (by with_unfolding_all rfl) (by decide) (by rfl) (by decide) (by rfl) ?_))
  k_with "sel" => first | exact Sel.nil | (refine' Sel.cons ?zqsl1 ?zqsl2; (case zqsl1 => walk_at "rem"); (case zqsl2 => walk_at "sel"))
  k_with "rem" => first | exact Rem.head | (refine' Rem.tail ?zqrm1; (case zqrm1 => walk_at "rem"))
  k_with "apart" => first | exact List.forall_mem_nil _ | (refine List.forall_mem_cons.mpr ⟨by k_all, ?_⟩; walk_at "apart")
  k_with "CompEnd" => (refine Stop.mk ?_)
  k_with "call builtin:str.join" => (k_here; k_dflt (refine join_led (by k_asm) (by k_mem) (by first | assumption | walk_at "strs") (by first | assumption | decide +kernel) (by first | assumption | walk_at "joinsum") ?_); intro _ _)
  k_with "led" => ((try dsimp only); (try simp only [List.cons_append, List.nil_append]); kcf_all)
  k_with "pyIter ref" => (k_here; refine Stop.mk ?_)
  k_with "exec For" => (k_here; k_dflt (refine For_invVF (by k_asm) (by rfl) (by rfl) ?_))
  k_with "kept" => (intro z9 h91 h92 h93; (try simp only [List.contains_cons, List.contains_nil, Bool.or_false, Bool.or_eq_false_iff, beq_eq_false_iff_ne, ne_eq] at h93); simp [lmap, kstB, h91, h93])
  k_with "held" => first | exact List.forall_mem_nil _ | (refine List.forall_mem_cons.mpr ⟨rfl, ?_⟩; walk_at "held")
  k_with "call builtin:list.append" => (k_here; k_dflt (refine' append_K ?zqk1 ?zqk2 ?zqk3 ?_ ?zqz; (case zqk1 => k_asm); (case zqk2 => k_asm); (case zqk3 => k_upd); (case zqz => first | (simp only [List.size_toArray, sizeLine_eq, List.length_append, List.length_singleton]; omega) | (simp only [List.size_toArray, sizeLine_eq, List.length_append, List.length_singleton]; refine Nat.le_trans (Nat.add_le_add_right (kpick_len _ _ _) _) ?_; omega)); k_whole); intro h' F' N'; (try simp only [List.push_toArray] at N'); (try k_sweep))
  k_with "call builtin:list.reverse" => (k_here; k_dflt (refine' kl_reverse ?zqF ?zqN ?zqe ?zqU ?zqz ?_; (case zqF => k_asm); (case zqN => k_asm); (case zqU => k_upd); (case zqe => exact (rfl : _ = List.reverse _)); (case zqz => (show List.length _ ≤ _; rw [IntsAre.length (by assumption)]; simp only [sizeLine_eq]; omega)); k_whole); intro h' F' N')
  k_with "below" => ((try simp only [List.cons_append, List.nil_append, AllLt, and_true]); first | assumption | exact allLt_iff.mpr (by assumption) | exact And.right (by assumption) | exact And.right (And.right (by assumption)) | exact And.right (And.right (And.right (by assumption))) | exact And.right (And.right (And.right (And.right (by assumption)))))
  k_with "exec For Name Name cons nil" => (k_here; k_dflt (refine For_invVF (by k_asm) (by rfl) (by rfl) ?_))
  k_with "exec For Name Name" => (k_here; k_dflt (refine For_invVF (by k_asm) (by rfl) (by rfl) ?_))
  k_with "exec For Name Call cons nil" => (k_here; k_dflt (refine For_invVF (by k_asm) (by rfl) (by rfl) ?_))
  k_with "exec For Name Call" => (k_here; k_dflt (refine For_invVF (by k_asm) (by rfl) (by rfl) ?_))
  k_with "exec For Name Attribute cons nil" => (k_here; k_dflt (refine For_invVF (by k_asm) (by rfl) (by rfl) ?_))
  k_with "exec For Name Attribute" => (k_here; k_dflt (refine For_invVF (by k_asm) (by rfl) (by rfl) ?_))
  k_with "exec For Name Subscript cons nil" => (k_here; k_dflt (refine For_invVF (by k_asm) (by rfl) (by rfl) ?_))
  k_with "exec For Name Subscript" => (k_here; k_dflt (refine For_invVF (by k_asm) (by rfl) (by rfl) ?_))
  k_with "exec For Name List cons nil" => (k_here; k_dflt (refine For_invVF (by k_asm) (by rfl) (by rfl) ?_))
  k_with "exec For Name List" => (k_here; k_dflt (refine For_invVF (by k_asm) (by rfl) (by rfl) ?_))
  k_with "call builtin:len" => (k_here; k_dflt (first | (refine P.len_str (by omega) ?_) | (refine len_led (by k_asm) (by k_mem) (by omega) ?_)))
  k_with "call builtin:str.rjust" => (k_here; k_dflt (refine SC.rjust (padOk_of (by omega) (by omega)) ?_); intro _ _)
  k_with "call builtin:str.ljust" => (k_here; k_dflt (refine SC.ljust (padOk_of (by omega) (by omega)) ?_); intro _ _)
  k_with "srcat" => exact Or.inr ⟨_, by k_mem, rfl, _, rfl⟩
  k_with "FinE" => ((unfold LCg.FinE); intro D' h' tk' F' N' o1'; (replace o1' := offD_of o1'); (try simp only [OffD, and_true] at o1'); (repeat (obtain ⟨o2', o1'⟩ := o1')); (try simp only [List.nil_append, List.cons_append] at N'); (try dsimp only))
  k_with "fresh" => ((simp only [FreshOver, OffD, List.nil_append, List.cons_append, and_true]); (repeat' (refine And.intro ?_ ?_)); all_goals first | assumption | exact Dist.symm (by assumption) | exact lt_off (by assumption) | exact allLt_off (by assumption) | exact allLt_off (And.right (by assumption)) | exact allLt_off (And.right (And.right (by assumption))) | exact allLt_off (And.right (And.right (And.right (by assumption)))) | exact Dist.of (by omega))
  k_with "subscriptTail" => (k_here; (with_reducible show wpAny _ _ (subscriptTail _ _ (Value.ref _) (Value.int _ _)) _ _ _); k_dflt (refine item_led (by k_asm) (by k_mem) (by omega) (by omega) (by assumption) ?_))
  k_with "binaryOp Add str str" => (k_here; (with_reducible show wpAny _ _ (binaryOp Operator.Add (Value.str _ _) (Value.str _ _)) _ _ _); (refine PyProof.Rows.add_str (hsz := ?zqhz9) ?_); (case zqhz9 => first | (simp only [Str.length_append, sizeLine_eq]; omega) | walk_at "addlen"); intro _ _)
  k_with "subscriptTail Name Name ref int" => (k_here; k_dflt (refine item_led (by k_asm) (by k_mem) (by omega) (by omega) (by assumption) ?_))
  k_with "call builtin:max" => (k_here; k_dflt (refine max_ints rfl (by k_asm) (by k_asm) ?_); intro h' tk' t' F' N'; (try k_sweep))
  k_with "call type:range" => (k_here; (with_reducible show wpAny _ _ (call _ [_, _, _]) _ _ _); k_dflt (refine range3_rows (by k_asm) (by k_asm) (by omega) ?_ (Or.inl (PyProof.noPylong_small (by omega)))); intro h' tk' t₁ u₁ v₁ r' F' N' k')
  k_with "FinA" => ((unfold LCg.FinA); intro D' h' tk' F' N' o1'; (replace o1' := offD_of o1'); (try simp only [OffD, and_true] at o1'); (repeat (obtain ⟨o2', o1'⟩ := o1')); (try simp only [List.nil_append, List.cons_append] at N'); (try dsimp only))
  k_with "exec Assign cons ListComp" => (k_here; k_dflt (refine LCg.Assign_ListComp_U (F₀ := by k_asm) (by rfl) (by with_unfolding_all rfl) (by with_unfolding_all rfl) (by decide) (by rfl) (by decide) (by rfl) (by rfl) (by rfl) ?_))
  k_with "ite" => (refine ite_strs ?_)
  k_with "units_room" => (((try simp only [units_under_make, units_in1, units_deeper, Around.mark_units, units_caller]); (try dsimp only [ktrTop]); (try simp only [units_under_make, units_in1, units_deeper, Around.mark_units, units_caller]); omega))
  k_with "k_room" => (((try simp only [depth_under_make, depth_under_kw, depth_in1, depth_deeper, depth_caller]); (try dsimp only [ktrTop]); omega))
  k_with "k_units" => (units_room)
  k_with "k_all" => (first | assumption | exact off1_ne (by assumption) | exact off1_ne (off3_I (by assumption)) | exact off1_ne (off3_C (by assumption)) | exact off1_ne (off3_D (by assumption)) | exact lt_ne (by assumption) | exact allLt_ne (by assumption) | exact allLt_ne (And.right (by assumption)) | exact allLt_ne (And.right (And.right (by assumption))) | exact allLt_ne (And.right (And.right (And.right (by assumption)))))
  k_with "k_ne" => (first | exact Dist.ne (by assumption) | exact Dist.ne (Dist.symm (by assumption)))
  trivial
set_option maxRecDepth 100000 in
set_option maxHeartbeats 8000000 in
theorem widest_calls (w : World) {l : Addr} {vs : List Value} {xs : List Str} {n : Nat} (hx : StrsAre vs xs) (hs : Short 900 xs) :
    Calls w 189 [.ref l] 1 80 [(l, listOf vs.toArray n)] [] (fun v new pre' => new = [] ∧ pre' = [(l, listOf vs.toArray n)] ∧ ∃ t', v = .int (wid xs : Nat) t') := by
  unfold Calls
  intro dp un gd cn cs a ccd cl outer A₀ base h₀ L m s loose mean mg mb news Q E B F X N T hk hd hu hm ret
  cases cs; cases hk
  simp only [List.nil_append, List.cons_append] at N
  refine wpAny_call ?_
  k_dflt k_enter
  k_steps
  unfold Stop
  refine for_list (fun _ => []) ((l, listOf vs.toArray n) :: news) [Str.ofString "found"] (fun c : Int × Tok => [(Str.ofString "found", .int c.1 c.2)]) (fun i c => c.1 = (wid (xs.take i) : Nat)) (_, _)
    (by k_asm) (by k_asm) (by k_mem) (by walk_at "led") (fun _ => rfl) (by walk_at "held") rfl rfl ?_ ?_
  · rintro i v ⟨f9, t9⟩ u I oI h tk hi9 hv hf hlt F₁ N₁
    simp only [List.cons_append, List.nil_append, AllLt, and_true] at N₁ hlt
    obtain ⟨y, ty, rfl, hy⟩ := hx.item i v hv
    dsimp only at hf ⊢
    subst hf
    have hyl := hs y (List.mem_of_getElem? hy)
    k_steps
    exact TEnd.next (c' := (_, _)) (by k_asm) (by k_asm) (by walk_at "led") (by walk_at "held") (by walk_at "kept") (by rw [List.take_add_one, hy]; simp only [Option.toList, wid_snoc]; omega)
  · rintro ⟨f9, t9⟩ u v h tk hf F₁ N₁
    simp only [List.nil_append] at N₁
    dsimp only at hf ⊢
    rw [List.take_of_length_le (by rw [hx.len_eq]; exact Nat.le_refl _)] at hf
    subst hf
    k_steps
    exact ret _ [] [_] _ _ ⟨rfl, rfl, _, rfl⟩ trivial (by k_asm) (news_iff (by k_asm) (by walk_at "led"))
theorem words_B7 : True := by
  k_with_none
  k_with "call builtin:list.pop" => (k_here; k_dflt (refine' kl_pop ?zqF ?zqN (kl_last_snoc _ _) ?zqU ?zqZ ?_; (case zqF => k_asm); (case zqN => k_asm); (case zqU => k_upd); (case zqZ => (simp only [sizeLine_eq]; simp only [List.length_append, List.length_singleton]; lia)); k_whole; intro h' F' N'))
  k_with "CompSrc" => (refine Stop.mk ?_)
  k_with "eval ListComp" => (k_here; k_dflt (refine LCg.ListComp_U (F₀ := by k_asm) (by with_unfolding_all rfl) (by decide) (by rfl) (by decide) (by rfl) ?_))
  k_with "sel" => first | exact Sel.nil | (refine' Sel.cons ?zqsl1 ?zqsl2; (case zqsl1 => walk_at "rem"); (case zqsl2 => walk_at "sel"))
  k_with "rem" => first | exact Rem.head | (refine' Rem.tail ?zqrm1; (case zqrm1 => walk_at "rem"))
  k_with "apart" => first | exact List.forall_mem_nil _ | (refine List.forall_mem_cons.mpr ⟨by k_all, ?_⟩; walk_at "apart")
  k_with "CompEnd" => (refine Stop.mk ?_)
  k_with "call builtin:str.join" => (k_here; k_dflt (refine join_led (by k_asm) (by k_mem) (by first | assumption | walk_at "strs") (by first | assumption | decide +kernel) (by first | assumption | walk_at "joinsum") ?_); intro _ _)
  k_with "led" => ((try dsimp only); (try simp only [List.cons_append, List.nil_append]); kcf_all)
  k_with "pyIter ref" => (k_here; refine Stop.mk ?_)
  k_with "exec For" => (k_here; k_dflt (refine For_invVF (by k_asm) (by rfl) (by rfl) ?_))
  k_with "kept" => (intro z9 h91 h92 h93; (try simp only [List.contains_cons, List.contains_nil, Bool.or_false, Bool.or_eq_false_iff, beq_eq_false_iff_ne, ne_eq] at h93); simp [lmap, kstB, h91, h93])
  k_with "held" => first | exact List.forall_mem_nil _ | (refine List.forall_mem_cons.mpr ⟨rfl, ?_⟩; walk_at "held")
  k_with "call builtin:list.append" => (k_here; k_dflt (refine' append_K ?zqk1 ?zqk2 ?zqk3 ?_ ?zqz; (case zqk1 => k_asm); (case zqk2 => k_asm); (case zqk3 => k_upd); (case zqz => first | (simp only [List.size_toArray, sizeLine_eq, List.length_append, List.length_singleton]; lia) | (simp only [List.size_toArray, sizeLine_eq, List.length_append, List.length_singleton]; refine Nat.le_trans (Nat.add_le_add_right (kpick_len _ _ _) _) ?_; lia)); k_whole); intro h' F' N'; (try simp only [List.push_toArray] at N'); (try k_sweep))
  k_with "call builtin:list.reverse" => (k_here; k_dflt (refine' kl_reverse ?zqF ?zqN ?zqe ?zqU ?zqz ?_; (case zqF => k_asm); (case zqN => k_asm); (case zqU => k_upd); (case zqe => exact (rfl : _ = List.reverse _)); (case zqz => (show List.length _ ≤ _; rw [IntsAre.length (by assumption)]; simp only [sizeLine_eq]; lia)); k_whole); intro h' F' N')
  k_with "below" => ((try simp only [List.cons_append, List.nil_append, AllLt, and_true]); first | assumption | exact allLt_iff.mpr (by assumption) | exact And.right (by assumption) | exact And.right (And.right (by assumption)) | exact And.right (And.right (And.right (by assumption))) | exact And.right (And.right (And.right (And.right (by assumption)))))
  k_with "exec For Name Name cons nil" => (k_here; k_dflt (refine For_invVF (by k_asm) (by rfl) (by rfl) ?_))
  k_with "exec For Name Name" => (k_here; k_dflt (refine For_invVF (by k_asm) (by rfl) (by rfl) ?_))
  k_with "exec For Name Call cons nil" => (k_here; k_dflt (refine For_invVF (by k_asm) (by rfl) (by rfl) ?_))
  k_with "exec For Name Call" => (k_here; k_dflt (refine For_invVF (by k_asm) (by rfl) (by rfl) ?_))
  k_with "exec For Name Attribute cons nil" => (k_here; k_dflt (refine For_invVF (by k_asm) (by rfl) (by rfl) ?_))
  k_with "exec For Name Attribute" => (k_here; k_dflt (refine For_invVF (by k_asm) (by rfl) (by rfl) ?_))
  k_with "exec For Name Subscript cons nil" => (k_here; k_dflt (refine For_invVF (by k_asm) (by rfl) (by rfl) ?_))
  k_with "exec For Name Subscript" => (k_here; k_dflt (refine For_invVF (by k_asm) (by rfl) (by rfl) ?_))
  k_with "exec For Name List cons nil" => (k_here; k_dflt (refine For_invVF (by k_asm) (by rfl) (by rfl) ?_))
  k_with "exec For Name List" => (k_here; k_dflt (refine For_invVF (by k_asm) (by rfl) (by rfl) ?_))
  k_with "call builtin:len" => (k_here; k_dflt (first | (refine P.len_str (by lia) ?_) | (refine len_led (by k_asm) (by k_mem) (by lia) ?_)))
  k_with "call builtin:str.rjust" => (k_here; k_dflt (refine SC.rjust (padOk_of (by lia) (by lia)) ?_); intro _ _)
  k_with "call builtin:str.ljust" => (k_here; k_dflt (refine SC.ljust (padOk_of (by lia) (by lia)) ?_); intro _ _)
  k_with "srcat" => exact Or.inr ⟨_, by k_mem, rfl, _, rfl⟩
  k_with "FinE" => ((unfold LCg.FinE); intro D' h' tk' F' N' o1'; (replace o1' := offD_of o1'); (try simp only [OffD, and_true] at o1'); (repeat (obtain ⟨o2', o1'⟩ := o1')); (try simp only [List.nil_append, List.cons_append] at N'); (try dsimp only))
  k_with "fresh" => ((simp only [FreshOver, OffD, List.nil_append, List.cons_append, and_true]); (repeat' (refine And.intro ?_ ?_)); all_goals first | assumption | exact Dist.symm (by assumption) | exact lt_off (by assumption) | exact allLt_off (by assumption) | exact allLt_off (And.right (by assumption)) | exact allLt_off (And.right (And.right (by assumption))) | exact allLt_off (And.right (And.right (And.right (by assumption)))) | exact Dist.of (by lia))
  k_with "subscriptTail" => (k_here; (with_reducible show wpAny _ _ (subscriptTail _ _ (Value.ref _) (Value.int _ _)) _ _ _); k_dflt (refine item_led (by k_asm) (by k_mem) (by lia) (by lia) (by assumption) ?_))
  k_with "binaryOp Add str str" => (k_here; (with_reducible show wpAny _ _ (binaryOp Operator.Add (Value.str _ _) (Value.str _ _)) _ _ _); (refine PyProof.Rows.add_str (hsz := ?zqhz9) ?_); (case zqhz9 => first | (simp only [Str.length_append, sizeLine_eq]; lia) | walk_at "addlen"); intro _ _)
  k_with "subscriptTail Name Name ref int" => (k_here; k_dflt (refine item_led (by k_asm) (by k_mem) (by lia) (by lia) (by assumption) ?_))
  k_with "call builtin:max" => (k_here; k_dflt (refine max_ints rfl (by k_asm) (by k_asm) ?_); intro h' tk' t' F' N'; (try k_sweep))
  k_with "call type:range" => (k_here; (with_reducible show wpAny _ _ (call _ [_, _, _]) _ _ _); k_dflt (refine range3_rows (by k_asm) (by k_asm) (by lia) ?_ (Or.inl (PyProof.noPylong_small (by lia)))); intro h' tk' t₁ u₁ v₁ r' F' N' k')
  k_with "FinA" => ((unfold LCg.FinA); intro D' h' tk' F' N' o1'; (replace o1' := offD_of o1'); (try simp only [OffD, and_true] at o1'); (repeat (obtain ⟨o2', o1'⟩ := o1')); (try simp only [List.nil_append, List.cons_append] at N'); (try dsimp only))
  k_with "exec Assign cons ListComp" => (k_here; k_dflt (refine LCg.Assign_ListComp_U (F₀ := by k_asm) (by rfl) (by with_unfolding_all rfl) (by with_unfolding_all rfl) (by decide) (by rfl) (by decide) (by rfl) (by rfl) (by rfl) ?_))
  k_with "ite" => (refine ite_strs ?_)
  k_with "units_room" => (((try simp only [units_under_make, units_in1, units_deeper, Around.mark_units, units_caller]); (try dsimp only [ktrTop]); (try simp only [units_under_make, units_in1, units_deeper, Around.mark_units, units_caller]); lia))
  k_with "k_room" => (((try simp only [depth_under_make, depth_under_kw, depth_in1, depth_deeper, depth_caller]); (try dsimp only [ktrTop]); lia))
  k_with "k_units" => (units_room)
  k_with "k_all" => (first | assumption | exact off1_ne (by assumption) | exact off1_ne (off3_I (by assumption)) | exact off1_ne (off3_C (by assumption)) | exact off1_ne (off3_D (by assumption)) | exact lt_ne (by assumption) | exact allLt_ne (by assumption) | exact allLt_ne (And.right (by assumption)) | exact allLt_ne (And.right (And.right (by assumption))) | exact allLt_ne (And.right (And.right (And.right (by assumption)))))
  k_with "k_ne" => (first | exact Dist.ne (by assumption) | exact Dist.ne (Dist.symm (by assumption)))
  trivial
set_option maxRecDepth 100000 in
set_option maxHeartbeats 8000000 in
theorem padl_calls (w : World) {l : Addr} {vs : List Value} {xs : List Str} {n : Nat} {W : Int} {tW : Tok} (hx : StrsAre vs xs) (h0 : 0 ≤ W) (h9 : W ≤ 900) (hn : xs.length ≤ 900) :
    Calls w 194 [.ref l, .int W tW] 1 80 [(l, listOf vs.toArray n)] [] (fun v new pre' => ∃ D ys k, v = .ref D ∧ new = [(D, listOf ys.toArray k)] ∧ pre' = [(l, listOf vs.toArray n)] ∧ StrsAre ys (xs.map (Txt.rjust · W))) := by
  unfold Calls
  intro dp un gd cn cs a ccd cl outer A₀ base h₀ L m s loose mean mg mb news Q E B F X N T hk hd hu hm ret
  cases cs; cases hk
  simp only [List.nil_append, List.cons_append] at N
  refine wpAny_call ?_
  k_dflt k_enter
  k_steps
  unfold Stop
  have hvl := hx.len_eq
  refine LCg.CompSrc.ledger rfl (by k_asm) (by k_asm) (by k_mem) (size_ok (by simp; lia)) ?_
  intro g
  refine comp_inv (fun _ : Unit => (_, _) :: (l, listOf vs.toArray n) :: news) (fun i ys _ => StrsAre ys ((xs.take i).map (Txt.rjust · W))) () .nil ?_ ?_
  · rintro i ys _ v I oI C oC D m₂ h tk E' hin hys hP hoC hx' F₁ N₁ hoff hne
    have hv : vs[i]? = some v := by simpa using hP
    obtain ⟨y, ty, rfl, hy⟩ := hx.item i v hv
    k_steps
    refine compEnd_eq (c := ()) (by rw [List.take_add_one, hy, List.map_append]; exact strsAre_snoc hys) (by assumption) (by k_asm) (by walk_at "led") hoff (by walk_at "srcat")
  · rintro ys _ hys
    have e9 : xs.take vs.toArray.size = xs := List.take_of_length_le (by simp; lia)
    simp only [e9] at hys
    k_steps
    exact ret _ [(_, listOf ys.toArray _)] [_] _ _ ⟨_, _, _, rfl, rfl, rfl, hys⟩ (by walk_at "fresh") (by k_asm) (news_iff (by k_asm) (by walk_at "led"))
set_option maxRecDepth 100000 in
set_option maxHeartbeats 8000000 in
theorem padr_calls (w : World) {l : Addr} {vs : List Value} {xs : List Str} {n : Nat} {W : Int} {tW : Tok} (hx : StrsAre vs xs) (h0 : 0 ≤ W) (h9 : W ≤ 900) (hn : xs.length ≤ 900) :
    Calls w 199 [.ref l, .int W tW] 1 80 [(l, listOf vs.toArray n)] [] (fun v new pre' => ∃ D ys k, v = .ref D ∧ new = [(D, listOf ys.toArray k)] ∧ pre' = [(l, listOf vs.toArray n)] ∧ StrsAre ys (xs.map (Txt.ljust · W))) := by
  unfold Calls
  intro dp un gd cn cs a ccd cl outer A₀ base h₀ L m s loose mean mg mb news Q E B F X N T hk hd hu hm ret
  cases cs; cases hk
  simp only [List.nil_append, List.cons_append] at N
  refine wpAny_call ?_
  k_dflt k_enter
  k_steps
  unfold Stop
  have hvl := hx.len_eq
  refine LCg.CompSrc.ledger rfl (by k_asm) (by k_asm) (by k_mem) (size_ok (by simp; lia)) ?_
  intro g
  refine comp_inv (fun _ : Unit => (_, _) :: (l, listOf vs.toArray n) :: news) (fun i ys _ => StrsAre ys ((xs.take i).map (Txt.ljust · W))) () .nil ?_ ?_
  · rintro i ys _ v I oI C oC D m₂ h tk E' hin hys hP hoC hx' F₁ N₁ hoff hne
    have hv : vs[i]? = some v := by simpa using hP
    obtain ⟨y, ty, rfl, hy⟩ := hx.item i v hv
    k_steps
    refine compEnd_eq (c := ()) (by rw [List.take_add_one, hy, List.map_append]; exact strsAre_snoc hys) (by assumption) (by k_asm) (by walk_at "led") hoff (by walk_at "srcat")
  · rintro ys _ hys
    have e9 : xs.take vs.toArray.size = xs := List.take_of_length_le (by simp; lia)
    simp only [e9] at hys
    k_steps
    exact ret _ [(_, listOf ys.toArray _)] [_] _ _ ⟨_, _, _, rfl, rfl, rfl, hys⟩ (by walk_at "fresh") (by k_asm) (news_iff (by k_asm) (by walk_at "led"))
theorem words_B8 : True := by
  k_with_none
  k_with "call builtin:list.pop" => (k_here; k_dflt (refine' kl_pop ?zqF ?zqN (kl_last_snoc _ _) ?zqU ?zqZ ?_; (case zqF => k_asm); (case zqN => k_asm); (case zqU => k_upd); (case zqZ => (simp only [sizeLine_eq]; simp only [List.length_append, List.length_singleton]; lia)); k_whole; intro h' F' N'))
  k_with "CompSrc" => (refine Stop.mk ?_)
  k_with "eval ListComp" => (k_here; k_dflt (refine LCg.ListComp_U (F₀ := by k_asm) (by with_unfolding_all rfl) (by decide) (by rfl) (by decide) (by rfl) ?_))
  k_with "sel" => first | exact Sel.nil | (refine' Sel.cons ?zqsl1 ?zqsl2; (case zqsl1 => walk_at "rem"); (case zqsl2 => walk_at "sel"))
  k_with "rem" => first | exact Rem.head | (refine' Rem.tail ?zqrm1; (case zqrm1 => walk_at "rem"))
  k_with "apart" => first | exact List.forall_mem_nil _ | (refine List.forall_mem_cons.mpr ⟨by k_all, ?_⟩; walk_at "apart")
  k_with "CompEnd" => (refine Stop.mk ?_)
  k_with "call builtin:str.join" => (k_here; k_dflt (refine join_led (by k_asm) (by k_mem) (by first | assumption | walk_at "strs") (by first | assumption | decide +kernel) (by first | assumption | walk_at "joinsum") ?_); intro _ _)
  k_with "led" => ((try dsimp only); (try simp only [List.cons_append, List.nil_append]); kcf_all)
  k_with "pyIter ref" => (k_here; refine Stop.mk ?_)
  k_with "exec For" => (k_here; k_dflt (refine For_invVF (by k_asm) (by rfl) (by rfl) ?_))
  k_with "kept" => (intro z9 h91 h92 h93; (try simp only [List.contains_cons, List.contains_nil, Bool.or_false, Bool.or_eq_false_iff, beq_eq_false_iff_ne, ne_eq] at h93); simp [lmap, kstB, h91, h93])
  k_with "held" => first | exact List.forall_mem_nil _ | (refine List.forall_mem_cons.mpr ⟨rfl, ?_⟩; walk_at "held")
  k_with "call builtin:list.append" => (k_here; k_dflt (refine' append_K ?zqk1 ?zqk2 ?zqk3 ?_ ?zqz; (case zqk1 => k_asm); (case zqk2 => k_asm); (case zqk3 => k_upd); (case zqz => first | (simp only [List.size_toArray, sizeLine_eq, List.length_append, List.length_singleton]; lia) | (simp only [List.size_toArray, sizeLine_eq, List.length_append, List.length_singleton]; refine Nat.le_trans (Nat.add_le_add_right (kpick_len _ _ _) _) ?_; lia)); k_whole); intro h' F' N'; (try simp only [List.push_toArray] at N'); (try k_sweep))
  k_with "call builtin:list.reverse" => (k_here; k_dflt (refine' kl_reverse ?zqF ?zqN ?zqe ?zqU ?zqz ?_; (case zqF => k_asm); (case zqN => k_asm); (case zqU => k_upd); (case zqe => exact (rfl : _ = List.reverse _)); (case zqz => (show List.length _ ≤ _; rw [IntsAre.length (by assumption)]; simp only [sizeLine_eq]; lia)); k_whole); intro h' F' N')
  k_with "below" => ((try simp only [List.cons_append, List.nil_append, AllLt, and_true]); first | assumption | exact allLt_iff.mpr (by assumption) | exact And.right (by assumption) | exact And.right (And.right (by assumption)) | exact And.right (And.right (And.right (by assumption))) | exact And.right (And.right (And.right (And.right (by assumption)))))
  k_with "exec For Name Name cons nil" => (k_here; k_dflt (refine For_invVF (by k_asm) (by rfl) (by rfl) ?_))
  k_with "exec For Name Name" => (k_here; k_dflt (refine For_invVF (by k_asm) (by rfl) (by rfl) ?_))
  k_with "exec For Name Call cons nil" => (k_here; k_dflt (refine For_invVF (by k_asm) (by rfl) (by rfl) ?_))
  k_with "exec For Name Call" => (k_here; k_dflt (refine For_invVF (by k_asm) (by rfl) (by rfl) ?_))
  k_with "exec For Name Attribute cons nil" => (k_here; k_dflt (refine For_invVF (by k_asm) (by rfl) (by rfl) ?_))
  k_with "exec For Name Attribute" => (k_here; k_dflt (refine For_invVF (by k_asm) (by rfl) (by rfl) ?_))
  k_with "exec For Name Subscript cons nil" => (k_here; k_dflt (refine For_invVF (by k_asm) (by rfl) (by rfl) ?_))
  k_with "exec For Name Subscript" => (k_here; k_dflt (refine For_invVF (by k_asm) (by rfl) (by rfl) ?_))
  k_with "exec For Name List cons nil" => (k_here; k_dflt (refine For_invVF (by k_asm) (by rfl) (by rfl) ?_))
  k_with "exec For Name List" => (k_here; k_dflt (refine For_invVF (by k_asm) (by rfl) (by rfl) ?_))
  k_with "call builtin:len" => (k_here; k_dflt (first | (refine P.len_str (by lia) ?_) | (refine len_led (by k_asm) (by k_mem) (by lia) ?_)))
  k_with "call builtin:str.rjust" => (k_here; k_dflt (refine SC.rjust (padOk_of (by lia) (by lia)) ?_); intro _ _)
  k_with "call builtin:str.ljust" => (k_here; k_dflt (refine SC.ljust (padOk_of (by lia) (by lia)) ?_); intro _ _)
  k_with "srcat" => exact Or.inr ⟨_, by k_mem, rfl, _, rfl⟩
  k_with "FinE" => ((unfold LCg.FinE); intro D' h' tk' F' N' o1'; (replace o1' := offD_of o1'); (try simp only [OffD, and_true] at o1'); (repeat (obtain ⟨o2', o1'⟩ := o1')); (try simp only [List.nil_append, List.cons_append] at N'); (try dsimp only))
  k_with "fresh" => ((simp only [FreshOver, OffD, List.nil_append, List.cons_append, and_true]); (repeat' (refine And.intro ?_ ?_)); all_goals first | assumption | exact Dist.symm (by assumption) | exact lt_off (by assumption) | exact allLt_off (by assumption) | exact allLt_off (And.right (by assumption)) | exact allLt_off (And.right (And.right (by assumption))) | exact allLt_off (And.right (And.right (And.right (by assumption)))) | exact Dist.of (by lia))
  k_with "subscriptTail" => (k_here; (with_reducible show wpAny _ _ (subscriptTail _ _ (Value.ref _) (Value.int _ _)) _ _ _); k_dflt (refine item_led (by k_asm) (by k_mem) (by lia) (by lia) (by assumption) ?_))
  k_with "binaryOp Add str str" => (k_here; (with_reducible show wpAny _ _ (binaryOp Operator.Add (Value.str _ _) (Value.str _ _)) _ _ _); (refine PyProof.Rows.add_str (hsz := ?zqhz9) ?_); (case zqhz9 => first | (simp only [Str.length_append, sizeLine_eq]; lia) | walk_at "addlen"); intro _ _)
  k_with "subscriptTail Name Name ref int" => (k_here; k_dflt (refine item_led (by k_asm) (by k_mem) (by lia) (by lia) (by assumption) ?_))
  k_with "call builtin:max" => (k_here; k_dflt (refine max_ints rfl (by k_asm) (by k_asm) ?_); intro h' tk' t' F' N'; (try k_sweep))
  k_with "call type:range" => (k_here; (with_reducible show wpAny _ _ (call _ [_, _, _]) _ _ _); k_dflt (refine range3_rows (by k_asm) (by k_asm) (by lia) ?_ (Or.inl (PyProof.noPylong_small (by lia)))); intro h' tk' t₁ u₁ v₁ r' F' N' k')
  k_with "FinA" => ((unfold LCg.FinA); intro D' h' tk' F' N' o1'; (replace o1' := offD_of o1'); (try simp only [OffD, and_true] at o1'); (repeat (obtain ⟨o2', o1'⟩ := o1')); (try simp only [List.nil_append, List.cons_append] at N'); (try dsimp only))
  k_with "exec Assign cons ListComp" => (k_here; k_dflt (refine LCg.Assign_ListComp_U (F₀ := by k_asm) (by rfl) (by with_unfolding_all rfl) (by with_unfolding_all rfl) (by decide) (by rfl) (by decide) (by rfl) (by rfl) (by rfl) ?_))
  k_with "ite" => (refine ite_strs ?_)
  k_with "units_room" => (((try simp only [units_under_make, units_in1, units_deeper, Around.mark_units, units_caller]); (try dsimp only [ktrTop]); (try simp only [units_under_make, units_in1, units_deeper, Around.mark_units, units_caller]); lia))
  k_with "k_room" => (((try simp only [depth_under_make, depth_under_kw, depth_in1, depth_deeper, depth_caller]); (try dsimp only [ktrTop]); lia))
  k_with "k_units" => (units_room)
  k_with "k_all" => (first | assumption | exact off1_ne (by assumption) | exact off1_ne (off3_I (by assumption)) | exact off1_ne (off3_C (by assumption)) | exact off1_ne (off3_D (by assumption)) | exact lt_ne (by assumption) | exact allLt_ne (by assumption) | exact allLt_ne (And.right (by assumption)) | exact allLt_ne (And.right (And.right (by assumption))) | exact allLt_ne (And.right (And.right (And.right (by assumption)))))
  k_with "k_ne" => (first | exact Dist.ne (by assumption) | exact Dist.ne (Dist.symm (by assumption)))
  trivial
noncomputable def nlab (label : Int) (i : Nat) : Str := Txt.rjust (Str.ofString "[" ++ Str.ofString (toString ((i : Int) + 1)) ++ Str.ofString "]") label
noncomputable def nStep (xs : List Str) (page label : Int) (st : List Str × Str) (i : Nat) : List Str × Str :=
  let t := xs.getD i Str.empty
  if i = 0 then (st.1, nlab label i ++ Str.ofString " " ++ t)
  else if page < (st.2.length : Int) + 1 + (t.length : Int) then (st.1 ++ [st.2], nlab label i ++ Str.ofString " " ++ t)
  else (st.1, st.2 ++ Str.ofString " " ++ t)
noncomputable def nState (xs : List Str) (page label : Int) (i : Nat) : List Str × Str := (List.range i).foldl (nStep xs page label) ([], Str.ofString "")
theorem nState_succ (xs : List Str) (page label : Int) (i : Nat) : nState xs page label (i + 1) = nStep xs page label (nState xs page label i) i := by
  simp [nState, List.range_succ]
theorem nState_zero {xs : List Str} {page label : Int} {i : Nat} {y : Str} (hy : xs[i]? = some y) (h : i = 0) : nState xs page label (i + 1) = ((nState xs page label i).1, nlab label i ++ Str.ofString " " ++ y) := by
  rw [nState_succ, nStep, if_pos h, List.getD_eq_getElem?_getD, hy]; rfl
theorem nState_new {xs : List Str} {page label : Int} {i : Nat} {y : Str} (hy : xs[i]? = some y) (h : ¬ i = 0) (h2 : page < ((nState xs page label i).2.length : Int) + 1 + (y.length : Int)) :
    nState xs page label (i + 1) = ((nState xs page label i).1 ++ [(nState xs page label i).2], nlab label i ++ Str.ofString " " ++ y) := by
  have e : xs.getD i Str.empty = y := by rw [List.getD_eq_getElem?_getD, hy]; rfl
  rw [nState_succ, nStep, if_neg h, e]
  exact if_pos h2
theorem nState_same {xs : List Str} {page label : Int} {i : Nat} {y : Str} (hy : xs[i]? = some y) (h : ¬ i = 0) (h2 : ¬ page < ((nState xs page label i).2.length : Int) + 1 + (y.length : Int)) :
    nState xs page label (i + 1) = ((nState xs page label i).1, (nState xs page label i).2 ++ Str.ofString " " ++ y) := by
  have e : xs.getD i Str.empty = y := by rw [List.getD_eq_getElem?_getD, hy]; rfl
  rw [nState_succ, nStep, if_neg h, e]
  exact if_neg h2
noncomputable def numberedRows (xs : List Str) (page : Int) : List Str :=
  let label := ((strI (xs.length : Int)).length : Int) + 2
  let st := nState xs page label xs.length
  st.1 ++ [st.2]
set_option maxRecDepth 100000 in
set_option maxHeartbeats 8000000 in
theorem numbered_calls (w : World) {l : Addr} {vs : List Value} {xs : List Str} {n : Nat} {P : Int} {tP : Tok} (hx : StrsAre vs xs) (h0 : 0 ≤ P) (h9 : P ≤ 900) (hn : xs.length ≤ 12) (hs : Short 900 xs) :
    Calls w 254 [.ref l, .int P tP] 2 100 [(l, listOf vs.toArray n)] [] (fun v new pre' => ∃ D ys k, v = .ref D ∧ new = [(D, listOf ys.toArray k)] ∧ pre' = [(l, listOf vs.toArray n)] ∧ StrsAre ys (numberedRows xs P)) := by
  unfold Calls
  intro dp un gd cn cs a ccd cl outer A₀ base h₀ L m s loose mean mg mb news Q E B F X N T hk hd hu hm ret
  cases cs; cases hk
  simp only [List.nil_append, List.cons_append] at N
  have hvl := hx.len_eq
  refine wpAny_call ?_
  k_dflt k_enter
  k_steps
  unfold Stop
  refine for_range0 (n := vs.length) (fun c : List Value × Nat × Str × Tok => [(_, listOf c.1.toArray c.2.1)]) ((l, listOf vs.toArray n) :: news) [Str.ofString "current"] (fun c => [(Str.ofString "current", .str c.2.2.1 c.2.2.2)])
    (fun i c => StrsAre c.1 (nState xs P (((strI (vs.length : Int)).length : Int) + 2) i).1 ∧ c.2.2.1 = (nState xs P (((strI (vs.length : Int)).length : Int) + 2) i).2 ∧ c.1.length ≤ i ∧ c.2.2.1.length ≤ 920 * i) ([], 0, _, _)
    (by k_asm) (by k_asm) (by assumption) rfl (by lia) (by walk_at "led") (fun _ => rfl) (by walk_at "held") rfl ⟨.nil, rfl, Nat.le_refl _, Nat.le_of_eq len_e⟩ ?_ ?_
  · rintro i t ⟨us, k9, cur, tc⟩ u I oI h tk hi9 ⟨hus, hcur, hul, hcl⟩ hlt F₁ N₁
    simp only [List.cons_append, List.nil_append, AllLt, and_true] at N₁ hlt
    dsimp only at hus hcur hul hcl ⊢
    obtain ⟨y, hy⟩ : ∃ y, xs[i]? = some y := ⟨xs[i]'(by lia), by simp⟩
    obtain ⟨ty, hvy⟩ := hx.at hy
    have hyl := hs y (List.mem_of_getElem? hy)
    have l1 := len_sp; have l2 := len_lb; have l3 := len_rb
    have l4 : Str.length (Str.ofString (toString ((i : Int) + 1))) ≤ 2 := by
      have h := strI_short (i + 1) (by lia)
      rw [strI, Int.natCast_add] at h
      exact h
    have l5 := strI_short vs.length (by lia)
    have l6 := rjust_len (Str.ofString "[" ++ Str.ofString (toString ((i : Int) + 1)) ++ Str.ofString "]") ((Str.length (Str.ofString (toString (vs.length : Int))) : Int) + 2)
    simp only [Str.length_append] at l6
    unfold strI at l5
    k_steps
    · exact TEnd.next (c' := (_, _, _, _)) (by k_asm) (by k_asm) (by walk_at "led") (by walk_at "held") (by walk_at "kept") (by
        rw [nState_zero hy (by lia)]
        exact ⟨hus, rfl, by simp; lia, by simp only [Str.length_append]; lia⟩)
    · rw [hcur] at *
      exact TEnd.next (c' := (_, _, _, _)) (by k_asm) (by k_asm) (by walk_at "led") (by walk_at "held") (by walk_at "kept") (by
        rw [nState_new hy (by lia) (by lia)]
        exact ⟨strsAre_snoc hus, rfl, by simp; lia, by simp only [Str.length_append]; lia⟩)
    · exact TEnd.next (c' := (_, _, _, _)) (by k_asm) (by k_asm) (by walk_at "led") (by walk_at "held") (by walk_at "kept") (by
        rw [nState_same hy (by lia) (by rw [← hcur]; lia)]
        exact ⟨hus, by rw [← hcur], by simp; lia, by simp only [Str.length_append]; lia⟩)
  · rintro ⟨us, k9, cur, tc⟩ u v h tk ⟨hus, hcur, hul, hcl⟩ F₁ N₁
    simp only [List.cons_append, List.nil_append] at N₁
    dsimp only at hus hcur hul hcl ⊢
    k_steps
    exact ret _ [(_, listOf (us ++ [Value.str cur tc]).toArray _)] [_] _ _ ⟨_, _, _, rfl, rfl, rfl, by rw [numberedRows, ← hvl, ← hcur]; exact strsAre_snoc hus⟩ (by walk_at "fresh") (by k_asm) (news_iff (by k_asm) (by walk_at "led"))
theorem words_B9 : True := by
  k_with_none
  k_with "call builtin:list.pop" => (k_here; k_dflt (refine' kl_pop ?zqF ?zqN (kl_last_snoc _ _) ?zqU ?zqZ ?_; (case zqF => k_asm); (case zqN => k_asm); (case zqU => k_upd); (case zqZ => (simp only [sizeLine_eq]; simp only [List.length_append, List.length_singleton]; omega)); k_whole; intro h' F' N'))
  k_with "CompSrc" => (refine Stop.mk ?_)
  k_with "eval ListComp" => (k_here; k_dflt (refine LCg.ListComp_U (F₀ := by k_asm) (by with_unfolding_all rfl) (by decide) (by rfl) (by decide) (by rfl) ?_))
  k_with "sel" => first | exact Sel.nil | (refine' Sel.cons ?zqsl1 ?zqsl2; (case zqsl1 => walk_at "rem"); (case zqsl2 => walk_at "sel"))
  k_with "rem" => first | exact Rem.head | (refine' Rem.tail ?zqrm1; (case zqrm1 => walk_at "rem"))
  k_with "apart" => first | exact List.forall_mem_nil _ | (refine List.forall_mem_cons.mpr ⟨by k_all, ?_⟩; walk_at "apart")
  k_with "CompEnd" => (refine Stop.mk ?_)
  k_with "call builtin:str.join" => (k_here; k_dflt (refine join_led (by k_asm) (by k_mem) (by first | assumption | walk_at "strs") (by first | assumption | decide +kernel) (by first | assumption | walk_at "joinsum") ?_); intro _ _)
  k_with "led" => ((try dsimp only); (try simp only [List.cons_append, List.nil_append]); kcf_all)
  k_with "pyIter ref" => (k_here; refine Stop.mk ?_)
  k_with "exec For" => (k_here; k_dflt (refine For_invVF (by k_asm) (by rfl) (by rfl) ?_))
  k_with "kept" => (intro z9 h91 h92 h93; (try simp only [List.contains_cons, List.contains_nil, Bool.or_false, Bool.or_eq_false_iff, beq_eq_false_iff_ne, ne_eq] at h93); simp [lmap, kstB, h91, h93])
  k_with "held" => first | exact List.forall_mem_nil _ | (refine List.forall_mem_cons.mpr ⟨rfl, ?_⟩; walk_at "held")
  k_with "call builtin:list.append" => (k_here; k_dflt (refine' append_K ?zqk1 ?zqk2 ?zqk3 ?_ ?zqz; (case zqk1 => k_asm); (case zqk2 => k_asm); (case zqk3 => k_upd); (case zqz => first | (simp only [List.size_toArray, sizeLine_eq, List.length_append, List.length_singleton]; omega) | (simp only [List.size_toArray, sizeLine_eq, List.length_append, List.length_singleton]; refine Nat.le_trans (Nat.add_le_add_right (kpick_len _ _ _) _) ?_; omega)); k_whole); intro h' F' N'; (try simp only [List.push_toArray] at N'); (try k_sweep))
  k_with "call builtin:list.reverse" => (k_here; k_dflt (refine' kl_reverse ?zqF ?zqN ?zqe ?zqU ?zqz ?_; (case zqF => k_asm); (case zqN => k_asm); (case zqU => k_upd); (case zqe => exact (rfl : _ = List.reverse _)); (case zqz => (show List.length _ ≤ _; rw [IntsAre.length (by assumption)]; simp only [sizeLine_eq]; omega)); k_whole); intro h' F' N')
  k_with "below" => ((try simp only [List.cons_append, List.nil_append, AllLt, and_true]); first | assumption | exact allLt_iff.mpr (by assumption) | exact And.right (by assumption) | exact And.right (And.right (by assumption)) | exact And.right (And.right (And.right (by assumption))) | exact And.right (And.right (And.right (And.right (by assumption)))))
  k_with "exec For Name Name cons nil" => (k_here; k_dflt (refine For_invVF (by k_asm) (by rfl) (by rfl) ?_))
  k_with "exec For Name Name" => (k_here; k_dflt (refine For_invVF (by k_asm) (by rfl) (by rfl) ?_))
  k_with "exec For Name Call cons nil" => (k_here; k_dflt (refine For_invVF (by k_asm) (by rfl) (by rfl) ?_))
  k_with "exec For Name Call" => (k_here; k_dflt (refine For_invVF (by k_asm) (by rfl) (by rfl) ?_))
  k_with "exec For Name Attribute cons nil" => (k_here; k_dflt (refine For_invVF (by k_asm) (by rfl) (by rfl) ?_))
  k_with "exec For Name Attribute" => (k_here; k_dflt (refine For_invVF (by k_asm) (by rfl) (by rfl) ?_))
  k_with "exec For Name Subscript cons nil" => (k_here; k_dflt (refine For_invVF (by k_asm) (by rfl) (by rfl) ?_))
  k_with "exec For Name Subscript" => (k_here; k_dflt (refine For_invVF (by k_asm) (by rfl) (by rfl) ?_))
  k_with "exec For Name List cons nil" => (k_here; k_dflt (refine For_invVF (by k_asm) (by rfl) (by rfl) ?_))
  k_with "exec For Name List" => (k_here; k_dflt (refine For_invVF (by k_asm) (by rfl) (by rfl) ?_))
  k_with "call builtin:len" => (k_here; k_dflt (first | (refine P.len_str (by omega) ?_) | (refine len_led (by k_asm) (by k_mem) (by omega) ?_)))
  k_with "call builtin:str.rjust" => (k_here; k_dflt (refine SC.rjust (padOk_of (by omega) (by omega)) ?_); intro _ _)
  k_with "call builtin:str.ljust" => (k_here; k_dflt (refine SC.ljust (padOk_of (by omega) (by omega)) ?_); intro _ _)
  k_with "srcat" => exact Or.inr ⟨_, by k_mem, rfl, _, rfl⟩
  k_with "FinE" => ((unfold LCg.FinE); intro D' h' tk' F' N' o1'; (replace o1' := offD_of o1'); (try simp only [OffD, and_true] at o1'); (repeat (obtain ⟨o2', o1'⟩ := o1')); (try simp only [List.nil_append, List.cons_append] at N'); (try dsimp only))
  k_with "fresh" => ((simp only [FreshOver, OffD, List.nil_append, List.cons_append, and_true]); (repeat' (refine And.intro ?_ ?_)); all_goals first | assumption | exact Dist.symm (by assumption) | exact lt_off (by assumption) | exact allLt_off (by assumption) | exact allLt_off (And.right (by assumption)) | exact allLt_off (And.right (And.right (by assumption))) | exact allLt_off (And.right (And.right (And.right (by assumption)))) | exact Dist.of (by omega))
  k_with "subscriptTail" => (k_here; (with_reducible show wpAny _ _ (subscriptTail _ _ (Value.ref _) (Value.int _ _)) _ _ _); k_dflt (refine item_led (by k_asm) (by k_mem) (by omega) (by omega) (by assumption) ?_))
  k_with "binaryOp Add str str" => (k_here; (with_reducible show wpAny _ _ (binaryOp Operator.Add (Value.str _ _) (Value.str _ _)) _ _ _); (refine PyProof.Rows.add_str (hsz := ?zqhz9) ?_); (case zqhz9 => first | (simp only [Str.length_append, sizeLine_eq]; omega) | walk_at "addlen"); intro _ _)
  k_with "subscriptTail Name Name ref int" => (k_here; k_dflt (refine item_led (by k_asm) (by k_mem) (by omega) (by omega) (by assumption) ?_))
  k_with "call builtin:max" => (k_here; k_dflt (refine max_ints rfl (by k_asm) (by k_asm) ?_); intro h' tk' t' F' N'; (try k_sweep))
  k_with "call type:range" => (k_here; (with_reducible show wpAny _ _ (call _ [_, _, _]) _ _ _); k_dflt (refine range3_rows (by k_asm) (by k_asm) (by omega) ?_ (Or.inl (PyProof.noPylong_small (by omega)))); intro h' tk' t₁ u₁ v₁ r' F' N' k')
  k_with "FinA" => ((unfold LCg.FinA); intro D' h' tk' F' N' o1'; (replace o1' := offD_of o1'); (try simp only [OffD, and_true] at o1'); (repeat (obtain ⟨o2', o1'⟩ := o1')); (try simp only [List.nil_append, List.cons_append] at N'); (try dsimp only))
  k_with "exec Assign cons ListComp" => (k_here; k_dflt (refine LCg.Assign_ListComp_U (F₀ := by k_asm) (by rfl) (by with_unfolding_all rfl) (by with_unfolding_all rfl) (by decide) (by rfl) (by decide) (by rfl) (by rfl) (by rfl) ?_))
  k_with "ite" => (refine ite_strs ?_)
  k_with "units_room" => (((try simp only [units_under_make, units_in1, units_deeper, Around.mark_units, units_caller]); (try dsimp only [ktrTop]); (try simp only [units_under_make, units_in1, units_deeper, Around.mark_units, units_caller]); omega))
  k_with "k_room" => (((try simp only [depth_under_make, depth_under_kw, depth_in1, depth_deeper, depth_caller]); (try dsimp only [ktrTop]); omega))
  k_with "k_units" => (units_room)
  k_with "k_all" => (first | assumption | exact off1_ne (by assumption) | exact off1_ne (off3_I (by assumption)) | exact off1_ne (off3_C (by assumption)) | exact off1_ne (off3_D (by assumption)) | exact lt_ne (by assumption) | exact allLt_ne (by assumption) | exact allLt_ne (And.right (by assumption)) | exact allLt_ne (And.right (And.right (by assumption))) | exact allLt_ne (And.right (And.right (And.right (by assumption)))))
  k_with "k_ne" => (first | exact Dist.ne (by assumption) | exact Dist.ne (Dist.symm (by assumption)))
  k_with "subscriptTail Name Slice ref ref" => (k_here; k_dflt (refine' kms_slice_lit ?zqF ?zqN ?zql ?zqp ?zqq ?zqe ?_ ?zqs ?zqt ?zqz; (case zqF => k_asm); (case zqN => k_asm); (case zql => exact News.isList (by k_asm) (by k_mem)); (case zqp => kmk_part); (case zqq => kmk_part); (case zqe => exact rfl); (case zqs => with_unfolding_all rfl); (case zqt => kmk_pure); (case zqz => (simp only [List.size_toArray, sizeLine_eq]; omega))); intro D' h' F' N' l1; (try k_lt l1); (try k_sweep))
  k_with "call ref" => (k_here; (with_reducible show wpAny _ _ (call (.ref 189) _) _ _ _); k_dflt (refine Calls.use (by k_asm) (by k_asm) (by k_asm) (by k_asm) (by k_asm) rfl (by walk_at "sel") (widest_calls _ (by assumption) (by assumption)) (by k_room) (by units_room) (by walk_at "apart") ?_); k_whole; intro v9 nw9 pr9 h' tk' hp9 hf' F' N'; obtain ⟨e91, e92, t', e93⟩ := hp9; subst e91; subst e92; subst e93; (try simp only [List.nil_append, List.cons_append] at N'); (try dsimp only))
  k_with "call ref" => (k_here; (with_reducible show wpAny _ _ (call (.ref 194) _) _ _ _); k_dflt (refine Calls.use (by k_asm) (by k_asm) (by k_asm) (by k_asm) (by k_asm) rfl (by walk_at "sel") (padl_calls _ (by first | assumption | exact pick_strsS (by assumption) _ _) (by omega) (by omega) (by first | omega | (refine Nat.le_trans pickS_len ?_; omega))) (by k_room) (by units_room) (by walk_at "apart") ?_); k_whole; intro v9 nw9 pr9 h' tk' hp9 hf' F' N'; obtain ⟨D', ys', k', e91, e92, e93, hys'⟩ := hp9; subst e91; subst e92; subst e93; (try simp only [List.nil_append, List.cons_append] at N'); (try simp only [FreshOver, OffD, List.nil_append, List.cons_append, and_true] at hf'); (repeat (obtain ⟨o2', hf'⟩ := hf')); (try dsimp only))
  k_with "joinsum" => exact joinsum (short_rj (by assumption) (by omega) _ _) (rj_len (by omega) _ _)
  trivial
noncomputable def pickS (xs : List Str) (a b : Int) : List Str := (xs.drop (kms_lo (some a) xs.length)).take (kms_hi (some b) xs.length - kms_lo (some a) xs.length)
theorem pick_strsS {vs : List Value} {xs : List Str} (h : StrsAre vs xs) (a b : Int) : StrsAre (kms_pick vs (some a) (some b)) (pickS xs a b) := pick_strs h _ _
theorem pickS_len {xs : List Str} {a b : Int} : (pickS xs a b).length ≤ xs.length := pick_len
noncomputable def namedRow (xs : List Str) (col PI : Int) (i : Nat) : Str := Txt.join (Str.ofString " ") ((pickS xs ((i * PI.toNat : Nat) : Int) (((i * PI.toNat : Nat) : Int) + PI)).map (Txt.rjust · col)) ++ Str.ofString " "
noncomputable def namedCol (xs ns : List Str) : Int := max (wid xs : Int) (wid ns : Int)
noncomputable def namedPer (xs ns : List Str) (P : Int) : Int := max (Int.fdiv P (namedCol xs ns + 1)) 1
noncomputable def namedTo (xs ns : List Str) (P : Int) (k : Nat) : List Str := (List.range k).flatMap fun i => [namedRow ns (namedCol xs ns) (namedPer xs ns P) i, namedRow xs (namedCol xs ns) (namedPer xs ns P) i]
noncomputable def namedRows (xs ns : List Str) (P : Int) : List Str := namedTo xs ns P (turns xs.length (namedPer xs ns P).toNat)
theorem namedTo_succ (xs ns : List Str) (P : Int) (k : Nat) : namedTo xs ns P (k + 1) = namedTo xs ns P k ++ [namedRow ns (namedCol xs ns) (namedPer xs ns P) k] ++ [namedRow xs (namedCol xs ns) (namedPer xs ns P) k] := by
  simp [namedTo, List.range_succ]
theorem short_rj {xs : List Str} {col : Int} (h : Short 100 xs) (hc : col ≤ 100) (a b : Int) : Short 900 ((pickS xs a b).map (Txt.rjust · col)) :=
  short_map (short_pick h) fun y hy => by have := rjust_len y col; omega
theorem rj_len {xs : List Str} {col : Int} (hn : xs.length ≤ 12) (a b : Int) : ((pickS xs a b).map (Txt.rjust · col)).length ≤ 900 := by
  rw [List.length_map]; have : (pickS xs a b).length ≤ xs.length := pick_len; omega
theorem join_len {xs : List Str} {col : Int} (h : Short 100 xs) (hn : xs.length ≤ 12) (hc : col ≤ 100) (a b : Int) : (Txt.join (Str.ofString " ") ((pickS xs a b).map (Txt.rjust · col))).length ≤ 1048576 := by
  have h1 := joinsum (short_rj h hc a b) (rj_len (col := col) hn a b)
  have h2 := size_glued (Str.ofString " ") ((pickS xs a b).map (Txt.rjust · col))
  rw [len_sp] at h2
  show (Builtin.Str.glued _ _).length ≤ _
  omega
set_option maxRecDepth 100000 in
set_option maxHeartbeats 8000000 in
theorem named_calls (w : World) {l l2 : Addr} {vs vs2 : List Value} {xs ns : List Str} {n n2 : Nat} {P : Int} {tP : Tok} (hx : StrsAre vs xs) (hx2 : StrsAre vs2 ns) (h0 : 0 ≤ P) (h9 : P ≤ 100) (hn : xs.length ≤ 12) (hn2 : ns.length = xs.length) (hs : Short 100 xs) (hs2 : Short 100 ns) (hne : l ≠ l2) :
    Calls w 261 [.ref l, .ref l2, .int P tP] 2 110 [(l, listOf vs.toArray n), (l2, listOf vs2.toArray n2)] [] (fun v new pre' => ∃ D ys k, v = .ref D ∧ new = [(D, listOf ys.toArray k)] ∧ pre' = [(l, listOf vs.toArray n), (l2, listOf vs2.toArray n2)] ∧ StrsAre ys (namedRows xs ns P)) := by
  unfold Calls
  intro dp un gd cn cs a ccd cl outer A₀ base h₀ L m s loose mean mg mb news Q E B F X N T hk hd hu hm ret
  cases cs; cases hk
  simp only [List.nil_append, List.cons_append] at N
  have hvl := hx.len_eq
  have hvl2 := hx2.len_eq
  have hs9 : Short 900 xs := fun z hz => Nat.le_trans (hs z hz) (by decide)
  have hs92 : Short 900 ns := fun z hz => Nat.le_trans (hs2 z hz) (by decide)
  have hw1 := wid_le hs
  have hw2 := wid_le hs2
  have hfd := fdiv_bound (d := max (wid xs : Int) (wid ns : Int) + 1) h0 (by omega)
  refine wpAny_call ?_
  k_dflt k_enter
  k_steps
  unfold Stop
  have htl := turns_le (n := vs.length) (per := (max (Int.fdiv P (max (wid xs : Int) (wid ns : Int) + 1)) 1).toNat) (by omega)
  refine for_rangeS (n := vs.length) (per := (max (Int.fdiv P (max (wid xs : Int) (wid ns : Int) + 1)) 1).toNat) (fun c : List Value × Nat => [(_, listOf c.1.toArray c.2)]) ((l2, listOf vs2.toArray n2) :: (l, listOf vs.toArray n) :: news) [Str.ofString "heads", Str.ofString "parts"] (fun _ => [])
    (fun i c => StrsAre c.1 (namedTo xs ns P i) ∧ c.1.length ≤ 2 * i) ([], 0)
    (by k_asm) (by k_asm) (by assumption) rfl (by omega) (by omega) (by omega) (by omega) (by walk_at "led") (fun _ => rfl) (by walk_at "held") rfl ⟨.nil, Nat.le_refl _⟩ ?_ ?_
  · rintro i t ⟨us, k9⟩ u I oI h tk hi9 ⟨hus, hul⟩ hlt F₁ N₁
    simp only [List.cons_append, List.nil_append, AllLt, and_true] at N₁ hlt
    dsimp only at hus hul ⊢
    have l1 := len_sp
    have j1 := join_len (col := max (wid xs : Int) (wid ns : Int)) hs hn (by omega) ((i * (max (Int.fdiv P (max (wid xs : Int) (wid ns : Int) + 1)) 1).toNat : Nat) : Int) (((i * (max (Int.fdiv P (max (wid xs : Int) (wid ns : Int) + 1)) 1).toNat : Nat) : Int) + (max (Int.fdiv P (max (wid xs : Int) (wid ns : Int) + 1)) 1))
    have j2 := join_len (col := max (wid xs : Int) (wid ns : Int)) hs2 (by omega) (by omega) ((i * (max (Int.fdiv P (max (wid xs : Int) (wid ns : Int) + 1)) 1).toNat : Nat) : Int) (((i * (max (Int.fdiv P (max (wid xs : Int) (wid ns : Int) + 1)) 1).toNat : Nat) : Int) + (max (Int.fdiv P (max (wid xs : Int) (wid ns : Int) + 1)) 1))
    k_steps
    exact TEnd.next (c' := (_, _)) (by k_asm) (by k_asm) (by walk_at "led") (by walk_at "held") (by walk_at "kept") ⟨by rw [namedTo_succ]; exact strsAre_snoc (strsAre_snoc hus), by simp; omega⟩
  · rintro ⟨us, k9⟩ u v h tk ⟨hus, hul⟩ F₁ N₁
    simp only [List.cons_append, List.nil_append] at N₁
    dsimp only at hus hul ⊢
    k_steps
    exact ret _ [(_, listOf us.toArray _)] [_, _] _ _ ⟨_, _, _, rfl, rfl, rfl, by rw [namedRows, ← hvl]; exact hus⟩ (by walk_at "fresh") (by k_asm) (news_iff (by k_asm) (by walk_at "led"))
theorem words_B10 : True := by
  k_with_none
  k_with "call builtin:list.pop" => (k_here; k_dflt (refine' kl_pop ?zqF ?zqN (kl_last_snoc _ _) ?zqU ?zqZ ?_; (case zqF => k_asm); (case zqN => k_asm); (case zqU => k_upd); (case zqZ => (simp only [sizeLine_eq]; simp only [List.length_append, List.length_singleton]; lia)); k_whole; intro h' F' N'))
  k_with "CompSrc" => (refine Stop.mk ?_)
  k_with "eval ListComp" => (k_here; k_dflt (refine LCg.ListComp_U (F₀ := by k_asm) (by with_unfolding_all rfl) (by decide) (by rfl) (by decide) (by rfl) ?_))
  k_with "sel" => first | exact Sel.nil | (refine' Sel.cons ?zqsl1 ?zqsl2; (case zqsl1 => walk_at "rem"); (case zqsl2 => walk_at "sel"))
  k_with "rem" => first | exact Rem.head | (refine' Rem.tail ?zqrm1; (case zqrm1 => walk_at "rem"))
  k_with "apart" => first | exact List.forall_mem_nil _ | (refine List.forall_mem_cons.mpr ⟨by k_all, ?_⟩; walk_at "apart")
  k_with "CompEnd" => (refine Stop.mk ?_)
  k_with "call builtin:str.join" => (k_here; k_dflt (refine join_led (by k_asm) (by k_mem) (by first | assumption | walk_at "strs") (by first | assumption | decide +kernel) (by first | assumption | walk_at "joinsum") ?_); intro _ _)
  k_with "led" => ((try dsimp only); (try simp only [List.cons_append, List.nil_append]); kcf_all)
  k_with "pyIter ref" => (k_here; refine Stop.mk ?_)
  k_with "exec For" => (k_here; k_dflt (refine For_invVF (by k_asm) (by rfl) (by rfl) ?_))
  k_with "kept" => (intro z9 h91 h92 h93; (try simp only [List.contains_cons, List.contains_nil, Bool.or_false, Bool.or_eq_false_iff, beq_eq_false_iff_ne, ne_eq] at h93); simp [lmap, kstB, h91, h93])
  k_with "held" => first | exact List.forall_mem_nil _ | (refine List.forall_mem_cons.mpr ⟨rfl, ?_⟩; walk_at "held")
  k_with "call builtin:list.append" => (k_here; k_dflt (refine' append_K ?zqk1 ?zqk2 ?zqk3 ?_ ?zqz; (case zqk1 => k_asm); (case zqk2 => k_asm); (case zqk3 => k_upd); (case zqz => first | (simp only [List.size_toArray, sizeLine_eq, List.length_append, List.length_singleton]; lia) | (simp only [List.size_toArray, sizeLine_eq, List.length_append, List.length_singleton]; refine Nat.le_trans (Nat.add_le_add_right (kpick_len _ _ _) _) ?_; lia)); k_whole); intro h' F' N'; (try simp only [List.push_toArray] at N'); (try k_sweep))
  k_with "call builtin:list.reverse" => (k_here; k_dflt (refine' kl_reverse ?zqF ?zqN ?zqe ?zqU ?zqz ?_; (case zqF => k_asm); (case zqN => k_asm); (case zqU => k_upd); (case zqe => exact (rfl : _ = List.reverse _)); (case zqz => (show List.length _ ≤ _; rw [IntsAre.length (by assumption)]; simp only [sizeLine_eq]; lia)); k_whole); intro h' F' N')
  k_with "below" => ((try simp only [List.cons_append, List.nil_append, AllLt, and_true]); first | assumption | exact allLt_iff.mpr (by assumption) | exact And.right (by assumption) | exact And.right (And.right (by assumption)) | exact And.right (And.right (And.right (by assumption))) | exact And.right (And.right (And.right (And.right (by assumption)))))
  k_with "exec For Name Name cons nil" => (k_here; k_dflt (refine For_invVF (by k_asm) (by rfl) (by rfl) ?_))
  k_with "exec For Name Name" => (k_here; k_dflt (refine For_invVF (by k_asm) (by rfl) (by rfl) ?_))
  k_with "exec For Name Call cons nil" => (k_here; k_dflt (refine For_invVF (by k_asm) (by rfl) (by rfl) ?_))
  k_with "exec For Name Call" => (k_here; k_dflt (refine For_invVF (by k_asm) (by rfl) (by rfl) ?_))
  k_with "exec For Name Attribute cons nil" => (k_here; k_dflt (refine For_invVF (by k_asm) (by rfl) (by rfl) ?_))
  k_with "exec For Name Attribute" => (k_here; k_dflt (refine For_invVF (by k_asm) (by rfl) (by rfl) ?_))
  k_with "exec For Name Subscript cons nil" => (k_here; k_dflt (refine For_invVF (by k_asm) (by rfl) (by rfl) ?_))
  k_with "exec For Name Subscript" => (k_here; k_dflt (refine For_invVF (by k_asm) (by rfl) (by rfl) ?_))
  k_with "exec For Name List cons nil" => (k_here; k_dflt (refine For_invVF (by k_asm) (by rfl) (by rfl) ?_))
  k_with "exec For Name List" => (k_here; k_dflt (refine For_invVF (by k_asm) (by rfl) (by rfl) ?_))
  k_with "call builtin:len" => (k_here; k_dflt (first | (refine P.len_str (by lia) ?_) | (refine len_led (by k_asm) (by k_mem) (by lia) ?_)))
  k_with "call builtin:str.rjust" => (k_here; k_dflt (refine SC.rjust (padOk_of (by lia) (by lia)) ?_); intro _ _)
  k_with "call builtin:str.ljust" => (k_here; k_dflt (refine SC.ljust (padOk_of (by lia) (by lia)) ?_); intro _ _)
  k_with "srcat" => exact Or.inr ⟨_, by k_mem, rfl, _, rfl⟩
  k_with "FinE" => ((unfold LCg.FinE); intro D' h' tk' F' N' o1'; (replace o1' := offD_of o1'); (try simp only [OffD, and_true] at o1'); (repeat (obtain ⟨o2', o1'⟩ := o1')); (try simp only [List.nil_append, List.cons_append] at N'); (try dsimp only))
  k_with "fresh" => ((simp only [FreshOver, OffD, List.nil_append, List.cons_append, and_true]); (repeat' (refine And.intro ?_ ?_)); all_goals first | assumption | exact Dist.symm (by assumption) | exact lt_off (by assumption) | exact allLt_off (by assumption) | exact allLt_off (And.right (by assumption)) | exact allLt_off (And.right (And.right (by assumption))) | exact allLt_off (And.right (And.right (And.right (by assumption)))) | exact Dist.of (by lia))
  k_with "subscriptTail" => (k_here; (with_reducible show wpAny _ _ (subscriptTail _ _ (Value.ref _) (Value.int _ _)) _ _ _); k_dflt (refine item_led (by k_asm) (by k_mem) (by lia) (by lia) (by assumption) ?_))
  k_with "binaryOp Add str str" => (k_here; (with_reducible show wpAny _ _ (binaryOp Operator.Add (Value.str _ _) (Value.str _ _)) _ _ _); (refine PyProof.Rows.add_str (hsz := ?zqhz9) ?_); (case zqhz9 => first | (simp only [Str.length_append, sizeLine_eq]; lia) | walk_at "addlen"); intro _ _)
  k_with "subscriptTail Name Name ref int" => (k_here; k_dflt (refine item_led (by k_asm) (by k_mem) (by lia) (by lia) (by assumption) ?_))
  k_with "call builtin:max" => (k_here; k_dflt (refine max_ints rfl (by k_asm) (by k_asm) ?_); intro h' tk' t' F' N'; (try k_sweep))
  k_with "call type:range" => (k_here; (with_reducible show wpAny _ _ (call _ [_, _, _]) _ _ _); k_dflt (refine range3_rows (by k_asm) (by k_asm) (by lia) ?_ (Or.inl (PyProof.noPylong_small (by lia)))); intro h' tk' t₁ u₁ v₁ r' F' N' k')
  k_with "FinA" => ((unfold LCg.FinA); intro D' h' tk' F' N' o1'; (replace o1' := offD_of o1'); (try simp only [OffD, and_true] at o1'); (repeat (obtain ⟨o2', o1'⟩ := o1')); (try simp only [List.nil_append, List.cons_append] at N'); (try dsimp only))
  k_with "exec Assign cons ListComp" => (k_here; k_dflt (refine LCg.Assign_ListComp_U (F₀ := by k_asm) (by rfl) (by with_unfolding_all rfl) (by with_unfolding_all rfl) (by decide) (by rfl) (by decide) (by rfl) (by rfl) (by rfl) ?_))
  k_with "ite" => (refine ite_strs ?_)
  k_with "units_room" => (((try simp only [units_under_make, units_in1, units_deeper, Around.mark_units, units_caller]); (try dsimp only [ktrTop]); (try simp only [units_under_make, units_in1, units_deeper, Around.mark_units, units_caller]); lia))
  k_with "k_room" => (((try simp only [depth_under_make, depth_under_kw, depth_in1, depth_deeper, depth_caller]); (try dsimp only [ktrTop]); lia))
  k_with "k_units" => (units_room)
  k_with "k_all" => (first | assumption | exact off1_ne (by assumption) | exact off1_ne (off3_I (by assumption)) | exact off1_ne (off3_C (by assumption)) | exact off1_ne (off3_D (by assumption)) | exact lt_ne (by assumption) | exact allLt_ne (by assumption) | exact allLt_ne (And.right (by assumption)) | exact allLt_ne (And.right (And.right (by assumption))) | exact allLt_ne (And.right (And.right (And.right (by assumption)))))
  k_with "k_ne" => (first | exact Dist.ne (by assumption) | exact Dist.ne (Dist.symm (by assumption)))
  k_with "call builtin:str.join" => (k_here; k_dflt (refine join_led (by k_asm) (by k_mem) (by walk_at "strs") (by first | with_reducible assumption | decide +kernel) (by first | with_reducible assumption | walk_at "joinsum") ?_); intro _ _)
  k_with "call ref" => (k_here; (with_reducible show wpAny _ _ (call (.ref 154) _) _ _ _); k_dflt (refine Calls.use (by k_asm) (by k_asm) (by k_asm) (by k_asm) (by k_asm) rfl (by walk_at "sel") (enc_calls _ (by assumption) (by lia)) (by k_room) (by units_room) (by walk_at "apart") ?_); k_whole; intro v9 nw9 pr9 h' tk' hp9 hf' F' N'; obtain ⟨e91, e92, t', e93⟩ := hp9; subst e91; subst e92; subst e93; (try simp only [List.nil_append, List.cons_append] at N'); (try dsimp only))
  k_with "subscriptTail Name Slice ref ref" => (k_here; k_dflt (refine' kms_slice_lit ?zqF ?zqN ?zql ?zqp ?zqq ?zqe ?_ ?zqs ?zqt ?zqz; (case zqF => k_asm); (case zqN => k_asm); (case zql => exact News.isList (by k_asm) (by k_mem)); (case zqp => kmk_part); (case zqq => kmk_part); (case zqe => exact (rfl : kms_pick (List.toArray _).toList _ _ = kms_pick _ _ _)); (case zqs => with_unfolding_all rfl); (case zqt => kmk_pure); (case zqz => (simp only [List.size_toArray, sizeLine_eq]; lia))); intro D' h' F' N' l1; (try k_lt l1); (try k_sweep))
  k_with "binaryOp Add ref ref" => (k_here; k_dflt (refine add_led (by k_asm) (by k_asm) (by k_mem) (by k_mem) (by first | (simp only [sizeLine_eq]; lia) | (simp only [sizeLine_eq]; refine Nat.le_trans (Nat.add_le_add_right (kpick_len _ _ _) _) ?_; (try simp only [List.length_cons, List.length_nil]); lia)) ?_); intro D' h' F' N' l1; (try k_lt l1); (try k_sweep))
  k_with "strs" => first | with_reducible assumption | with_reducible exact StrsAre.nil | with_reducible exact pick_strs (by with_reducible assumption) _ _ | with_reducible exact strsAre_snoc (by walk_at "strs") | with_reducible exact StrsAre.append' (by walk_at "strs") (by walk_at "strs") | with_reducible exact StrsAre.cons _ _ (by walk_at "strs")
  k_with "short" => first | with_reducible assumption | with_reducible exact short_pick (by with_reducible assumption) | with_reducible exact short_app (by walk_at "short") (by walk_at "short") | with_reducible exact short_one (getD_short (by with_reducible assumption)) | with_reducible exact short_one (by lia)
  k_with "slen" => ((simp only [List.length_append, List.length_cons, List.length_nil, List.length_take, List.length_drop]); lia)
  k_with "joinsum" => exact joinsum (by walk_at "short") (by walk_at "slen")
  k_with "ln" => first | with_reducible exact ln_empty | with_reducible assumption | with_reducible exact Nat.le_of_eq (by with_reducible assumption) | with_reducible exact joinlen (by walk_at "short") (by walk_at "slen") (by with_reducible assumption) | with_reducible exact ln_app (by walk_at "ln") (by walk_at "ln")
  k_with "joinParts" => (k_here; (first | (with_reducible show wpAny _ _ (joinParts _ []) _ _ _) | (with_reducible show wpAny _ _ (joinParts _ (evalEach [] _)) _ _ _)); k_dflt (refine joinParts_nil (hsz := ?zqhz9) ?_; (case zqhz9 => exact ln_fit (by walk_at "ln") (by decide +kernel))))
  k_with "And" => ((with_reducible show PySem.Str.length (_ ++ _) ≤ sizeLine ∧ wpAny _ _ (joinParts _ _) _ _ _);  refine And.intro (ln_fit (by walk_at "ln") (by decide +kernel)) ?_)
  k_with "addlen" => exact ln_fit2 (by walk_at "ln") (by walk_at "ln") (by decide +kernel)
  k_with "binaryOp Add str str" => (k_here; (with_reducible show wpAny _ _ (binaryOp Operator.Add (Value.str _ _) (Value.str _ _)) _ _ _); (refine PyProof.Rows.add_str (hsz := ?zqhz9) ?_); (case zqhz9 => walk_at "addlen"); intro _ _)
  trivial
theorem getD_short {M i : Nat} {xs : List Str} (h : Short M xs) : (xs.getD i Str.empty).length ≤ M := by
  rw [List.getD_eq_getElem?_getD]
  cases e : xs[i]? with
  | none => exact Nat.zero_le _
  | some y => exact h y (List.mem_of_getElem? e)
theorem ln_empty : Str.empty.length ≤ 0 := by decide +kernel
theorem ln_app {a b : Str} {x y : Nat} (ha : a.length ≤ x) (hb : b.length ≤ y) : (a ++ b).length ≤ x + y := by rw [Str.length_append]; exact Nat.add_le_add ha hb
theorem ln_fit {a : Str} {x : Nat} (ha : a.length ≤ x) (h : x ≤ 1040000) : a.length ≤ sizeLine := by rw [sizeLine_eq]; lia
theorem ln_fit2 {a b : Str} {x y : Nat} (ha : a.length ≤ x) (hb : b.length ≤ y) (h : x + y ≤ 1040000) : a.length + b.length ≤ sizeLine := by rw [sizeLine_eq]; lia
noncomputable def lvStep (room : Int) (st : Int × Int) (y : Str) : Int × Int :=
  (st.1 + 1 + (y.length : Int), if st.1 + 1 + (y.length : Int) ≤ room then st.2 + 1 else st.2)
noncomputable def lvState (xs : List Str) (room : Int) : Int × Int := xs.foldl (lvStep room) (0, 0)
theorem lvState_snoc (xs : List Str) (y : Str) (room : Int) : lvState (xs ++ [y]) room = lvStep room (lvState xs room) y := by simp [lvState]
theorem lv_bounds (xs : List Str) (room : Int) : 0 ≤ (lvState xs room).2 ∧ (lvState xs room).2 ≤ (xs.length : Int) := by
  have key : ∀ (xs : List Str) (st : Int × Int), st.2 ≤ (xs.foldl (lvStep room) st).2 ∧ (xs.foldl (lvStep room) st).2 ≤ st.2 + (xs.length : Int) := by
    intro xs
    induction xs with
    | nil => intro st; simp
    | cons y r ih =>
      intro st
      have h := ih (lvStep room st y)
      have h2 : st.2 ≤ (lvStep room st y).2 ∧ (lvStep room st y).2 ≤ st.2 + 1 := by unfold lvStep; dsimp only; split <;> lia
      simp only [List.foldl_cons, List.length_cons]
      lia
  have := key xs (0, 0)
  simp only [lvState]
  lia
noncomputable def lvSep (o : Bool) : Str := if o = true then Str.ofString " < " else Str.ofString " "
noncomputable def lvCut (xs : List Str) (g : Int) : List Str := (xs.drop (kms_lo none xs.length)).take (kms_hi (some (max 1 (max 1 g - 1))) xs.length - kms_lo none xs.length) ++ [Str.ofString "..."]
noncomputable def levelsRowG (xs : List Str) (o : Bool) (g n : Int) : Str :=
  if n ≤ 1 ∨ g = n then Str.ofString "Levels: " ++ Txt.join (lvSep o) xs
  else if 1 < max 1 g then Str.empty ++ Str.ofString (toString n) ++ Str.ofString " Levels: " ++ Txt.join (lvSep o) (lvCut xs g ++ [xs.getD (n - 1).toNat Str.empty])
  else Str.empty ++ Str.ofString (toString n) ++ Str.ofString " Levels: " ++ Txt.join (lvSep o) (lvCut xs g)
theorem lrG_all {xs : List Str} {o : Bool} {g n : Int} (h : n ≤ 1 ∨ g = n) : Str.ofString "Levels: " ++ Txt.join (lvSep o) xs = levelsRowG xs o g n := (if_pos h).symm
theorem lrG_cut {xs : List Str} {o : Bool} {g n : Int} (h : ¬ (n ≤ 1 ∨ g = n)) (h2 : 1 < max 1 g) : Str.empty ++ Str.ofString (toString n) ++ Str.ofString " Levels: " ++ Txt.join (lvSep o) (lvCut xs g ++ [xs.getD (n - 1).toNat Str.empty]) = levelsRowG xs o g n := ((if_neg h).trans (if_pos h2)).symm
theorem lrG_one {xs : List Str} {o : Bool} {g n : Int} (h : ¬ (n ≤ 1 ∨ g = n)) (h2 : ¬ 1 < max 1 g) : Str.empty ++ Str.ofString (toString n) ++ Str.ofString " Levels: " ++ Txt.join (lvSep o) (lvCut xs g) = levelsRowG xs o g n := ((if_neg h).trans (if_neg h2)).symm
noncomputable def levelsRow (xs : List Str) (o : Bool) (P : Int) : Str := levelsRowG xs o (lvState xs (P - 15)).2 (xs.length : Int)
set_option maxRecDepth 100000 in
set_option maxHeartbeats 2000000 in
theorem levels_calls (w : World) {l : Addr} {vs : List Value} {xs : List Str} {n : Nat} {o : Bool} {P : Int} {tP : Tok} (hx : StrsAre vs xs) (h0 : 0 ≤ P) (h9 : P ≤ 100) (hn : xs.length ≤ 12) (hs : Short 100 xs) (hl : ∀ y ∈ xs, Letters y) :
    Calls w 271 [.ref l, .bool o, .int P tP] 3 120 [(l, listOf vs.toArray n)] [] (fun v new pre' => new = [] ∧ pre' = [(l, listOf vs.toArray n)] ∧ ∃ t', v = .str (levelsRow xs o P) t') := by
  unfold Calls
  intro dp un gd cn cs a ccd cl outer A₀ base h₀ L m s loose mean mg mb news Q E B F X N T hk hd hu hm ret
  cases cs; cases hk
  simp only [List.nil_append, List.cons_append] at N
  have hvl := hx.len_eq
  refine wpAny_call ?_
  k_dflt k_enter
  k_steps
  unfold Stop
  refine LCg.CompSrc.ledger rfl (by k_asm) (by k_asm) (by k_mem) (size_ok (by simp; lia)) ?_
  intro g
  refine comp_inv (fun _ : Unit => (l, listOf vs.toArray n) :: news) (fun i ys _ => StrsAre ys (xs.take i)) () .nil ?_ ?_
  · rintro i ys _ v I oI C oC D m₂ h tk E' hin hys hP hoC hx' F₁ N₁ hoff hne
    have hv : vs[i]? = some v := by simpa using hP
    obtain ⟨y, ty, rfl, hy⟩ := hx.item i v hv
    have hly := hl y (List.mem_of_getElem? hy)
    have hsy := hs y (List.mem_of_getElem? hy)
    k_steps
    refine compEnd_eq (c := ()) (by rw [List.take_add_one, hy]; exact strsAre_snoc hys) (by assumption) (by k_asm) (by walk_at "led") (by exact hoff) (by walk_at "srcat")
  · rintro ys _ hys
    have e9 : xs.take vs.toArray.size = xs := List.take_of_length_le (by simp; lia)
    simp only [e9] at hys
    have hyl := hys.len_eq
    k_steps
    unfold Stop
    refine for_list (fun _ => []) ((_, listOf ys.toArray ys.length) :: (l, listOf vs.toArray n) :: news) [Str.ofString "total", Str.ofString "fitting"] (fun c : Int × Tok × Int × Tok => [(Str.ofString "total", .int c.1 c.2.1), (Str.ofString "fitting", .int c.2.2.1 c.2.2.2)]) (fun i c => (c.1, c.2.2.1) = lvState (xs.take i) (P - 15)) (_, _, _, _)
      (by k_asm) (by k_asm) (by k_mem) (by walk_at "led") (fun _ => rfl) (by walk_at "held") rfl rfl ?_ ?_
    · rintro i v ⟨f9, t9, g9, t8⟩ u I oI h tk hi9 hv hf hlt F₁ N₁
      simp only [List.nil_append] at N₁
      obtain ⟨y, ty, rfl, hy⟩ := hys.item i v hv
      dsimp only at hf ⊢
      have hyl := hs y (List.mem_of_getElem? hy)
      k_steps
      · exact TEnd.next (c' := (_, _, _, _)) (by k_asm) (by k_asm) (by walk_at "led") (by walk_at "held") (by walk_at "kept") (by
          rw [List.take_add_one, hy]; simp only [Option.toList, lvState_snoc, ← hf, lvStep]; rw [if_pos (by lia)])
      · exact TEnd.next (c' := (_, _, _, _)) (by k_asm) (by k_asm) (by walk_at "led") (by walk_at "held") (by walk_at "kept") (by
          rw [List.take_add_one, hy]; simp only [Option.toList, lvState_snoc, ← hf, lvStep]; rw [if_neg (by lia)])
    · rintro ⟨f9, t9, g9, t8⟩ u v h tk hf F₁ N₁
      simp only [List.nil_append] at N₁
      dsimp only at hf ⊢
      rw [List.take_of_length_le (by lia)] at hf
      have hsh : Short 900 xs := fun z hz => Nat.le_trans (hs z hz) (by decide)
      have hw := joinsum hsh (by lia)
      have hjl := joinlen (sep := if o = true then Str.ofString " < " else Str.ofString " ") hsh (by lia) (by cases o <;> decide +kernel)
      have hlL : (Str.ofString "Levels: ").length = 8 := by decide +kernel
      have hbe := lv_bounds xs (P - 15)
      rw [← hf] at hbe
      dsimp only at hbe
      have hsep : (if o = true then Str.ofString " < " else Str.ofString " ").length ≤ 16 := by cases o <;> decide +kernel
      have hd3 : (Str.ofString "...").length = 3 := by decide +kernel
      have hLv : (Str.ofString " Levels: ").length = 9 := by decide +kernel
      have h5 : Str.length (Str.ofString (toString (ys.length : Int))) ≤ 2 := strI_short ys.length (by lia)
      k_steps
      all_goals refine ret _ [] [_] _ _ ⟨rfl, rfl, _, congrArg (fun y => Value.str y _) ?_⟩ trivial (by k_asm) (news_iff (by k_asm) (by walk_at "led"))
      all_goals rw [levelsRow, ← congrArg Prod.snd hf]
      all_goals try rw [hyl]
      · exact lrG_all (by lia)
      · exact lrG_all (by lia)
      · have h99 := lrG_cut (xs := xs) (o := o) (g := g9) (n := (xs.length : Int)) (by lia) (by lia)
        unfold lvCut lvSep at h99
        exact h99
      · have h99 := lrG_one (xs := xs) (o := o) (g := g9) (n := (xs.length : Int)) (by lia) (by lia)
        unfold lvCut lvSep at h99
        exact h99
local macro_rules | `(tactic| k_lt $h:ident) => `(tactic| (replace $h := allLt_of $h; k_extra "k_lt"))
theorem words_B11 : True := by
  k_with_none
  k_with "call builtin:list.pop" => (k_here; k_dflt (refine' kl_pop ?zqF ?zqN (kl_last_snoc _ _) ?zqU ?zqZ ?_; (case zqF => k_asm); (case zqN => k_asm); (case zqU => k_upd); (case zqZ => (simp only [sizeLine_eq]; simp only [List.length_append, List.length_singleton]; lia)); k_whole; intro h' F' N'))
  k_with "CompSrc" => (refine Stop.mk ?_)
  k_with "eval ListComp" => (k_here; k_dflt (refine LCg.ListComp_U (F₀ := by k_asm) (by with_unfolding_all rfl) (by decide) (by rfl) (by decide) (by rfl) ?_))
  k_with "sel" => first | exact Sel.nil | (refine' Sel.cons ?zqsl1 ?zqsl2; (case zqsl1 => walk_at "rem"); (case zqsl2 => walk_at "sel"))
  k_with "rem" => first | exact Rem.head | (refine' Rem.tail ?zqrm1; (case zqrm1 => walk_at "rem"))
  k_with "apart" => first | exact List.forall_mem_nil _ | (refine List.forall_mem_cons.mpr ⟨by k_all, ?_⟩; walk_at "apart")
  k_with "CompEnd" => (refine Stop.mk ?_)
  k_with "call builtin:str.join" => (k_here; k_dflt (refine join_led (by k_asm) (by k_mem) (by first | assumption | walk_at "strs") (by first | assumption | decide +kernel) (by first | assumption | walk_at "joinsum") ?_); intro _ _)
  k_with "led" => ((try dsimp only); (try simp only [List.cons_append, List.nil_append]); kcf_all)
  k_with "pyIter ref" => (k_here; refine Stop.mk ?_)
  k_with "exec For" => (k_here; k_dflt (refine For_invVF (by k_asm) (by rfl) (by rfl) ?_))
  k_with "kept" => (intro z9 h91 h92 h93; (try simp only [List.contains_cons, List.contains_nil, Bool.or_false, Bool.or_eq_false_iff, beq_eq_false_iff_ne, ne_eq] at h93); simp [lmap, kstB, h91, h93])
  k_with "held" => first | exact List.forall_mem_nil _ | (refine List.forall_mem_cons.mpr ⟨rfl, ?_⟩; walk_at "held")
  k_with "call builtin:list.append" => (k_here; k_dflt (refine' append_K ?zqk1 ?zqk2 ?zqk3 ?_ ?zqz; (case zqk1 => k_asm); (case zqk2 => k_asm); (case zqk3 => k_upd); (case zqz => first | (simp only [List.size_toArray, sizeLine_eq, List.length_append, List.length_singleton]; lia) | (simp only [List.size_toArray, sizeLine_eq, List.length_append, List.length_singleton]; refine Nat.le_trans (Nat.add_le_add_right (kpick_len _ _ _) _) ?_; lia)); k_whole); intro h' F' N'; (try simp only [List.push_toArray] at N'); (try k_sweep))
  k_with "call builtin:list.reverse" => (k_here; k_dflt (refine' kl_reverse ?zqF ?zqN ?zqe ?zqU ?zqz ?_; (case zqF => k_asm); (case zqN => k_asm); (case zqU => k_upd); (case zqe => exact (rfl : _ = List.reverse _)); (case zqz => (show List.length _ ≤ _; rw [IntsAre.length (by assumption)]; simp only [sizeLine_eq]; lia)); k_whole); intro h' F' N')
  k_with "below" => ((try simp only [List.cons_append, List.nil_append, AllLt, and_true]); first | assumption | exact allLt_iff.mpr (by assumption) | exact And.right (by assumption) | exact And.right (And.right (by assumption)) | exact And.right (And.right (And.right (by assumption))) | exact And.right (And.right (And.right (And.right (by assumption)))))
  k_with "exec For Name Name cons nil" => (k_here; k_dflt (refine For_invVF (by k_asm) (by rfl) (by rfl) ?_))
  k_with "exec For Name Name" => (k_here; k_dflt (refine For_invVF (by k_asm) (by rfl) (by rfl) ?_))
  k_with "exec For Name Call cons nil" => (k_here; k_dflt (refine For_invVF (by k_asm) (by rfl) (by rfl) ?_))
  k_with "exec For Name Call" => (k_here; k_dflt (refine For_invVF (by k_asm) (by rfl) (by rfl) ?_))
  k_with "exec For Name Attribute cons nil" => (k_here; k_dflt (refine For_invVF (by k_asm) (by rfl) (by rfl) ?_))
  k_with "exec For Name Attribute" => (k_here; k_dflt (refine For_invVF (by k_asm) (by rfl) (by rfl) ?_))
  k_with "exec For Name Subscript cons nil" => (k_here; k_dflt (refine For_invVF (by k_asm) (by rfl) (by rfl) ?_))
  k_with "exec For Name Subscript" => (k_here; k_dflt (refine For_invVF (by k_asm) (by rfl) (by rfl) ?_))
  k_with "exec For Name List cons nil" => (k_here; k_dflt (refine For_invVF (by k_asm) (by rfl) (by rfl) ?_))
  k_with "exec For Name List" => (k_here; k_dflt (refine For_invVF (by k_asm) (by rfl) (by rfl) ?_))
  k_with "call builtin:len" => (k_here; k_dflt (first | (refine P.len_str (by lia) ?_) | (refine len_led (by k_asm) (by k_mem) (by lia) ?_)))
  k_with "call builtin:str.rjust" => (k_here; k_dflt (refine SC.rjust (padOk_of (by lia) (by lia)) ?_); intro _ _)
  k_with "call builtin:str.ljust" => (k_here; k_dflt (refine SC.ljust (padOk_of (by lia) (by lia)) ?_); intro _ _)
  k_with "srcat" => exact Or.inr ⟨_, by k_mem, rfl, _, rfl⟩
  k_with "FinE" => ((unfold LCg.FinE); intro D' h' tk' F' N' o1'; (replace o1' := offD_of o1'); (try simp only [OffD, and_true] at o1'); (repeat (obtain ⟨o2', o1'⟩ := o1')); (try simp only [List.nil_append, List.cons_append] at N'); (try dsimp only))
  k_with "fresh" => ((simp only [FreshOver, OffD, List.nil_append, List.cons_append, and_true]); (repeat' (refine And.intro ?_ ?_)); all_goals first | assumption | exact Dist.symm (by assumption) | exact lt_off (by assumption) | exact allLt_off (by assumption) | exact allLt_off (And.right (by assumption)) | exact allLt_off (And.right (And.right (by assumption))) | exact allLt_off (And.right (And.right (And.right (by assumption)))) | exact Dist.of (by lia))
  k_with "subscriptTail" => (k_here; (with_reducible show wpAny _ _ (subscriptTail _ _ (Value.ref _) (Value.int _ _)) _ _ _); k_dflt (refine item_led (by k_asm) (by k_mem) (by lia) (by lia) (by assumption) ?_))
  k_with "binaryOp Add str str" => (k_here; (with_reducible show wpAny _ _ (binaryOp Operator.Add (Value.str _ _) (Value.str _ _)) _ _ _); (refine PyProof.Rows.add_str (hsz := ?zqhz9) ?_); (case zqhz9 => first | (simp only [Str.length_append, sizeLine_eq]; lia) | walk_at "addlen"); intro _ _)
  k_with "subscriptTail Name Name ref int" => (k_here; k_dflt (refine item_led (by k_asm) (by k_mem) (by lia) (by lia) (by assumption) ?_))
  k_with "call builtin:max" => (k_here; k_dflt (refine max_ints rfl (by k_asm) (by k_asm) ?_); intro h' tk' t' F' N'; (try k_sweep))
  k_with "call type:range" => (k_here; (with_reducible show wpAny _ _ (call _ [_, _, _]) _ _ _); k_dflt (refine range3_rows (by k_asm) (by k_asm) (by lia) ?_ (Or.inl (PyProof.noPylong_small (by lia)))); intro h' tk' t₁ u₁ v₁ r' F' N' k')
  k_with "FinA" => ((unfold LCg.FinA); intro D' h' tk' F' N' o1'; (replace o1' := offD_of o1'); (try simp only [OffD, and_true] at o1'); (repeat (obtain ⟨o2', o1'⟩ := o1')); (try simp only [List.nil_append, List.cons_append] at N'); (try dsimp only))
  k_with "exec Assign cons ListComp" => (k_here; k_dflt (refine LCg.Assign_ListComp_U (F₀ := by k_asm) (by rfl) (by with_unfolding_all rfl) (by with_unfolding_all rfl) (by decide) (by rfl) (by decide) (by rfl) (by rfl) (by rfl) ?_))
  k_with "ite" => (refine ite_strs ?_)
  k_with "units_room" => (((try simp only [units_under_make, units_in1, units_deeper, Around.mark_units, units_caller]); (try dsimp only [ktrTop]); (try simp only [units_under_make, units_in1, units_deeper, Around.mark_units, units_caller]); lia))
  k_with "k_room" => (((try simp only [depth_under_make, depth_under_kw, depth_in1, depth_deeper, depth_caller]); (try dsimp only [ktrTop]); lia))
  k_with "k_units" => (units_room)
  k_with "k_all" => (first | assumption | exact off1_ne (by assumption) | exact off1_ne (off3_I (by assumption)) | exact off1_ne (off3_C (by assumption)) | exact off1_ne (off3_D (by assumption)) | exact lt_ne (by assumption) | exact allLt_ne (by assumption) | exact allLt_ne (And.right (by assumption)) | exact allLt_ne (And.right (And.right (by assumption))) | exact allLt_ne (And.right (And.right (And.right (by assumption)))))
  k_with "k_ne" => (first | exact Dist.ne (by assumption) | exact Dist.ne (Dist.symm (by assumption)))
  k_with "led" => ((try dsimp only [vecL, vecD, ent]); (try simp only [List.cons_append, List.nil_append, List.append_nil]); kcf_all)
  k_with "fresh" => ((try dsimp only [vecL, vecD, ent]); (simp only [FreshOver, OffD, List.nil_append, List.cons_append, List.append_nil, and_true]); (repeat' (refine And.intro ?_ ?_)); all_goals first | assumption | exact Dist.symm (by assumption) | exact ne_lt (by assumption) | exact ne_gt (by assumption) | exact lt_off (by assumption) | exact allLt_off (by assumption) | exact Dist.of (by lia))
  k_with "k_lt" => ((rename AllLt _ _ => kltH); simp only [AllLt, and_true] at kltH; (repeat (obtain ⟨_, kltH⟩ : _ ∧ _ := kltH)))
  k_with "k_all" => (first | exact allLt_ne (by assumption) | exact allLt_ne_s (by assumption) | exact off1_ne (by assumption) | exact lt_ne (by assumption) | assumption)
  k_with "k_ne" => (first | exact Dist.ne (by assumption) | exact Dist.ne (Dist.symm (by assumption)) | exact ne_lt (by assumption) | exact ne_gt (by assumption) | exact ne_lt_s (by assumption) | exact ne_gt_s (by assumption) | (refine neN ?_; (try dsimp only); lia))
  trivial
set_option maxRecDepth 100000 in
set_option maxHeartbeats 2000000 in
theorem leveltexts_calls (w : World) {f fd A lv ld l : Addr} {kd : Str} {tk t1 t2 t3 t4 t5 tk2 s1 s2 s3 s4 s5 : Tok} {n n2 ln : Nat} {it : Value} {ao : Obj} {ls : List Value} {rest : List (Str × Value)} {xs : List Str}
    (hA : ao.IsDictOf (strKind prg w) ((Str.ofString "levels", .ref lv) :: rest)) (hAm : (A == sysModules) = false) (hx : StrsAre ls xs) (hn : xs.length ≤ 12) :
    Calls w 204 [.ref f] 1 80 (vecL w f fd kd tk t1 t2 t3 t4 t5 n it (.ref A) ++ (A, ao) :: (vecL w lv ld (Str.ofString "character") tk2 s1 s2 s3 s4 s5 n2 (.ref l) .none ++ [(l, listOf ls.toArray ln)])) []
      (fun v new pre' => ∃ D ys k, v = .ref D ∧ new = [(D, listOf ys.toArray k)] ∧ pre' = vecL w f fd kd tk t1 t2 t3 t4 t5 n it (.ref A) ++ (A, ao) :: (vecL w lv ld (Str.ofString "character") tk2 s1 s2 s3 s4 s5 n2 (.ref l) .none ++ [(l, listOf ls.toArray ln)]) ∧ StrsAre ys xs) := by
  have hxl := hx.len_eq
  unfold Calls
  intro dp un gd cn cs a ccd cl outer A₀ base h₀ L m s loose mean mg mb news Q E B F X N T hk hd hu hm ret
  cases cs; cases hk
  dsimp only [vecL, vecD, ent] at N
  simp only [List.nil_append, List.cons_append] at N
  refine wpAny_call ?_
  k_dflt k_enter
  k_steps
  exact ret _ [(_, listOf ls.toArray _)] _ _ _ ⟨_, _, _, rfl, rfl, rfl, hx⟩ (by walk_at "fresh") (by k_asm) (news_iff (by k_asm) (by walk_at "led"))
theorem words_B12 : True := by
  k_with_none
  k_with "call builtin:list.pop" => (k_here; k_dflt (refine' kl_pop ?zqF ?zqN (kl_last_snoc _ _) ?zqU ?zqZ ?_; (case zqF => k_asm); (case zqN => k_asm); (case zqU => k_upd); (case zqZ => (simp only [sizeLine_eq]; simp only [List.length_append, List.length_singleton]; lia)); k_whole; intro h' F' N'))
  k_with "CompSrc" => (refine Stop.mk ?_)
  k_with "eval ListComp" => (k_here; k_dflt (refine LCg.ListComp_U (F₀ := by k_asm) (by with_unfolding_all rfl) (by decide) (by rfl) (by decide) (by rfl) ?_))
  k_with "sel" => first | exact Sel.nil | (refine' Sel.cons ?zqsl1 ?zqsl2; (case zqsl1 => walk_at "rem"); (case zqsl2 => walk_at "sel"))
  k_with "rem" => first | exact Rem.head | (refine' Rem.tail ?zqrm1; (case zqrm1 => walk_at "rem"))
  k_with "apart" => first | exact List.forall_mem_nil _ | (refine List.forall_mem_cons.mpr ⟨by k_all, ?_⟩; walk_at "apart")
  k_with "CompEnd" => (refine Stop.mk ?_)
  k_with "call builtin:str.join" => (k_here; k_dflt (refine join_led (by k_asm) (by k_mem) (by first | assumption | walk_at "strs") (by first | assumption | decide +kernel) (by first | assumption | walk_at "joinsum") ?_); intro _ _)
  k_with "led" => ((try dsimp only); (try simp only [List.cons_append, List.nil_append]); kcf_all)
  k_with "pyIter ref" => (k_here; refine Stop.mk ?_)
  k_with "exec For" => (k_here; k_dflt (refine For_invVF (by k_asm) (by rfl) (by rfl) ?_))
  k_with "kept" => (intro z9 h91 h92 h93; (try simp only [List.contains_cons, List.contains_nil, Bool.or_false, Bool.or_eq_false_iff, beq_eq_false_iff_ne, ne_eq] at h93); simp [lmap, kstB, h91, h93])
  k_with "held" => first | exact List.forall_mem_nil _ | (refine List.forall_mem_cons.mpr ⟨rfl, ?_⟩; walk_at "held")
  k_with "call builtin:list.append" => (k_here; k_dflt (refine' append_K ?zqk1 ?zqk2 ?zqk3 ?_ ?zqz; (case zqk1 => k_asm); (case zqk2 => k_asm); (case zqk3 => k_upd); (case zqz => first | (simp only [List.size_toArray, sizeLine_eq, List.length_append, List.length_singleton]; lia) | (simp only [List.size_toArray, sizeLine_eq, List.length_append, List.length_singleton]; refine Nat.le_trans (Nat.add_le_add_right (kpick_len _ _ _) _) ?_; lia)); k_whole); intro h' F' N'; (try simp only [List.push_toArray] at N'); (try k_sweep))
  k_with "call builtin:list.reverse" => (k_here; k_dflt (refine' kl_reverse ?zqF ?zqN ?zqe ?zqU ?zqz ?_; (case zqF => k_asm); (case zqN => k_asm); (case zqU => k_upd); (case zqe => exact (rfl : _ = List.reverse _)); (case zqz => (show List.length _ ≤ _; rw [IntsAre.length (by assumption)]; simp only [sizeLine_eq]; lia)); k_whole); intro h' F' N')
  k_with "below" => ((try simp only [List.cons_append, List.nil_append, AllLt, and_true]); first | assumption | exact allLt_iff.mpr (by assumption) | exact And.right (by assumption) | exact And.right (And.right (by assumption)) | exact And.right (And.right (And.right (by assumption))) | exact And.right (And.right (And.right (And.right (by assumption)))))
  k_with "exec For Name Name cons nil" => (k_here; k_dflt (refine For_invVF (by k_asm) (by rfl) (by rfl) ?_))
  k_with "exec For Name Name" => (k_here; k_dflt (refine For_invVF (by k_asm) (by rfl) (by rfl) ?_))
  k_with "exec For Name Call cons nil" => (k_here; k_dflt (refine For_invVF (by k_asm) (by rfl) (by rfl) ?_))
  k_with "exec For Name Call" => (k_here; k_dflt (refine For_invVF (by k_asm) (by rfl) (by rfl) ?_))
  k_with "exec For Name Attribute cons nil" => (k_here; k_dflt (refine For_invVF (by k_asm) (by rfl) (by rfl) ?_))
  k_with "exec For Name Attribute" => (k_here; k_dflt (refine For_invVF (by k_asm) (by rfl) (by rfl) ?_))
  k_with "exec For Name Subscript cons nil" => (k_here; k_dflt (refine For_invVF (by k_asm) (by rfl) (by rfl) ?_))
  k_with "exec For Name Subscript" => (k_here; k_dflt (refine For_invVF (by k_asm) (by rfl) (by rfl) ?_))
  k_with "exec For Name List cons nil" => (k_here; k_dflt (refine For_invVF (by k_asm) (by rfl) (by rfl) ?_))
  k_with "exec For Name List" => (k_here; k_dflt (refine For_invVF (by k_asm) (by rfl) (by rfl) ?_))
  k_with "call builtin:len" => (k_here; k_dflt (first | (refine P.len_str (by lia) ?_) | (refine len_led (by k_asm) (by k_mem) (by lia) ?_)))
  k_with "call builtin:str.rjust" => (k_here; k_dflt (refine SC.rjust (padOk_of (by lia) (by lia)) ?_); intro _ _)
  k_with "call builtin:str.ljust" => (k_here; k_dflt (refine SC.ljust (padOk_of (by lia) (by lia)) ?_); intro _ _)
  k_with "srcat" => exact Or.inr ⟨_, by k_mem, rfl, _, rfl⟩
  k_with "FinE" => ((unfold LCg.FinE); intro D' h' tk' F' N' o1'; (replace o1' := offD_of o1'); (try simp only [OffD, and_true] at o1'); (repeat (obtain ⟨o2', o1'⟩ := o1')); (try simp only [List.nil_append, List.cons_append] at N'); (try dsimp only))
  k_with "fresh" => ((simp only [FreshOver, OffD, List.nil_append, List.cons_append, and_true]); (repeat' (refine And.intro ?_ ?_)); all_goals first | assumption | exact Dist.symm (by assumption) | exact lt_off (by assumption) | exact allLt_off (by assumption) | exact allLt_off (And.right (by assumption)) | exact allLt_off (And.right (And.right (by assumption))) | exact allLt_off (And.right (And.right (And.right (by assumption)))) | exact Dist.of (by lia))
  k_with "subscriptTail" => (k_here; (with_reducible show wpAny _ _ (subscriptTail _ _ (Value.ref _) (Value.int _ _)) _ _ _); k_dflt (refine item_led (by k_asm) (by k_mem) (by lia) (by lia) (by assumption) ?_))
  k_with "binaryOp Add str str" => (k_here; (with_reducible show wpAny _ _ (binaryOp Operator.Add (Value.str _ _) (Value.str _ _)) _ _ _); (refine PyProof.Rows.add_str (hsz := ?zqhz9) ?_); (case zqhz9 => first | (simp only [Str.length_append, sizeLine_eq]; lia) | walk_at "addlen"); intro _ _)
  k_with "subscriptTail Name Name ref int" => (k_here; k_dflt (refine item_led (by k_asm) (by k_mem) (by lia) (by lia) (by assumption) ?_))
  k_with "call builtin:max" => (k_here; k_dflt (refine max_ints rfl (by k_asm) (by k_asm) ?_); intro h' tk' t' F' N'; (try k_sweep))
  k_with "call type:range" => (k_here; (with_reducible show wpAny _ _ (call _ [_, _, _]) _ _ _); k_dflt (refine range3_rows (by k_asm) (by k_asm) (by lia) ?_ (Or.inl (PyProof.noPylong_small (by lia)))); intro h' tk' t₁ u₁ v₁ r' F' N' k')
  k_with "FinA" => ((unfold LCg.FinA); intro D' h' tk' F' N' o1'; (replace o1' := offD_of o1'); (try simp only [OffD, and_true] at o1'); (repeat (obtain ⟨o2', o1'⟩ := o1')); (try simp only [List.nil_append, List.cons_append] at N'); (try dsimp only))
  k_with "exec Assign cons ListComp" => (k_here; k_dflt (refine LCg.Assign_ListComp_U (F₀ := by k_asm) (by rfl) (by with_unfolding_all rfl) (by with_unfolding_all rfl) (by decide) (by rfl) (by decide) (by rfl) (by rfl) (by rfl) ?_))
  k_with "ite" => (refine ite_strs ?_)
  k_with "units_room" => (((try simp only [units_under_make, units_in1, units_deeper, Around.mark_units, units_caller]); (try dsimp only [ktrTop]); (try simp only [units_under_make, units_in1, units_deeper, Around.mark_units, units_caller]); lia))
  k_with "k_room" => (((try simp only [depth_under_make, depth_under_kw, depth_in1, depth_deeper, depth_caller]); (try dsimp only [ktrTop]); lia))
  k_with "k_units" => (units_room)
  k_with "k_all" => (first | assumption | exact off1_ne (by assumption) | exact off1_ne (off3_I (by assumption)) | exact off1_ne (off3_C (by assumption)) | exact off1_ne (off3_D (by assumption)) | exact lt_ne (by assumption) | exact allLt_ne (by assumption) | exact allLt_ne (And.right (by assumption)) | exact allLt_ne (And.right (And.right (by assumption))) | exact allLt_ne (And.right (And.right (And.right (by assumption)))))
  k_with "k_ne" => (first | exact Dist.ne (by assumption) | exact Dist.ne (Dist.symm (by assumption)))
  k_with "led" => ((try dsimp only [vecL, vecD, ent]); (try simp only [List.cons_append, List.nil_append, List.append_nil]); kcf_all)
  k_with "fresh" => ((try dsimp only [vecL, vecD, ent]); (simp only [FreshOver, OffD, List.nil_append, List.cons_append, List.append_nil, and_true]); (repeat' (refine And.intro ?_ ?_)); all_goals first | assumption | exact Dist.symm (by assumption) | exact ne_lt (by assumption) | exact ne_gt (by assumption) | exact lt_off (by assumption) | exact allLt_off (by assumption) | exact Dist.of (by lia))
  k_with "k_lt" => ((rename AllLt _ _ => kltH); simp only [AllLt, and_true] at kltH; (repeat (obtain ⟨_, kltH⟩ : _ ∧ _ := kltH)))
  k_with "k_all" => (first | exact allLt_ne (by assumption) | exact allLt_ne_s (by assumption) | exact off1_ne (by assumption) | exact lt_ne (by assumption) | assumption)
  k_with "k_ne" => (first | exact Dist.ne (by assumption) | exact Dist.ne (Dist.symm (by assumption)) | exact ne_lt (by assumption) | exact ne_gt (by assumption) | exact ne_lt_s (by assumption) | exact ne_gt_s (by assumption) | (refine neN ?_; (try dsimp only); lia))
  k_with "call ref" => (k_here; (with_reducible show wpAny _ _ (call (.ref 204) _) _ _ _); k_dflt (refine Calls.use (by k_asm) (by k_asm) (by k_asm) (by k_asm) (by k_asm) rfl (by walk_at "sel") (leveltexts_calls _ (by k_asm) (by k_asm) (by k_asm) (by lia)) (by k_room) (by units_room) (by walk_at "apart") ?_); k_whole; intro v9 nw9 pr9 h' tk' hp9 hf' F' N'; obtain ⟨D', ys', k', e91, e92, e93, hys'⟩ := hp9; subst e91; subst e92; subst e93; (try simp only [List.nil_append, List.cons_append] at N'); (try simp only [FreshOver, OffD, List.nil_append, List.cons_append, and_true] at hf'); (repeat (obtain ⟨o2', hf'⟩ := hf')); (try dsimp only [vecL, vecD, ent] at N'); (try dsimp only))
  trivial
set_option maxRecDepth 100000 in
set_option maxHeartbeats 2000000 in
theorem labels_calls (w : World) {f fd A lv ld l c : Addr} {kd : Str} {tk t1 t2 t3 t4 t5 tk2 s1 s2 s3 s4 s5 : Tok} {n n2 ln cn : Nat} {ao : Obj} {ls cvs : List Value} {rest : List (Str × Value)} {xs : List Str} {ks : List (Option Int)}
    (hA : ao.IsDictOf (strKind prg w) ((Str.ofString "levels", .ref lv) :: rest)) (hAm : (A == sysModules) = false) (hx : StrsAre ls xs) (hn : xs.length ≤ 12) (hc : CodesAre cvs ks) (hn2 : ks.length ≤ 12) :
    Calls w 211 [.ref f, .none] 2 90 (vecL w f fd kd tk t1 t2 t3 t4 t5 n (.ref c) (.ref A) ++ (A, ao) :: (vecL w lv ld (Str.ofString "character") tk2 s1 s2 s3 s4 s5 n2 (.ref l) .none ++ [(l, listOf ls.toArray ln), (c, listOf cvs.toArray cn)])) []
      (fun v new pre' => ∃ D ys k, v = .ref D ∧ new = [(D, listOf ys.toArray k)] ∧ pre' = vecL w f fd kd tk t1 t2 t3 t4 t5 n (.ref c) (.ref A) ++ (A, ao) :: (vecL w lv ld (Str.ofString "character") tk2 s1 s2 s3 s4 s5 n2 (.ref l) .none ++ [(l, listOf ls.toArray ln), (c, listOf cvs.toArray cn)]) ∧ LabsAre ys (ks.map (labOf xs))) := by
  have hxl := hx.len_eq
  have hcl := hc.len_eq
  unfold Calls
  intro dp un gd cn' cs a ccd cl outer A₀ base h₀ L m s loose mean mg mb news Q E B F X N T hk hd hu hm ret
  cases cs; cases hk
  dsimp only [vecL, vecD, ent] at N
  simp only [List.nil_append, List.cons_append] at N
  refine wpAny_call ?_
  k_dflt k_enter
  k_steps
  unfold Stop
  rename List Value => ys9
  rename StrsAre ys9 xs => hys9
  have hyl := hys9.len_eq
  refine for_list (fun c : List Value × Nat => [(_, listOf c.1.toArray c.2)]) _ [Str.ofString "label"] (fun _ => []) (fun i c => LabsAre c.1 ((ks.take i).map (labOf xs)) ∧ c.1.length ≤ i) ([], 0)
    (by k_asm) (by k_asm) (by k_mem) (fun p hp => hp) (fun _ => rfl) (by walk_at "held") rfl ⟨.nil, Nat.le_refl _⟩ ?_ ?_
  · rintro i v ⟨us, k9⟩ u I oI h tk hi9 hv ⟨hus, hul⟩ hlt F₁ N₁
    dsimp only [vecL, vecD, ent] at N₁ hlt
    simp only [List.cons_append, List.nil_append, AllLt, and_true] at N₁ hlt
    dsimp only at hus hul ⊢
    rcases hc.item i v hv with ⟨rfl, hki⟩ | ⟨k, tk9, rfl, hki⟩
    · k_steps
      exact TEnd.next (c' := (_, _)) (by k_asm) (by k_asm) (by walk_at "led") (by walk_at "held") (by walk_at "kept") ⟨labs_snoc hus hki rfl (.none .nil), by simp; lia⟩
    · k_steps
      all_goals first
        | exact TEnd.next (c' := (_, _)) (by k_asm) (by k_asm) (by walk_at "led") (by walk_at "held") (by walk_at "kept") ⟨labs_snoc hus hki (labOf_in (by lia)) (.str _ _ .nil), by simp; lia⟩
        | exact TEnd.next (c' := (_, _)) (by k_asm) (by k_asm) (by walk_at "led") (by walk_at "held") (by walk_at "kept") ⟨labs_snoc hus hki (labOf_out (by lia)) (.none .nil), by simp; lia⟩
  · rintro ⟨us, k9⟩ u v h tk ⟨hus, hul⟩ F₁ N₁
    dsimp only [vecL, vecD, ent] at N₁
    simp only [List.cons_append, List.nil_append] at N₁
    dsimp only at hus hul ⊢
    rw [List.take_of_length_le (by lia)] at hus
    k_steps
    exact ret _ [(_, listOf us.toArray _)] _ _ _ ⟨_, _, _, rfl, rfl, rfl, hus⟩ (by walk_at "fresh") (by k_asm) (news_iff (by k_asm) (by walk_at "led"))
theorem words_B13 : True := by
  k_with_none
  k_with "call builtin:list.pop" => (k_here; k_dflt (refine' kl_pop ?zqF ?zqN (kl_last_snoc _ _) ?zqU ?zqZ ?_; (case zqF => k_asm); (case zqN => k_asm); (case zqU => k_upd); (case zqZ => (simp only [sizeLine_eq]; simp only [List.length_append, List.length_singleton]; lia)); k_whole; intro h' F' N'))
  k_with "CompSrc" => (refine Stop.mk ?_)
  k_with "eval ListComp" => (k_here; k_dflt (refine LCg.ListComp_U (F₀ := by k_asm) (by with_unfolding_all rfl) (by decide) (by rfl) (by decide) (by rfl) ?_))
  k_with "sel" => first | exact Sel.nil | (refine' Sel.cons ?zqsl1 ?zqsl2; (case zqsl1 => walk_at "rem"); (case zqsl2 => walk_at "sel"))
  k_with "rem" => first | exact Rem.head | (refine' Rem.tail ?zqrm1; (case zqrm1 => walk_at "rem"))
  k_with "apart" => first | exact List.forall_mem_nil _ | (refine List.forall_mem_cons.mpr ⟨by k_all, ?_⟩; walk_at "apart")
  k_with "CompEnd" => (refine Stop.mk ?_)
  k_with "call builtin:str.join" => (k_here; k_dflt (refine join_led (by k_asm) (by k_mem) (by first | assumption | walk_at "strs") (by first | assumption | decide +kernel) (by first | assumption | walk_at "joinsum") ?_); intro _ _)
  k_with "led" => ((try dsimp only); (try simp only [List.cons_append, List.nil_append]); kcf_all)
  k_with "pyIter ref" => (k_here; refine Stop.mk ?_)
  k_with "exec For" => (k_here; k_dflt (refine For_invVF (by k_asm) (by rfl) (by rfl) ?_))
  k_with "kept" => (intro z9 h91 h92 h93; (try simp only [List.contains_cons, List.contains_nil, Bool.or_false, Bool.or_eq_false_iff, beq_eq_false_iff_ne, ne_eq] at h93); simp [lmap, kstB, h91, h93])
  k_with "held" => first | exact List.forall_mem_nil _ | (refine List.forall_mem_cons.mpr ⟨rfl, ?_⟩; walk_at "held")
  k_with "call builtin:list.append" => (k_here; k_dflt (refine' append_K ?zqk1 ?zqk2 ?zqk3 ?_ ?zqz; (case zqk1 => k_asm); (case zqk2 => k_asm); (case zqk3 => k_upd); (case zqz => first | (simp only [List.size_toArray, sizeLine_eq, List.length_append, List.length_singleton]; lia) | (simp only [List.size_toArray, sizeLine_eq, List.length_append, List.length_singleton]; refine Nat.le_trans (Nat.add_le_add_right (kpick_len _ _ _) _) ?_; lia)); k_whole); intro h' F' N'; (try simp only [List.push_toArray] at N'); (try k_sweep))
  k_with "call builtin:list.reverse" => (k_here; k_dflt (refine' kl_reverse ?zqF ?zqN ?zqe ?zqU ?zqz ?_; (case zqF => k_asm); (case zqN => k_asm); (case zqU => k_upd); (case zqe => exact (rfl : _ = List.reverse _)); (case zqz => (show List.length _ ≤ _; rw [IntsAre.length (by assumption)]; simp only [sizeLine_eq]; lia)); k_whole); intro h' F' N')
  k_with "below" => ((try simp only [List.cons_append, List.nil_append, AllLt, and_true]); first | assumption | exact allLt_iff.mpr (by assumption) | exact And.right (by assumption) | exact And.right (And.right (by assumption)) | exact And.right (And.right (And.right (by assumption))) | exact And.right (And.right (And.right (And.right (by assumption)))))
  k_with "exec For Name Name cons nil" => (k_here; k_dflt (refine For_invVF (by k_asm) (by rfl) (by rfl) ?_))
  k_with "exec For Name Name" => (k_here; k_dflt (refine For_invVF (by k_asm) (by rfl) (by rfl) ?_))
  k_with "exec For Name Call cons nil" => (k_here; k_dflt (refine For_invVF (by k_asm) (by rfl) (by rfl) ?_))
  k_with "exec For Name Call" => (k_here; k_dflt (refine For_invVF (by k_asm) (by rfl) (by rfl) ?_))
  k_with "exec For Name Attribute cons nil" => (k_here; k_dflt (refine For_invVF (by k_asm) (by rfl) (by rfl) ?_))
  k_with "exec For Name Attribute" => (k_here; k_dflt (refine For_invVF (by k_asm) (by rfl) (by rfl) ?_))
  k_with "exec For Name Subscript cons nil" => (k_here; k_dflt (refine For_invVF (by k_asm) (by rfl) (by rfl) ?_))
  k_with "exec For Name Subscript" => (k_here; k_dflt (refine For_invVF (by k_asm) (by rfl) (by rfl) ?_))
  k_with "exec For Name List cons nil" => (k_here; k_dflt (refine For_invVF (by k_asm) (by rfl) (by rfl) ?_))
  k_with "exec For Name List" => (k_here; k_dflt (refine For_invVF (by k_asm) (by rfl) (by rfl) ?_))
  k_with "call builtin:len" => (k_here; k_dflt (first | (refine P.len_str (by lia) ?_) | (refine len_led (by k_asm) (by k_mem) (by lia) ?_)))
  k_with "call builtin:str.rjust" => (k_here; k_dflt (refine SC.rjust (padOk_of (by lia) (by lia)) ?_); intro _ _)
  k_with "call builtin:str.ljust" => (k_here; k_dflt (refine SC.ljust (padOk_of (by lia) (by lia)) ?_); intro _ _)
  k_with "srcat" => exact Or.inr ⟨_, by k_mem, rfl, _, rfl⟩
  k_with "FinE" => ((unfold LCg.FinE); intro D' h' tk' F' N' o1'; (replace o1' := offD_of o1'); (try simp only [OffD, and_true] at o1'); (repeat (obtain ⟨o2', o1'⟩ := o1')); (try simp only [List.nil_append, List.cons_append] at N'); (try dsimp only))
  k_with "fresh" => ((simp only [FreshOver, OffD, List.nil_append, List.cons_append, and_true]); (repeat' (refine And.intro ?_ ?_)); all_goals first | assumption | exact Dist.symm (by assumption) | exact lt_off (by assumption) | exact allLt_off (by assumption) | exact allLt_off (And.right (by assumption)) | exact allLt_off (And.right (And.right (by assumption))) | exact allLt_off (And.right (And.right (And.right (by assumption)))) | exact Dist.of (by lia))
  k_with "subscriptTail" => (k_here; (with_reducible show wpAny _ _ (subscriptTail _ _ (Value.ref _) (Value.int _ _)) _ _ _); k_dflt (refine item_led (by k_asm) (by k_mem) (by lia) (by lia) (by assumption) ?_))
  k_with "binaryOp Add str str" => (k_here; (with_reducible show wpAny _ _ (binaryOp Operator.Add (Value.str _ _) (Value.str _ _)) _ _ _); (refine PyProof.Rows.add_str (hsz := ?zqhz9) ?_); (case zqhz9 => first | (simp only [Str.length_append, sizeLine_eq]; lia) | walk_at "addlen"); intro _ _)
  k_with "subscriptTail Name Name ref int" => (k_here; k_dflt (refine item_led (by k_asm) (by k_mem) (by lia) (by lia) (by assumption) ?_))
  k_with "call builtin:max" => (k_here; k_dflt (refine max_ints rfl (by k_asm) (by k_asm) ?_); intro h' tk' t' F' N'; (try k_sweep))
  k_with "call type:range" => (k_here; (with_reducible show wpAny _ _ (call _ [_, _, _]) _ _ _); k_dflt (refine range3_rows (by k_asm) (by k_asm) (by lia) ?_ (Or.inl (PyProof.noPylong_small (by lia)))); intro h' tk' t₁ u₁ v₁ r' F' N' k')
  k_with "FinA" => ((unfold LCg.FinA); intro D' h' tk' F' N' o1'; (replace o1' := offD_of o1'); (try simp only [OffD, and_true] at o1'); (repeat (obtain ⟨o2', o1'⟩ := o1')); (try simp only [List.nil_append, List.cons_append] at N'); (try dsimp only))
  k_with "exec Assign cons ListComp" => (k_here; k_dflt (refine LCg.Assign_ListComp_U (F₀ := by k_asm) (by rfl) (by with_unfolding_all rfl) (by with_unfolding_all rfl) (by decide) (by rfl) (by decide) (by rfl) (by rfl) (by rfl) ?_))
  k_with "ite" => (refine ite_strs ?_)
  k_with "units_room" => (((try simp only [units_under_make, units_in1, units_deeper, Around.mark_units, units_caller]); (try dsimp only [ktrTop]); (try simp only [units_under_make, units_in1, units_deeper, Around.mark_units, units_caller]); lia))
  k_with "k_room" => (((try simp only [depth_under_make, depth_under_kw, depth_in1, depth_deeper, depth_caller]); (try dsimp only [ktrTop]); lia))
  k_with "k_units" => (units_room)
  k_with "k_all" => (first | assumption | exact off1_ne (by assumption) | exact off1_ne (off3_I (by assumption)) | exact off1_ne (off3_C (by assumption)) | exact off1_ne (off3_D (by assumption)) | exact lt_ne (by assumption) | exact allLt_ne (by assumption) | exact allLt_ne (And.right (by assumption)) | exact allLt_ne (And.right (And.right (by assumption))) | exact allLt_ne (And.right (And.right (And.right (by assumption)))))
  k_with "k_ne" => (first | exact Dist.ne (by assumption) | exact Dist.ne (Dist.symm (by assumption)))
  k_with "call ref" => (k_here; (with_reducible show wpAny _ _ (call (.ref 154) _) _ _ _); k_dflt (refine Calls.use (by k_asm) (by k_asm) (by k_asm) (by k_asm) (by k_asm) rfl (by walk_at "sel") (enc_calls _ (by assumption) (by lia)) (by k_room) (by units_room) (by walk_at "apart") ?_); k_whole; intro v9 nw9 pr9 h' tk' hp9 hf' F' N'; obtain ⟨e91, e92, t', e93⟩ := hp9; subst e91; subst e92; subst e93; (try simp only [List.nil_append, List.cons_append] at N'); (try dsimp only))
  k_with "call ref" => (k_here; (with_reducible show wpAny _ _ (call (.ref 154) _) _ _ _); k_dflt (refine Calls.use (by k_asm) (by k_asm) (by k_asm) (by k_asm) (by k_asm) rfl (by walk_at "sel") (encN_calls _) (by k_room) (by units_room) (by walk_at "apart") ?_); k_whole; intro v9 nw9 pr9 h' tk' hp9 hf' F' N'; obtain ⟨e91, e92, t', e93⟩ := hp9; subst e91; subst e92; subst e93; (try simp only [List.nil_append, List.cons_append] at N'); (try dsimp only))
  trivial
set_option maxRecDepth 100000 in
set_option maxHeartbeats 2000000 in
theorem fmtS_calls (w : World) {y : Str} {t t1 t2 : Tok} (hy : Letters y) (hl : y.length ≤ 900) :
    Calls w 176 [.str (Str.ofString "character") t1, .str y t, .int 7 t2, .bool false] 3 110 [] [] (fun v new pre' => new = [] ∧ pre' = [] ∧ ∃ t', v = .str y t') := by
  unfold Calls
  intro dp un gd cn cs a ccd cl outer A₀ base h₀ L m s loose mean mg mb news Q E B F X N T hk hd hu hm ret
  cases cs; cases hk
  simp only [List.nil_append] at N
  refine wpAny_call ?_
  k_dflt k_enter
  k_steps
  exact ret _ [] [] _ _ ⟨rfl, rfl, _, rfl⟩ trivial (by k_asm) (news_iff (by k_asm) (by walk_at "led"))
set_option maxRecDepth 100000 in
set_option maxHeartbeats 2000000 in
theorem fmtN_calls (w : World) {t1 t2 : Tok} :
    Calls w 176 [.str (Str.ofString "character") t1, .none, .int 7 t2, .bool false] 3 110 [] [] (fun v new pre' => new = [] ∧ pre' = [] ∧ ∃ t', v = .str (Str.ofString "<NA>") t') := by
  unfold Calls
  intro dp un gd cn cs a ccd cl outer A₀ base h₀ L m s loose mean mg mb news Q E B F X N T hk hd hu hm ret
  cases cs; cases hk
  simp only [List.nil_append] at N
  refine wpAny_call ?_
  k_dflt k_enter
  k_steps
  exact ret _ [] [] _ _ ⟨rfl, rfl, _, rfl⟩ trivial (by k_asm) (news_iff (by k_asm) (by walk_at "led"))
theorem words_B14 : True := by
  k_with_none
  k_with "call builtin:list.pop" => (k_here; k_dflt (refine' kl_pop ?zqF ?zqN (kl_last_snoc _ _) ?zqU ?zqZ ?_; (case zqF => k_asm); (case zqN => k_asm); (case zqU => k_upd); (case zqZ => (simp only [sizeLine_eq]; simp only [List.length_append, List.length_singleton]; lia)); k_whole; intro h' F' N'))
  k_with "CompSrc" => (refine Stop.mk ?_)
  k_with "eval ListComp" => (k_here; k_dflt (refine LCg.ListComp_U (F₀ := by k_asm) (by with_unfolding_all rfl) (by decide) (by rfl) (by decide) (by rfl) ?_))
  k_with "sel" => first | exact Sel.nil | (refine' Sel.cons ?zqsl1 ?zqsl2; (case zqsl1 => walk_at "rem"); (case zqsl2 => walk_at "sel"))
  k_with "rem" => first | exact Rem.head | (refine' Rem.tail ?zqrm1; (case zqrm1 => walk_at "rem"))
  k_with "apart" => first | exact List.forall_mem_nil _ | (refine List.forall_mem_cons.mpr ⟨by k_all, ?_⟩; walk_at "apart")
  k_with "CompEnd" => (refine Stop.mk ?_)
  k_with "call builtin:str.join" => (k_here; k_dflt (refine join_led (by k_asm) (by k_mem) (by first | assumption | walk_at "strs") (by first | assumption | decide +kernel) (by first | assumption | walk_at "joinsum") ?_); intro _ _)
  k_with "led" => ((try dsimp only); (try simp only [List.cons_append, List.nil_append]); kcf_all)
  k_with "pyIter ref" => (k_here; refine Stop.mk ?_)
  k_with "exec For" => (k_here; k_dflt (refine For_invVF (by k_asm) (by rfl) (by rfl) ?_))
  k_with "kept" => (intro z9 h91 h92 h93; (try simp only [List.contains_cons, List.contains_nil, Bool.or_false, Bool.or_eq_false_iff, beq_eq_false_iff_ne, ne_eq] at h93); simp [lmap, kstB, h91, h93])
  k_with "held" => first | exact List.forall_mem_nil _ | (refine List.forall_mem_cons.mpr ⟨rfl, ?_⟩; walk_at "held")
  k_with "call builtin:list.append" => (k_here; k_dflt (refine' append_K ?zqk1 ?zqk2 ?zqk3 ?_ ?zqz; (case zqk1 => k_asm); (case zqk2 => k_asm); (case zqk3 => k_upd); (case zqz => first | (simp only [List.size_toArray, sizeLine_eq, List.length_append, List.length_singleton]; lia) | (simp only [List.size_toArray, sizeLine_eq, List.length_append, List.length_singleton]; refine Nat.le_trans (Nat.add_le_add_right (kpick_len _ _ _) _) ?_; lia)); k_whole); intro h' F' N'; (try simp only [List.push_toArray] at N'); (try k_sweep))
  k_with "call builtin:list.reverse" => (k_here; k_dflt (refine' kl_reverse ?zqF ?zqN ?zqe ?zqU ?zqz ?_; (case zqF => k_asm); (case zqN => k_asm); (case zqU => k_upd); (case zqe => exact (rfl : _ = List.reverse _)); (case zqz => (show List.length _ ≤ _; rw [IntsAre.length (by assumption)]; simp only [sizeLine_eq]; lia)); k_whole); intro h' F' N')
  k_with "below" => ((try simp only [List.cons_append, List.nil_append, AllLt, and_true]); first | assumption | exact allLt_iff.mpr (by assumption) | exact And.right (by assumption) | exact And.right (And.right (by assumption)) | exact And.right (And.right (And.right (by assumption))) | exact And.right (And.right (And.right (And.right (by assumption)))))
  k_with "exec For Name Name cons nil" => (k_here; k_dflt (refine For_invVF (by k_asm) (by rfl) (by rfl) ?_))
  k_with "exec For Name Name" => (k_here; k_dflt (refine For_invVF (by k_asm) (by rfl) (by rfl) ?_))
  k_with "exec For Name Call cons nil" => (k_here; k_dflt (refine For_invVF (by k_asm) (by rfl) (by rfl) ?_))
  k_with "exec For Name Call" => (k_here; k_dflt (refine For_invVF (by k_asm) (by rfl) (by rfl) ?_))
  k_with "exec For Name Attribute cons nil" => (k_here; k_dflt (refine For_invVF (by k_asm) (by rfl) (by rfl) ?_))
  k_with "exec For Name Attribute" => (k_here; k_dflt (refine For_invVF (by k_asm) (by rfl) (by rfl) ?_))
  k_with "exec For Name Subscript cons nil" => (k_here; k_dflt (refine For_invVF (by k_asm) (by rfl) (by rfl) ?_))
  k_with "exec For Name Subscript" => (k_here; k_dflt (refine For_invVF (by k_asm) (by rfl) (by rfl) ?_))
  k_with "exec For Name List cons nil" => (k_here; k_dflt (refine For_invVF (by k_asm) (by rfl) (by rfl) ?_))
  k_with "exec For Name List" => (k_here; k_dflt (refine For_invVF (by k_asm) (by rfl) (by rfl) ?_))
  k_with "call builtin:len" => (k_here; k_dflt (first | (refine P.len_str (by lia) ?_) | (refine len_led (by k_asm) (by k_mem) (by lia) ?_)))
  k_with "call builtin:str.rjust" => (k_here; k_dflt (refine SC.rjust (padOk_of (by lia) (by lia)) ?_); intro _ _)
  k_with "call builtin:str.ljust" => (k_here; k_dflt (refine SC.ljust (padOk_of (by lia) (by lia)) ?_); intro _ _)
  k_with "srcat" => exact Or.inr ⟨_, by k_mem, rfl, _, rfl⟩
  k_with "FinE" => ((unfold LCg.FinE); intro D' h' tk' F' N' o1'; (replace o1' := offD_of o1'); (try simp only [OffD, and_true] at o1'); (repeat (obtain ⟨o2', o1'⟩ := o1')); (try simp only [List.nil_append, List.cons_append] at N'); (try dsimp only))
  k_with "fresh" => ((simp only [FreshOver, OffD, List.nil_append, List.cons_append, and_true]); (repeat' (refine And.intro ?_ ?_)); all_goals first | assumption | exact Dist.symm (by assumption) | exact lt_off (by assumption) | exact allLt_off (by assumption) | exact allLt_off (And.right (by assumption)) | exact allLt_off (And.right (And.right (by assumption))) | exact allLt_off (And.right (And.right (And.right (by assumption)))) | exact Dist.of (by lia))
  k_with "subscriptTail" => (k_here; (with_reducible show wpAny _ _ (subscriptTail _ _ (Value.ref _) (Value.int _ _)) _ _ _); k_dflt (refine item_led (by k_asm) (by k_mem) (by lia) (by lia) (by assumption) ?_))
  k_with "binaryOp Add str str" => (k_here; (with_reducible show wpAny _ _ (binaryOp Operator.Add (Value.str _ _) (Value.str _ _)) _ _ _); (refine PyProof.Rows.add_str (hsz := ?zqhz9) ?_); (case zqhz9 => first | (simp only [Str.length_append, sizeLine_eq]; lia) | walk_at "addlen"); intro _ _)
  k_with "subscriptTail Name Name ref int" => (k_here; k_dflt (refine item_led (by k_asm) (by k_mem) (by lia) (by lia) (by assumption) ?_))
  k_with "call builtin:max" => (k_here; k_dflt (refine max_ints rfl (by k_asm) (by k_asm) ?_); intro h' tk' t' F' N'; (try k_sweep))
  k_with "call type:range" => (k_here; (with_reducible show wpAny _ _ (call _ [_, _, _]) _ _ _); k_dflt (refine range3_rows (by k_asm) (by k_asm) (by lia) ?_ (Or.inl (PyProof.noPylong_small (by lia)))); intro h' tk' t₁ u₁ v₁ r' F' N' k')
  k_with "FinA" => ((unfold LCg.FinA); intro D' h' tk' F' N' o1'; (replace o1' := offD_of o1'); (try simp only [OffD, and_true] at o1'); (repeat (obtain ⟨o2', o1'⟩ := o1')); (try simp only [List.nil_append, List.cons_append] at N'); (try dsimp only))
  k_with "exec Assign cons ListComp" => (k_here; k_dflt (refine LCg.Assign_ListComp_U (F₀ := by k_asm) (by rfl) (by with_unfolding_all rfl) (by with_unfolding_all rfl) (by decide) (by rfl) (by decide) (by rfl) (by rfl) (by rfl) ?_))
  k_with "ite" => (refine ite_strs ?_)
  k_with "units_room" => (((try simp only [units_under_make, units_in1, units_deeper, Around.mark_units, units_caller]); (try dsimp only [ktrTop]); (try simp only [units_under_make, units_in1, units_deeper, Around.mark_units, units_caller]); lia))
  k_with "k_room" => (((try simp only [depth_under_make, depth_under_kw, depth_in1, depth_deeper, depth_caller]); (try dsimp only [ktrTop]); lia))
  k_with "k_units" => (units_room)
  k_with "k_all" => (first | assumption | exact off1_ne (by assumption) | exact off1_ne (off3_I (by assumption)) | exact off1_ne (off3_C (by assumption)) | exact off1_ne (off3_D (by assumption)) | exact lt_ne (by assumption) | exact allLt_ne (by assumption) | exact allLt_ne (And.right (by assumption)) | exact allLt_ne (And.right (And.right (by assumption))) | exact allLt_ne (And.right (And.right (And.right (by assumption)))))
  k_with "k_ne" => (first | exact Dist.ne (by assumption) | exact Dist.ne (Dist.symm (by assumption)))
  k_with "led" => ((try dsimp only [vecL, vecD, ent]); (try simp only [List.cons_append, List.nil_append, List.append_nil]); kcf_all)
  k_with "fresh" => ((try dsimp only [vecL, vecD, ent]); (simp only [FreshOver, OffD, List.nil_append, List.cons_append, List.append_nil, and_true]); (repeat' (refine And.intro ?_ ?_)); all_goals first | assumption | exact Dist.symm (by assumption) | exact ne_lt (by assumption) | exact ne_gt (by assumption) | exact lt_off (by assumption) | exact allLt_off (by assumption) | exact Dist.of (by lia))
  k_with "k_lt" => ((rename AllLt _ _ => kltH); simp only [AllLt, and_true] at kltH; (repeat (obtain ⟨_, kltH⟩ : _ ∧ _ := kltH)))
  k_with "k_all" => (first | exact allLt_ne (by assumption) | exact allLt_ne_s (by assumption) | exact off1_ne (by assumption) | exact lt_ne (by assumption) | assumption)
  k_with "k_ne" => (first | exact Dist.ne (by assumption) | exact Dist.ne (Dist.symm (by assumption)) | exact ne_lt (by assumption) | exact ne_gt (by assumption) | exact ne_lt_s (by assumption) | exact ne_gt_s (by assumption) | (refine neN ?_; (try dsimp only); lia))
  k_with "call ref" => (k_here; (with_reducible show wpAny _ _ (call (.ref 176) _) _ _ _); k_dflt (refine Calls.use (by k_asm) (by k_asm) (by k_asm) (by k_asm) (by k_asm) rfl (by walk_at "sel") (fmtS_calls _ (by assumption) (by lia)) (by k_room) (by units_room) (by walk_at "apart") ?_); k_whole; intro v9 nw9 pr9 h' tk' hp9 hf' F' N'; obtain ⟨e91, e92, t', e93⟩ := hp9; subst e91; subst e92; subst e93; (try simp only [List.nil_append, List.cons_append] at N'); (try dsimp only))
  k_with "call ref" => (k_here; (with_reducible show wpAny _ _ (call (.ref 176) _) _ _ _); k_dflt (refine Calls.use (by k_asm) (by k_asm) (by k_asm) (by k_asm) (by k_asm) rfl (by walk_at "sel") (fmtN_calls _) (by k_room) (by units_room) (by walk_at "apart") ?_); k_whole; intro v9 nw9 pr9 h' tk' hp9 hf' F' N'; obtain ⟨e91, e92, t', e93⟩ := hp9; subst e91; subst e92; subst e93; (try simp only [List.nil_append, List.cons_append] at N'); (try dsimp only))
  trivial
noncomputable def shown (c : Option Str) : Str := c.getD (Str.ofString "<NA>")
set_option maxRecDepth 100000 in
set_option maxHeartbeats 2000000 in
theorem itemtexts_calls (w : World) {p pd q : Addr} {tk t1 t2 t3 t4 t5 t7 : Tok} {n qn : Nat} {lvs : List Value} {ls : List (Option Str)}
    (hx : LabsAre lvs ls) (hn : ls.length ≤ 12) (hl : ∀ y, some y ∈ ls → Letters y ∧ y.length ≤ 900) :
    Calls w 182 [.ref p, .int 7 t7, .bool false] 4 120 (vecL w p pd (Str.ofString "character") tk t1 t2 t3 t4 t5 n (.ref q) .none ++ [(q, listOf lvs.toArray qn)]) []
      (fun v new pre' => ∃ D ys k, v = .ref D ∧ new = [(D, listOf ys.toArray k)] ∧ pre' = vecL w p pd (Str.ofString "character") tk t1 t2 t3 t4 t5 n (.ref q) .none ++ [(q, listOf lvs.toArray qn)] ∧ StrsAre ys (ls.map shown)) := by
  have hxl := hx.len_eq
  unfold Calls
  intro dp un gd cn' cs a ccd cl outer A₀ base h₀ L m s loose mean mg mb news Q E B F X N T hk hd hu hm ret
  cases cs; cases hk
  dsimp only [vecL, vecD, ent] at N
  simp only [List.nil_append, List.cons_append] at N
  refine wpAny_call ?_
  k_dflt k_enter
  k_steps
  unfold Stop
  refine LCg.CompSrc.ledger rfl (by k_asm) (by k_asm) (by k_mem) (size_ok (by simp; lia)) ?_
  intro g
  refine comp_inv (fun _ : Unit => _) (fun i ys _ => StrsAre ys ((ls.take i).map shown)) () .nil ?_ ?_
  · rintro i ys _ v I oI C oC D m₂ h tk E' hin hys hP hoC hx' F₁ N₁ hoff hne
    have hv : lvs[i]? = some v := by simpa using hP
    rcases hx.item i v hv with ⟨rfl, hli⟩ | ⟨y, ty, rfl, hli⟩
    · k_steps
      refine compEnd_eq (c := ()) (by rw [List.take_add_one, hli, List.map_append]; exact strsAre_snoc hys) (by assumption) (by k_asm) (by walk_at "led") hoff (by walk_at "srcat")
    · obtain ⟨hy1, hy2⟩ := hl y (List.mem_of_getElem? hli)
      k_steps
      refine compEnd_eq (c := ()) (by rw [List.take_add_one, hli, List.map_append]; exact strsAre_snoc hys) (by assumption) (by k_asm) (by walk_at "led") hoff (by walk_at "srcat")
  · rintro ys _ hys
    have e9 : ls.take lvs.toArray.size = ls := List.take_of_length_le (by simp; lia)
    simp only [e9] at hys
    k_steps
    exact ret _ [(_, listOf ys.toArray _)] _ _ _ ⟨_, _, _, rfl, rfl, rfl, hys⟩ (by walk_at "fresh") (by k_asm) (news_iff (by k_asm) (by walk_at "led"))
/-- the text shown for a code -/
noncomputable def shownOf (xs : List Str) (c : Option Int) : Str := shown (labOf xs c)
theorem words_B16 : True := by
  k_with_none
  k_with "call builtin:list.pop" => (k_here; k_dflt (refine' kl_pop ?zqF ?zqN (kl_last_snoc _ _) ?zqU ?zqZ ?_; (case zqF => k_asm); (case zqN => k_asm); (case zqU => k_upd); (case zqZ => (simp only [sizeLine_eq]; simp only [List.length_append, List.length_singleton]; lia)); k_whole; intro h' F' N'))
  k_with "CompSrc" => (refine Stop.mk ?_)
  k_with "eval ListComp" => (k_here; k_dflt (refine LCg.ListComp_U (F₀ := by k_asm) (by with_unfolding_all rfl) (by decide) (by rfl) (by decide) (by rfl) ?_))
  k_with "sel" => first | exact Sel.nil | (refine' Sel.cons ?zqsl1 ?zqsl2; (case zqsl1 => walk_at "rem"); (case zqsl2 => walk_at "sel"))
  k_with "rem" => first | exact Rem.head | (refine' Rem.tail ?zqrm1; (case zqrm1 => walk_at "rem"))
  k_with "apart" => first | exact List.forall_mem_nil _ | (refine List.forall_mem_cons.mpr ⟨by k_all, ?_⟩; walk_at "apart")
  k_with "CompEnd" => (refine Stop.mk ?_)
  k_with "call builtin:str.join" => (k_here; k_dflt (refine join_led (by k_asm) (by k_mem) (by first | assumption | walk_at "strs") (by first | assumption | decide +kernel) (by first | assumption | walk_at "joinsum") ?_); intro _ _)
  k_with "led" => ((try dsimp only); (try simp only [List.cons_append, List.nil_append]); kcf_all)
  k_with "pyIter ref" => (k_here; refine Stop.mk ?_)
  k_with "exec For" => (k_here; k_dflt (refine For_invVF (by k_asm) (by rfl) (by rfl) ?_))
  k_with "kept" => (intro z9 h91 h92 h93; (try simp only [List.contains_cons, List.contains_nil, Bool.or_false, Bool.or_eq_false_iff, beq_eq_false_iff_ne, ne_eq] at h93); simp [lmap, kstB, h91, h93])
  k_with "held" => first | exact List.forall_mem_nil _ | (refine List.forall_mem_cons.mpr ⟨rfl, ?_⟩; walk_at "held")
  k_with "call builtin:list.append" => (k_here; k_dflt (refine' append_K ?zqk1 ?zqk2 ?zqk3 ?_ ?zqz; (case zqk1 => k_asm); (case zqk2 => k_asm); (case zqk3 => k_upd); (case zqz => first | (simp only [List.size_toArray, sizeLine_eq, List.length_append, List.length_singleton]; lia) | (simp only [List.size_toArray, sizeLine_eq, List.length_append, List.length_singleton]; refine Nat.le_trans (Nat.add_le_add_right (kpick_len _ _ _) _) ?_; lia)); k_whole); intro h' F' N'; (try simp only [List.push_toArray] at N'); (try k_sweep))
  k_with "call builtin:list.reverse" => (k_here; k_dflt (refine' kl_reverse ?zqF ?zqN ?zqe ?zqU ?zqz ?_; (case zqF => k_asm); (case zqN => k_asm); (case zqU => k_upd); (case zqe => exact (rfl : _ = List.reverse _)); (case zqz => (show List.length _ ≤ _; rw [IntsAre.length (by assumption)]; simp only [sizeLine_eq]; lia)); k_whole); intro h' F' N')
  k_with "below" => ((try simp only [List.cons_append, List.nil_append, AllLt, and_true]); first | assumption | exact allLt_iff.mpr (by assumption) | exact And.right (by assumption) | exact And.right (And.right (by assumption)) | exact And.right (And.right (And.right (by assumption))) | exact And.right (And.right (And.right (And.right (by assumption)))))
  k_with "exec For Name Name cons nil" => (k_here; k_dflt (refine For_invVF (by k_asm) (by rfl) (by rfl) ?_))
  k_with "exec For Name Name" => (k_here; k_dflt (refine For_invVF (by k_asm) (by rfl) (by rfl) ?_))
  k_with "exec For Name Call cons nil" => (k_here; k_dflt (refine For_invVF (by k_asm) (by rfl) (by rfl) ?_))
  k_with "exec For Name Call" => (k_here; k_dflt (refine For_invVF (by k_asm) (by rfl) (by rfl) ?_))
  k_with "exec For Name Attribute cons nil" => (k_here; k_dflt (refine For_invVF (by k_asm) (by rfl) (by rfl) ?_))
  k_with "exec For Name Attribute" => (k_here; k_dflt (refine For_invVF (by k_asm) (by rfl) (by rfl) ?_))
  k_with "exec For Name Subscript cons nil" => (k_here; k_dflt (refine For_invVF (by k_asm) (by rfl) (by rfl) ?_))
  k_with "exec For Name Subscript" => (k_here; k_dflt (refine For_invVF (by k_asm) (by rfl) (by rfl) ?_))
  k_with "exec For Name List cons nil" => (k_here; k_dflt (refine For_invVF (by k_asm) (by rfl) (by rfl) ?_))
  k_with "exec For Name List" => (k_here; k_dflt (refine For_invVF (by k_asm) (by rfl) (by rfl) ?_))
  k_with "call builtin:len" => (k_here; k_dflt (first | (refine P.len_str (by lia) ?_) | (refine len_led (by k_asm) (by k_mem) (by lia) ?_)))
  k_with "call builtin:str.rjust" => (k_here; k_dflt (refine SC.rjust (padOk_of (by lia) (by lia)) ?_); intro _ _)
  k_with "call builtin:str.ljust" => (k_here; k_dflt (refine SC.ljust (padOk_of (by lia) (by lia)) ?_); intro _ _)
  k_with "srcat" => exact Or.inr ⟨_, by k_mem, rfl, _, rfl⟩
  k_with "FinE" => ((unfold LCg.FinE); intro D' h' tk' F' N' o1'; (replace o1' := offD_of o1'); (try simp only [OffD, and_true] at o1'); (repeat (obtain ⟨o2', o1'⟩ := o1')); (try simp only [List.nil_append, List.cons_append] at N'); (try dsimp only))
  k_with "fresh" => ((simp only [FreshOver, OffD, List.nil_append, List.cons_append, and_true]); (repeat' (refine And.intro ?_ ?_)); all_goals first | assumption | exact Dist.symm (by assumption) | exact lt_off (by assumption) | exact allLt_off (by assumption) | exact allLt_off (And.right (by assumption)) | exact allLt_off (And.right (And.right (by assumption))) | exact allLt_off (And.right (And.right (And.right (by assumption)))) | exact Dist.of (by lia))
  k_with "subscriptTail" => (k_here; (with_reducible show wpAny _ _ (subscriptTail _ _ (Value.ref _) (Value.int _ _)) _ _ _); k_dflt (refine item_led (by k_asm) (by k_mem) (by lia) (by lia) (by assumption) ?_))
  k_with "binaryOp Add str str" => (k_here; (with_reducible show wpAny _ _ (binaryOp Operator.Add (Value.str _ _) (Value.str _ _)) _ _ _); (refine PyProof.Rows.add_str (hsz := ?zqhz9) ?_); (case zqhz9 => first | (simp only [Str.length_append, sizeLine_eq]; lia) | walk_at "addlen"); intro _ _)
  k_with "subscriptTail Name Name ref int" => (k_here; k_dflt (refine item_led (by k_asm) (by k_mem) (by lia) (by lia) (by assumption) ?_))
  k_with "call builtin:max" => (k_here; k_dflt (refine max_ints rfl (by k_asm) (by k_asm) ?_); intro h' tk' t' F' N'; (try k_sweep))
  k_with "call type:range" => (k_here; (with_reducible show wpAny _ _ (call _ [_, _, _]) _ _ _); k_dflt (refine range3_rows (by k_asm) (by k_asm) (by lia) ?_ (Or.inl (PyProof.noPylong_small (by lia)))); intro h' tk' t₁ u₁ v₁ r' F' N' k')
  k_with "FinA" => ((unfold LCg.FinA); intro D' h' tk' F' N' o1'; (replace o1' := offD_of o1'); (try simp only [OffD, and_true] at o1'); (repeat (obtain ⟨o2', o1'⟩ := o1')); (try simp only [List.nil_append, List.cons_append] at N'); (try dsimp only))
  k_with "exec Assign cons ListComp" => (k_here; k_dflt (refine LCg.Assign_ListComp_U (F₀ := by k_asm) (by rfl) (by with_unfolding_all rfl) (by with_unfolding_all rfl) (by decide) (by rfl) (by decide) (by rfl) (by rfl) (by rfl) ?_))
  k_with "ite" => (refine ite_strs ?_)
  k_with "units_room" => (((try simp only [units_under_make, units_in1, units_deeper, Around.mark_units, units_caller]); (try dsimp only [ktrTop]); (try simp only [units_under_make, units_in1, units_deeper, Around.mark_units, units_caller]); lia))
  k_with "k_room" => (((try simp only [depth_under_make, depth_under_kw, depth_in1, depth_deeper, depth_caller]); (try dsimp only [ktrTop]); lia))
  k_with "k_units" => (units_room)
  k_with "k_all" => (first | assumption | exact off1_ne (by assumption) | exact off1_ne (off3_I (by assumption)) | exact off1_ne (off3_C (by assumption)) | exact off1_ne (off3_D (by assumption)) | exact lt_ne (by assumption) | exact allLt_ne (by assumption) | exact allLt_ne (And.right (by assumption)) | exact allLt_ne (And.right (And.right (by assumption))) | exact allLt_ne (And.right (And.right (And.right (by assumption)))))
  k_with "k_ne" => (first | exact Dist.ne (by assumption) | exact Dist.ne (Dist.symm (by assumption)))
  k_with "led" => ((try dsimp only [vecL, vecD, ent]); (try simp only [List.cons_append, List.nil_append, List.append_nil]); kcf_all)
  k_with "fresh" => ((try dsimp only [vecL, vecD, ent]); (simp only [FreshOver, OffD, List.nil_append, List.cons_append, List.append_nil, and_true]); (repeat' (refine And.intro ?_ ?_)); all_goals first | assumption | exact Dist.symm (by assumption) | exact ne_lt (by assumption) | exact ne_gt (by assumption) | exact lt_off (by assumption) | exact allLt_off (by assumption) | exact Dist.of (by lia))
  k_with "k_lt" => ((rename AllLt _ _ => kltH); simp only [AllLt, and_true] at kltH; (repeat (obtain ⟨_, kltH⟩ : _ ∧ _ := kltH)))
  k_with "k_all" => (first | exact allLt_ne (by assumption) | exact allLt_ne_s (by assumption) | exact off1_ne (by assumption) | exact lt_ne (by assumption) | assumption)
  k_with "k_ne" => (first | exact Dist.ne (by assumption) | exact Dist.ne (Dist.symm (by assumption)) | exact ne_lt (by assumption) | exact ne_gt (by assumption) | exact ne_lt_s (by assumption) | exact ne_gt_s (by assumption) | (refine neN ?_; (try dsimp only); lia))
  trivial
set_option maxRecDepth 100000 in
set_option maxHeartbeats 2000000 in
theorem namesNone_calls (w : World) {f fd A : Addr} {tk t1 t2 t3 t4 t5 : Tok} {n : Nat} {it : Value} {ao : Obj} {a b : Value}
    (hA : ao.IsDictOf (strKind prg w) [(Str.ofString "levels", a), (Str.ofString "class", b)]) (hAm : (A == sysModules) = false) :
    Calls w 33 [.ref f] 3 90 (vecL w f fd (Str.ofString "integer") tk t1 t2 t3 t4 t5 n it (.ref A) ++ [(A, ao)]) []
      (fun v new pre' => v = .none ∧ new = [] ∧ pre' = vecL w f fd (Str.ofString "integer") tk t1 t2 t3 t4 t5 n it (.ref A) ++ [(A, ao)]) := by
  unfold Calls
  intro dp un gd cn' cs a ccd cl outer A₀ base h₀ L m s loose mean mg mb news Q E B F X N T hk hd hu hm ret
  cases cs; cases hk
  dsimp only [vecL, vecD, ent] at N
  simp only [List.nil_append, List.cons_append] at N
  refine wpAny_call ?_
  k_dflt k_enter
  k_steps
  exact ret _ [] _ _ _ ⟨rfl, rfl, rfl⟩ trivial (by k_asm) (news_iff (by k_asm) (by walk_at "led"))
set_option maxRecDepth 100000 in
set_option maxHeartbeats 2000000 in
theorem namesSome_calls (w : World) {f fd A nv nd nl : Addr} {tk t1 t2 t3 t4 t5 tk2 s1 s2 s3 s4 s5 : Tok} {n n2 nn : Nat} {it : Value} {ao : Obj} {a b : Value} {ns : List Value} {xs : List Str}
    (hA : ao.IsDictOf (strKind prg w) [(Str.ofString "levels", a), (Str.ofString "class", b), (Str.ofString "names", .ref nv)]) (hAm : (A == sysModules) = false) (hx : StrsAre ns xs) (hn : xs.length ≤ 12) :
    Calls w 33 [.ref f] 3 90 (vecL w f fd (Str.ofString "integer") tk t1 t2 t3 t4 t5 n it (.ref A) ++ (A, ao) :: (vecL w nv nd (Str.ofString "character") tk2 s1 s2 s3 s4 s5 n2 (.ref nl) .none ++ [(nl, listOf ns.toArray nn)])) []
      (fun v new pre' => ∃ D ys k, v = .ref D ∧ new = [(D, listOf ys.toArray k)] ∧ pre' = vecL w f fd (Str.ofString "integer") tk t1 t2 t3 t4 t5 n it (.ref A) ++ (A, ao) :: (vecL w nv nd (Str.ofString "character") tk2 s1 s2 s3 s4 s5 n2 (.ref nl) .none ++ [(nl, listOf ns.toArray nn)]) ∧ StrsAre ys xs) := by
  have hxl := hx.len_eq
  unfold Calls
  intro dp un gd cn' cs a ccd cl outer A₀ base h₀ L m s loose mean mg mb news Q E B F X N T hk hd hu hm ret
  cases cs; cases hk
  dsimp only [vecL, vecD, ent] at N
  simp only [List.nil_append, List.cons_append] at N
  refine wpAny_call ?_
  k_dflt k_enter
  k_steps
  exact ret _ [(_, listOf ns.toArray _)] _ _ _ ⟨_, _, _, rfl, rfl, rfl, hx⟩ (by walk_at "fresh") (by k_asm) (news_iff (by k_asm) (by walk_at "led"))
theorem words_B17 : True := by
  k_with_none
  k_with "call builtin:list.pop" => (k_here; k_dflt (refine' kl_pop ?zqF ?zqN (kl_last_snoc _ _) ?zqU ?zqZ ?_; (case zqF => k_asm); (case zqN => k_asm); (case zqU => k_upd); (case zqZ => (simp only [sizeLine_eq]; simp only [List.length_append, List.length_singleton]; lia)); k_whole; intro h' F' N'))
  k_with "CompSrc" => (refine Stop.mk ?_)
  k_with "eval ListComp" => (k_here; k_dflt (refine LCg.ListComp_U (F₀ := by k_asm) (by with_unfolding_all rfl) (by decide) (by rfl) (by decide) (by rfl) ?_))
  k_with "sel" => first | exact Sel.nil | (refine' Sel.cons ?zqsl1 ?zqsl2; (case zqsl1 => walk_at "rem"); (case zqsl2 => walk_at "sel"))
  k_with "rem" => first | exact Rem.head | (refine' Rem.tail ?zqrm1; (case zqrm1 => walk_at "rem"))
  k_with "apart" => first | exact List.forall_mem_nil _ | (refine List.forall_mem_cons.mpr ⟨by k_all, ?_⟩; walk_at "apart")
  k_with "CompEnd" => (refine Stop.mk ?_)
  k_with "call builtin:str.join" => (k_here; k_dflt (refine join_led (by k_asm) (by k_mem) (by first | assumption | walk_at "strs") (by first | assumption | decide +kernel) (by first | assumption | walk_at "joinsum") ?_); intro _ _)
  k_with "led" => ((try dsimp only); (try simp only [List.cons_append, List.nil_append]); kcf_all)
  k_with "pyIter ref" => (k_here; refine Stop.mk ?_)
  k_with "exec For" => (k_here; k_dflt (refine For_invVF (by k_asm) (by rfl) (by rfl) ?_))
  k_with "kept" => (intro z9 h91 h92 h93; (try simp only [List.contains_cons, List.contains_nil, Bool.or_false, Bool.or_eq_false_iff, beq_eq_false_iff_ne, ne_eq] at h93); simp [lmap, kstB, h91, h93])
  k_with "held" => first | exact List.forall_mem_nil _ | (refine List.forall_mem_cons.mpr ⟨rfl, ?_⟩; walk_at "held")
  k_with "call builtin:list.append" => (k_here; k_dflt (refine' append_K ?zqk1 ?zqk2 ?zqk3 ?_ ?zqz; (case zqk1 => k_asm); (case zqk2 => k_asm); (case zqk3 => k_upd); (case zqz => first | (simp only [List.size_toArray, sizeLine_eq, List.length_append, List.length_singleton]; lia) | (simp only [List.size_toArray, sizeLine_eq, List.length_append, List.length_singleton]; refine Nat.le_trans (Nat.add_le_add_right (kpick_len _ _ _) _) ?_; lia)); k_whole); intro h' F' N'; (try simp only [List.push_toArray] at N'); (try k_sweep))
  k_with "call builtin:list.reverse" => (k_here; k_dflt (refine' kl_reverse ?zqF ?zqN ?zqe ?zqU ?zqz ?_; (case zqF => k_asm); (case zqN => k_asm); (case zqU => k_upd); (case zqe => exact (rfl : _ = List.reverse _)); (case zqz => (show List.length _ ≤ _; rw [IntsAre.length (by assumption)]; simp only [sizeLine_eq]; lia)); k_whole); intro h' F' N')
  k_with "below" => ((try simp only [List.cons_append, List.nil_append, AllLt, and_true]); first | assumption | exact allLt_iff.mpr (by assumption) | exact And.right (by assumption) | exact And.right (And.right (by assumption)) | exact And.right (And.right (And.right (by assumption))) | exact And.right (And.right (And.right (And.right (by assumption)))))
  k_with "exec For Name Name cons nil" => (k_here; k_dflt (refine For_invVF (by k_asm) (by rfl) (by rfl) ?_))
  k_with "exec For Name Name" => (k_here; k_dflt (refine For_invVF (by k_asm) (by rfl) (by rfl) ?_))
  k_with "exec For Name Call cons nil" => (k_here; k_dflt (refine For_invVF (by k_asm) (by rfl) (by rfl) ?_))
  k_with "exec For Name Call" => (k_here; k_dflt (refine For_invVF (by k_asm) (by rfl) (by rfl) ?_))
  k_with "exec For Name Attribute cons nil" => (k_here; k_dflt (refine For_invVF (by k_asm) (by rfl) (by rfl) ?_))
  k_with "exec For Name Attribute" => (k_here; k_dflt (refine For_invVF (by k_asm) (by rfl) (by rfl) ?_))
  k_with "exec For Name Subscript cons nil" => (k_here; k_dflt (refine For_invVF (by k_asm) (by rfl) (by rfl) ?_))
  k_with "exec For Name Subscript" => (k_here; k_dflt (refine For_invVF (by k_asm) (by rfl) (by rfl) ?_))
  k_with "exec For Name List cons nil" => (k_here; k_dflt (refine For_invVF (by k_asm) (by rfl) (by rfl) ?_))
  k_with "exec For Name List" => (k_here; k_dflt (refine For_invVF (by k_asm) (by rfl) (by rfl) ?_))
  k_with "call builtin:len" => (k_here; k_dflt (first | (refine P.len_str (by lia) ?_) | (refine len_led (by k_asm) (by k_mem) (by lia) ?_)))
  k_with "call builtin:str.rjust" => (k_here; k_dflt (refine SC.rjust (padOk_of (by lia) (by lia)) ?_); intro _ _)
  k_with "call builtin:str.ljust" => (k_here; k_dflt (refine SC.ljust (padOk_of (by lia) (by lia)) ?_); intro _ _)
  k_with "srcat" => exact Or.inr ⟨_, by k_mem, rfl, _, rfl⟩
  k_with "FinE" => ((unfold LCg.FinE); intro D' h' tk' F' N' o1'; (replace o1' := offD_of o1'); (try simp only [OffD, and_true] at o1'); (repeat (obtain ⟨o2', o1'⟩ := o1')); (try simp only [List.nil_append, List.cons_append] at N'); (try dsimp only))
  k_with "fresh" => ((simp only [FreshOver, OffD, List.nil_append, List.cons_append, and_true]); (repeat' (refine And.intro ?_ ?_)); all_goals first | assumption | exact Dist.symm (by assumption) | exact lt_off (by assumption) | exact allLt_off (by assumption) | exact allLt_off (And.right (by assumption)) | exact allLt_off (And.right (And.right (by assumption))) | exact allLt_off (And.right (And.right (And.right (by assumption)))) | exact Dist.of (by lia))
  k_with "subscriptTail" => (k_here; (with_reducible show wpAny _ _ (subscriptTail _ _ (Value.ref _) (Value.int _ _)) _ _ _); k_dflt (refine item_led (by k_asm) (by k_mem) (by lia) (by lia) (by assumption) ?_))
  k_with "binaryOp Add str str" => (k_here; (with_reducible show wpAny _ _ (binaryOp Operator.Add (Value.str _ _) (Value.str _ _)) _ _ _); (refine PyProof.Rows.add_str (hsz := ?zqhz9) ?_); (case zqhz9 => first | (simp only [Str.length_append, sizeLine_eq]; lia) | walk_at "addlen"); intro _ _)
  k_with "subscriptTail Name Name ref int" => (k_here; k_dflt (refine item_led (by k_asm) (by k_mem) (by lia) (by lia) (by assumption) ?_))
  k_with "call builtin:max" => (k_here; k_dflt (refine max_ints rfl (by k_asm) (by k_asm) ?_); intro h' tk' t' F' N'; (try k_sweep))
  k_with "call type:range" => (k_here; (with_reducible show wpAny _ _ (call _ [_, _, _]) _ _ _); k_dflt (refine range3_rows (by k_asm) (by k_asm) (by lia) ?_ (Or.inl (PyProof.noPylong_small (by lia)))); intro h' tk' t₁ u₁ v₁ r' F' N' k')
  k_with "FinA" => ((unfold LCg.FinA); intro D' h' tk' F' N' o1'; (replace o1' := offD_of o1'); (try simp only [OffD, and_true] at o1'); (repeat (obtain ⟨o2', o1'⟩ := o1')); (try simp only [List.nil_append, List.cons_append] at N'); (try dsimp only))
  k_with "exec Assign cons ListComp" => (k_here; k_dflt (refine LCg.Assign_ListComp_U (F₀ := by k_asm) (by rfl) (by with_unfolding_all rfl) (by with_unfolding_all rfl) (by decide) (by rfl) (by decide) (by rfl) (by rfl) (by rfl) ?_))
  k_with "ite" => (refine ite_strs ?_)
  k_with "units_room" => (((try simp only [units_under_make, units_in1, units_deeper, Around.mark_units, units_caller]); (try dsimp only [ktrTop]); (try simp only [units_under_make, units_in1, units_deeper, Around.mark_units, units_caller]); lia))
  k_with "k_room" => (((try simp only [depth_under_make, depth_under_kw, depth_in1, depth_deeper, depth_caller]); (try dsimp only [ktrTop]); lia))
  k_with "k_units" => (units_room)
  k_with "k_all" => (first | assumption | exact off1_ne (by assumption) | exact off1_ne (off3_I (by assumption)) | exact off1_ne (off3_C (by assumption)) | exact off1_ne (off3_D (by assumption)) | exact lt_ne (by assumption) | exact allLt_ne (by assumption) | exact allLt_ne (And.right (by assumption)) | exact allLt_ne (And.right (And.right (by assumption))) | exact allLt_ne (And.right (And.right (And.right (by assumption)))))
  k_with "k_ne" => (first | exact Dist.ne (by assumption) | exact Dist.ne (Dist.symm (by assumption)))
  k_with "led" => ((try dsimp only [vecL, vecD, ent]); (try simp only [List.cons_append, List.nil_append, List.append_nil]); kcf_all)
  k_with "fresh" => ((try dsimp only [vecL, vecD, ent]); (simp only [FreshOver, OffD, List.nil_append, List.cons_append, List.append_nil, and_true]); (repeat' (refine And.intro ?_ ?_)); all_goals first | assumption | exact Dist.symm (by assumption) | exact ne_lt (by assumption) | exact ne_gt (by assumption) | exact lt_off (by assumption) | exact allLt_off (by assumption) | exact Dist.of (by lia))
  k_with "k_lt" => ((rename AllLt _ _ => kltH); simp only [AllLt, and_true] at kltH; (repeat (obtain ⟨_, kltH⟩ : _ ∧ _ := kltH)))
  k_with "k_all" => (first | exact allLt_ne (by assumption) | exact allLt_ne_s (by assumption) | exact off1_ne (by assumption) | exact lt_ne (by assumption) | assumption)
  k_with "k_ne" => (first | exact Dist.ne (by assumption) | exact Dist.ne (Dist.symm (by assumption)) | exact ne_lt (by assumption) | exact ne_gt (by assumption) | exact ne_lt_s (by assumption) | exact ne_gt_s (by assumption) | (refine neN ?_; (try dsimp only); lia))
  trivial
noncomputable def ClsIs (o : Bool) (cls : List Value) : Prop := (o = true ∧ ∃ u1 u2, cls = [.str (Str.ofString "ordered") u1, .str (Str.ofString "factor") u2]) ∨ (o = false ∧ ∃ u2, cls = [.str (Str.ofString "factor") u2])
set_option maxRecDepth 100000 in
set_option maxHeartbeats 2000000 in
theorem isord_calls (w : World) {f fd A cv cd kl : Addr} {kd : Str} {tk t1 t2 t3 t4 t5 tk2 s1 s2 s3 s4 s5 : Tok} {n n2 kn : Nat} {it : Value} {ao : Obj} {a : Value} {o : Bool} {rest : List (Str × Value)} {cls : List Value}
    (hA : ao.IsDictOf (strKind prg w) ((Str.ofString "levels", a) :: (Str.ofString "class", .ref cv) :: rest)) (hAm : (A == sysModules) = false) (ho : ClsIs o cls) :
    Calls w 278 [.ref f] 1 80 (vecL w f fd kd tk t1 t2 t3 t4 t5 n it (.ref A) ++ (A, ao) :: (vecL w cv cd (Str.ofString "character") tk2 s1 s2 s3 s4 s5 n2 (.ref kl) .none ++ [(kl, listOf cls.toArray kn)])) []
      (fun v new pre' => v = .bool o ∧ new = [] ∧ pre' = vecL w f fd kd tk t1 t2 t3 t4 t5 n it (.ref A) ++ (A, ao) :: (vecL w cv cd (Str.ofString "character") tk2 s1 s2 s3 s4 s5 n2 (.ref kl) .none ++ [(kl, listOf cls.toArray kn)])) := by
  unfold Calls
  obtain ⟨rfl, u1, u2, rfl⟩ | ⟨rfl, u2, rfl⟩ := ho
  all_goals
    intro dp un gd cn' cs a ccd cl outer A₀ base h₀ L m s loose mean mg mb news Q E B F X N T hk hd hu hm ret
    cases cs; cases hk
    dsimp only [vecL, vecD, ent] at N
    simp only [List.nil_append, List.cons_append] at N
    refine wpAny_call ?_
    k_dflt k_enter
    k_steps
    exact ret _ [] _ _ _ ⟨congrArg Value.bool (by decide +kernel), rfl, rfl⟩ trivial (by k_asm) (news_iff (by k_asm) (by walk_at "led"))
theorem words_B18 : True := by
  k_with_none
  k_with "call builtin:list.pop" => (k_here; k_dflt (refine' kl_pop ?zqF ?zqN (kl_last_snoc _ _) ?zqU ?zqZ ?_; (case zqF => k_asm); (case zqN => k_asm); (case zqU => k_upd); (case zqZ => (simp only [sizeLine_eq]; simp only [List.length_append, List.length_singleton]; lia)); k_whole; intro h' F' N'))
  k_with "CompSrc" => (refine Stop.mk ?_)
  k_with "eval ListComp" => (k_here; k_dflt (refine LCg.ListComp_U (F₀ := by k_asm) (by with_unfolding_all rfl) (by decide) (by rfl) (by decide) (by rfl) ?_))
  k_with "sel" => first | exact Sel.nil | (refine' Sel.cons ?zqsl1 ?zqsl2; (case zqsl1 => walk_at "rem"); (case zqsl2 => walk_at "sel"))
  k_with "rem" => first | exact Rem.head | (refine' Rem.tail ?zqrm1; (case zqrm1 => walk_at "rem"))
  k_with "apart" => first | exact List.forall_mem_nil _ | (refine List.forall_mem_cons.mpr ⟨by k_all, ?_⟩; walk_at "apart")
  k_with "CompEnd" => (refine Stop.mk ?_)
  k_with "call builtin:str.join" => (k_here; k_dflt (refine join_led (by k_asm) (by k_mem) (by first | assumption | walk_at "strs") (by first | assumption | decide +kernel) (by first | assumption | walk_at "joinsum") ?_); intro _ _)
  k_with "led" => ((try dsimp only); (try simp only [List.cons_append, List.nil_append]); kcf_all)
  k_with "pyIter ref" => (k_here; refine Stop.mk ?_)
  k_with "exec For" => (k_here; k_dflt (refine For_invVF (by k_asm) (by rfl) (by rfl) ?_))
  k_with "kept" => (intro z9 h91 h92 h93; (try simp only [List.contains_cons, List.contains_nil, Bool.or_false, Bool.or_eq_false_iff, beq_eq_false_iff_ne, ne_eq] at h93); simp [lmap, kstB, h91, h93])
  k_with "held" => first | exact List.forall_mem_nil _ | (refine List.forall_mem_cons.mpr ⟨rfl, ?_⟩; walk_at "held")
  k_with "call builtin:list.append" => (k_here; k_dflt (refine' append_K ?zqk1 ?zqk2 ?zqk3 ?_ ?zqz; (case zqk1 => k_asm); (case zqk2 => k_asm); (case zqk3 => k_upd); (case zqz => first | (simp only [List.size_toArray, sizeLine_eq, List.length_append, List.length_singleton]; lia) | (simp only [List.size_toArray, sizeLine_eq, List.length_append, List.length_singleton]; refine Nat.le_trans (Nat.add_le_add_right (kpick_len _ _ _) _) ?_; lia)); k_whole); intro h' F' N'; (try simp only [List.push_toArray] at N'); (try k_sweep))
  k_with "call builtin:list.reverse" => (k_here; k_dflt (refine' kl_reverse ?zqF ?zqN ?zqe ?zqU ?zqz ?_; (case zqF => k_asm); (case zqN => k_asm); (case zqU => k_upd); (case zqe => exact (rfl : _ = List.reverse _)); (case zqz => (show List.length _ ≤ _; rw [IntsAre.length (by assumption)]; simp only [sizeLine_eq]; lia)); k_whole); intro h' F' N')
  k_with "below" => ((try simp only [List.cons_append, List.nil_append, AllLt, and_true]); first | assumption | exact allLt_iff.mpr (by assumption) | exact And.right (by assumption) | exact And.right (And.right (by assumption)) | exact And.right (And.right (And.right (by assumption))) | exact And.right (And.right (And.right (And.right (by assumption)))))
  k_with "exec For Name Name cons nil" => (k_here; k_dflt (refine For_invVF (by k_asm) (by rfl) (by rfl) ?_))
  k_with "exec For Name Name" => (k_here; k_dflt (refine For_invVF (by k_asm) (by rfl) (by rfl) ?_))
  k_with "exec For Name Call cons nil" => (k_here; k_dflt (refine For_invVF (by k_asm) (by rfl) (by rfl) ?_))
  k_with "exec For Name Call" => (k_here; k_dflt (refine For_invVF (by k_asm) (by rfl) (by rfl) ?_))
  k_with "exec For Name Attribute cons nil" => (k_here; k_dflt (refine For_invVF (by k_asm) (by rfl) (by rfl) ?_))
  k_with "exec For Name Attribute" => (k_here; k_dflt (refine For_invVF (by k_asm) (by rfl) (by rfl) ?_))
  k_with "exec For Name Subscript cons nil" => (k_here; k_dflt (refine For_invVF (by k_asm) (by rfl) (by rfl) ?_))
  k_with "exec For Name Subscript" => (k_here; k_dflt (refine For_invVF (by k_asm) (by rfl) (by rfl) ?_))
  k_with "exec For Name List cons nil" => (k_here; k_dflt (refine For_invVF (by k_asm) (by rfl) (by rfl) ?_))
  k_with "exec For Name List" => (k_here; k_dflt (refine For_invVF (by k_asm) (by rfl) (by rfl) ?_))
  k_with "call builtin:len" => (k_here; k_dflt (first | (refine P.len_str (by lia) ?_) | (refine len_led (by k_asm) (by k_mem) (by lia) ?_)))
  k_with "call builtin:str.rjust" => (k_here; k_dflt (refine SC.rjust (padOk_of (by lia) (by lia)) ?_); intro _ _)
  k_with "call builtin:str.ljust" => (k_here; k_dflt (refine SC.ljust (padOk_of (by lia) (by lia)) ?_); intro _ _)
  k_with "srcat" => exact Or.inr ⟨_, by k_mem, rfl, _, rfl⟩
  k_with "FinE" => ((unfold LCg.FinE); intro D' h' tk' F' N' o1'; (replace o1' := offD_of o1'); (try simp only [OffD, and_true] at o1'); (repeat (obtain ⟨o2', o1'⟩ := o1')); (try simp only [List.nil_append, List.cons_append] at N'); (try dsimp only))
  k_with "fresh" => ((simp only [FreshOver, OffD, List.nil_append, List.cons_append, and_true]); (repeat' (refine And.intro ?_ ?_)); all_goals first | assumption | exact Dist.symm (by assumption) | exact lt_off (by assumption) | exact allLt_off (by assumption) | exact allLt_off (And.right (by assumption)) | exact allLt_off (And.right (And.right (by assumption))) | exact allLt_off (And.right (And.right (And.right (by assumption)))) | exact Dist.of (by lia))
  k_with "subscriptTail" => (k_here; (with_reducible show wpAny _ _ (subscriptTail _ _ (Value.ref _) (Value.int _ _)) _ _ _); k_dflt (refine item_led (by k_asm) (by k_mem) (by lia) (by lia) (by assumption) ?_))
  k_with "binaryOp Add str str" => (k_here; (with_reducible show wpAny _ _ (binaryOp Operator.Add (Value.str _ _) (Value.str _ _)) _ _ _); (refine PyProof.Rows.add_str (hsz := ?zqhz9) ?_); (case zqhz9 => first | (simp only [Str.length_append, sizeLine_eq]; lia) | walk_at "addlen"); intro _ _)
  k_with "subscriptTail Name Name ref int" => (k_here; k_dflt (refine item_led (by k_asm) (by k_mem) (by lia) (by lia) (by assumption) ?_))
  k_with "call builtin:max" => (k_here; k_dflt (refine max_ints rfl (by k_asm) (by k_asm) ?_); intro h' tk' t' F' N'; (try k_sweep))
  k_with "call type:range" => (k_here; (with_reducible show wpAny _ _ (call _ [_, _, _]) _ _ _); k_dflt (refine range3_rows (by k_asm) (by k_asm) (by lia) ?_ (Or.inl (PyProof.noPylong_small (by lia)))); intro h' tk' t₁ u₁ v₁ r' F' N' k')
  k_with "FinA" => ((unfold LCg.FinA); intro D' h' tk' F' N' o1'; (replace o1' := offD_of o1'); (try simp only [OffD, and_true] at o1'); (repeat (obtain ⟨o2', o1'⟩ := o1')); (try simp only [List.nil_append, List.cons_append] at N'); (try dsimp only))
  k_with "exec Assign cons ListComp" => (k_here; k_dflt (refine LCg.Assign_ListComp_U (F₀ := by k_asm) (by rfl) (by with_unfolding_all rfl) (by with_unfolding_all rfl) (by decide) (by rfl) (by decide) (by rfl) (by rfl) (by rfl) ?_))
  k_with "ite" => (refine ite_strs ?_)
  k_with "units_room" => (((try simp only [units_under_make, units_in1, units_deeper, Around.mark_units, units_caller]); (try dsimp only [ktrTop]); (try simp only [units_under_make, units_in1, units_deeper, Around.mark_units, units_caller]); lia))
  k_with "k_room" => (((try simp only [depth_under_make, depth_under_kw, depth_in1, depth_deeper, depth_caller]); (try dsimp only [ktrTop]); lia))
  k_with "k_units" => (units_room)
  k_with "k_all" => (first | assumption | exact off1_ne (by assumption) | exact off1_ne (off3_I (by assumption)) | exact off1_ne (off3_C (by assumption)) | exact off1_ne (off3_D (by assumption)) | exact lt_ne (by assumption) | exact allLt_ne (by assumption) | exact allLt_ne (And.right (by assumption)) | exact allLt_ne (And.right (And.right (by assumption))) | exact allLt_ne (And.right (And.right (And.right (by assumption)))))
  k_with "k_ne" => (first | exact Dist.ne (by assumption) | exact Dist.ne (Dist.symm (by assumption)))
  k_with "led" => ((try dsimp only [vecL, vecD, ent]); (try simp only [List.cons_append, List.nil_append, List.append_nil]); kcf_all)
  k_with "fresh" => ((try dsimp only [vecL, vecD, ent]); (simp only [FreshOver, OffD, List.nil_append, List.cons_append, List.append_nil, and_true]); (repeat' (refine And.intro ?_ ?_)); all_goals first | assumption | exact Dist.symm (by assumption) | exact ne_lt (by assumption) | exact ne_gt (by assumption) | exact lt_off (by assumption) | exact allLt_off (by assumption) | exact Dist.of (by lia))
  k_with "k_lt" => ((rename AllLt _ _ => kltH); simp only [AllLt, and_true] at kltH; (repeat (obtain ⟨_, kltH⟩ : _ ∧ _ := kltH)))
  k_with "k_all" => (first | exact allLt_ne (by assumption) | exact allLt_ne_s (by assumption) | exact off1_ne (by assumption) | exact lt_ne (by assumption) | assumption)
  k_with "k_ne" => (first | exact Dist.ne (by assumption) | exact Dist.ne (Dist.symm (by assumption)) | exact ne_lt (by assumption) | exact ne_gt (by assumption) | exact ne_lt_s (by assumption) | exact ne_gt_s (by assumption) | (refine neN ?_; (try dsimp only); lia))
  k_with "call ref" => (k_here; (with_reducible show wpAny _ _ (call (.ref 189) _) _ _ _); k_dflt (refine Calls.use (by k_asm) (by k_asm) (by k_asm) (by k_asm) (by k_asm) rfl (by walk_at "sel") (widest_calls _ (by assumption) (by assumption)) (by k_room) (by units_room) (by walk_at "apart") ?_); k_whole; intro v9 nw9 pr9 h' tk' hp9 hf' F' N'; obtain ⟨e91, e92, t', e93⟩ := hp9; subst e91; subst e92; subst e93; (try simp only [List.nil_append, List.cons_append] at N'); (try dsimp only))
  k_with "call ref" => (k_here; (with_reducible show wpAny _ _ (call (.ref 199) _) _ _ _); k_dflt (refine Calls.use (by k_asm) (by k_asm) (by k_asm) (by k_asm) (by k_asm) rfl (by walk_at "sel") (padr_calls _ (by assumption) (by lia) (by lia) (by lia)) (by k_room) (by units_room) (by walk_at "apart") ?_); k_whole; intro v9 nw9 pr9 h' tk' hp9 hf' F' N'; obtain ⟨D', ys', k', e91, e92, e93, hys'⟩ := hp9; subst e91; subst e92; subst e93; (try simp only [List.nil_append, List.cons_append] at N'); (try simp only [FreshOver, OffD, List.nil_append, List.cons_append, and_true] at hf'); (repeat (obtain ⟨o2', hf'⟩ := hf')); (try dsimp only))
  k_with "call ref" => (k_here; (with_reducible show wpAny _ _ (call (.ref 254) _) _ _ _); k_dflt (refine' Calls.use (by k_asm) (by k_asm) (by k_asm) (by k_asm) (by k_asm) rfl ?zqS9 (numbered_calls _ ?zqa9 ?zqb9 ?zqc9 ?zqd9 ?zqe9) ?zqf9 ?zqg9 ?zqh9 ?_; (case zqS9 => walk_at "sel"); (case zqa9 => assumption); (case zqb9 => lia); (case zqc9 => lia); (case zqd9 => rw [List.length_map]; assumption); (case zqe9 => exact short_pad (by assumption) (by lia)); (case zqf9 => k_room); (case zqg9 => units_room); (case zqh9 => walk_at "apart")); k_whole; intro v9 nw9 pr9 h' tk' hp9 hf' F' N'; obtain ⟨D', ys', k', e91, e92, e93, hys'⟩ := hp9; subst e91; subst e92; subst e93; (try simp only [List.nil_append, List.cons_append] at N'); (try simp only [FreshOver, OffD, List.nil_append, List.cons_append, and_true] at hf'); (repeat (obtain ⟨o2', hf'⟩ := hf')); (try dsimp only))
  trivial
theorem ljust_len (x : Str) (i : Int) : (Txt.ljust x i).length ≤ x.length + i.toNat := by
  have h := ljustF_list x i 32
  have e : (Txt.ljust x i).cps.toList.length = (x.cps.toList ++ List.replicate (i.toNat - x.length) 32).length := congrArg List.length h
  have e2 : x.cps.toList.length = x.length := by simp [Str.length]
  have e3 : (Txt.ljust x i).cps.toList.length = (Txt.ljust x i).length := by simp [Str.length]
  rw [List.length_append, List.length_replicate, e2, e3] at e
  lia
theorem short_pad {xs : List Str} {col : Int} (h : Short 100 xs) (hc : col ≤ 100) : Short 900 (xs.map (Txt.ljust · col)) :=
  short_map h fun y hy => by have := ljust_len y col; lia
theorem nState_len (xs : List Str) (page label : Int) (i : Nat) : (nState xs page label i).1.length ≤ i := by
  induction i with
  | zero => simp [nState]
  | succ i ih =>
    rw [nState_succ, nStep]
    split
    · exact Nat.le_succ_of_le ih
    · split
      · simp only [List.length_append, List.length_cons, List.length_nil]; lia
      · exact Nat.le_succ_of_le ih
theorem numberedRows_len (xs : List Str) (P : Int) : (numberedRows xs P).length ≤ xs.length + 1 := by
  unfold numberedRows
  simp only [List.length_append, List.length_cons, List.length_nil]
  have := nState_len xs P (((strI (xs.length : Int)).length : Int) + 2) xs.length
  lia
set_option maxRecDepth 100000 in
set_option maxHeartbeats 2000000 in
theorem textP_calls (w : World) {l : Addr} {vs : List Value} {xs : List Str} {n : Nat} {P : Int} {tP : Tok} (hx : StrsAre vs xs) (h0 : 0 ≤ P) (h9 : P ≤ 100) (hn : xs.length ≤ 12) (hs : Short 100 xs) :
    Calls w 266 [.ref l, .bool false, .none, .int P tP] 3 120 [(l, listOf vs.toArray n)] [] (fun v new pre' => ∃ D ys k, v = .ref D ∧ new = [(D, listOf ys.toArray k)] ∧ pre' = [(l, listOf vs.toArray n)] ∧ StrsAre ys (numberedRows (xs.map (Txt.ljust · (wid xs : Int))) P) ∧ ys.length ≤ 30) := by
  unfold Calls
  intro dp un gd cn cs a ccd cl outer A₀ base h₀ L m s loose mean mg mb news Q E B F X N T hk hd hu hm ret
  cases cs; cases hk
  simp only [List.nil_append, List.cons_append] at N
  have hs9 : Short 900 xs := fun z hz => Nat.le_trans (hs z hz) (by decide)
  have hw1 := wid_le hs
  refine wpAny_call ?_
  k_dflt k_enter
  k_steps
  rename StrsAre _ (numberedRows _ _) => hr9
  have hq8 := numberedRows_len (xs.map (Txt.ljust · (wid xs : Int))) P
  rw [List.length_map, ← hr9.len_eq] at hq8
  exact ret _ [(_, listOf _ _)] _ _ _ ⟨_, _, _, rfl, rfl, rfl, hr9, by lia⟩ (by walk_at "fresh") (by k_asm) (news_iff (by k_asm) (by walk_at "led"))
theorem words_B19 : True := by
  k_with_none
  k_with "call builtin:list.pop" => (k_here; k_dflt (refine' kl_pop ?zqF ?zqN (kl_last_snoc _ _) ?zqU ?zqZ ?_; (case zqF => k_asm); (case zqN => k_asm); (case zqU => k_upd); (case zqZ => (simp only [sizeLine_eq]; simp only [List.length_append, List.length_singleton]; lia)); k_whole; intro h' F' N'))
  k_with "CompSrc" => (refine Stop.mk ?_)
  k_with "eval ListComp" => (k_here; k_dflt (refine LCg.ListComp_U (F₀ := by k_asm) (by with_unfolding_all rfl) (by decide) (by rfl) (by decide) (by rfl) ?_))
  k_with "sel" => first | exact Sel.nil | (refine' Sel.cons ?zqsl1 ?zqsl2; (case zqsl1 => walk_at "rem"); (case zqsl2 => walk_at "sel"))
  k_with "rem" => first | exact Rem.head | (refine' Rem.tail ?zqrm1; (case zqrm1 => walk_at "rem"))
  k_with "apart" => first | exact List.forall_mem_nil _ | (refine List.forall_mem_cons.mpr ⟨by k_all, ?_⟩; walk_at "apart")
  k_with "CompEnd" => (refine Stop.mk ?_)
  k_with "call builtin:str.join" => (k_here; k_dflt (refine join_led (by k_asm) (by k_mem) (by first | assumption | walk_at "strs") (by first | assumption | decide +kernel) (by first | assumption | walk_at "joinsum") ?_); intro _ _)
  k_with "led" => ((try dsimp only); (try simp only [List.cons_append, List.nil_append]); kcf_all)
  k_with "pyIter ref" => (k_here; refine Stop.mk ?_)
  k_with "exec For" => (k_here; k_dflt (refine For_invVF (by k_asm) (by rfl) (by rfl) ?_))
  k_with "kept" => (intro z9 h91 h92 h93; (try simp only [List.contains_cons, List.contains_nil, Bool.or_false, Bool.or_eq_false_iff, beq_eq_false_iff_ne, ne_eq] at h93); simp [lmap, kstB, h91, h93])
  k_with "held" => first | exact List.forall_mem_nil _ | (refine List.forall_mem_cons.mpr ⟨rfl, ?_⟩; walk_at "held")
  k_with "call builtin:list.append" => (k_here; k_dflt (refine' append_K ?zqk1 ?zqk2 ?zqk3 ?_ ?zqz; (case zqk1 => k_asm); (case zqk2 => k_asm); (case zqk3 => k_upd); (case zqz => first | (simp only [List.size_toArray, sizeLine_eq, List.length_append, List.length_singleton]; lia) | (simp only [List.size_toArray, sizeLine_eq, List.length_append, List.length_singleton]; refine Nat.le_trans (Nat.add_le_add_right (kpick_len _ _ _) _) ?_; lia)); k_whole); intro h' F' N'; (try simp only [List.push_toArray] at N'); (try k_sweep))
  k_with "call builtin:list.reverse" => (k_here; k_dflt (refine' kl_reverse ?zqF ?zqN ?zqe ?zqU ?zqz ?_; (case zqF => k_asm); (case zqN => k_asm); (case zqU => k_upd); (case zqe => exact (rfl : _ = List.reverse _)); (case zqz => (show List.length _ ≤ _; rw [IntsAre.length (by assumption)]; simp only [sizeLine_eq]; lia)); k_whole); intro h' F' N')
  k_with "below" => ((try simp only [List.cons_append, List.nil_append, AllLt, and_true]); first | assumption | exact allLt_iff.mpr (by assumption) | exact And.right (by assumption) | exact And.right (And.right (by assumption)) | exact And.right (And.right (And.right (by assumption))) | exact And.right (And.right (And.right (And.right (by assumption)))))
  k_with "exec For Name Name cons nil" => (k_here; k_dflt (refine For_invVF (by k_asm) (by rfl) (by rfl) ?_))
  k_with "exec For Name Name" => (k_here; k_dflt (refine For_invVF (by k_asm) (by rfl) (by rfl) ?_))
  k_with "exec For Name Call cons nil" => (k_here; k_dflt (refine For_invVF (by k_asm) (by rfl) (by rfl) ?_))
  k_with "exec For Name Call" => (k_here; k_dflt (refine For_invVF (by k_asm) (by rfl) (by rfl) ?_))
  k_with "exec For Name Attribute cons nil" => (k_here; k_dflt (refine For_invVF (by k_asm) (by rfl) (by rfl) ?_))
  k_with "exec For Name Attribute" => (k_here; k_dflt (refine For_invVF (by k_asm) (by rfl) (by rfl) ?_))
  k_with "exec For Name Subscript cons nil" => (k_here; k_dflt (refine For_invVF (by k_asm) (by rfl) (by rfl) ?_))
  k_with "exec For Name Subscript" => (k_here; k_dflt (refine For_invVF (by k_asm) (by rfl) (by rfl) ?_))
  k_with "exec For Name List cons nil" => (k_here; k_dflt (refine For_invVF (by k_asm) (by rfl) (by rfl) ?_))
  k_with "exec For Name List" => (k_here; k_dflt (refine For_invVF (by k_asm) (by rfl) (by rfl) ?_))
  k_with "call builtin:len" => (k_here; k_dflt (first | (refine P.len_str (by lia) ?_) | (refine len_led (by k_asm) (by k_mem) (by lia) ?_)))
  k_with "call builtin:str.rjust" => (k_here; k_dflt (refine SC.rjust (padOk_of (by lia) (by lia)) ?_); intro _ _)
  k_with "call builtin:str.ljust" => (k_here; k_dflt (refine SC.ljust (padOk_of (by lia) (by lia)) ?_); intro _ _)
  k_with "srcat" => exact Or.inr ⟨_, by k_mem, rfl, _, rfl⟩
  k_with "FinE" => ((unfold LCg.FinE); intro D' h' tk' F' N' o1'; (replace o1' := offD_of o1'); (try simp only [OffD, and_true] at o1'); (repeat (obtain ⟨o2', o1'⟩ := o1')); (try simp only [List.nil_append, List.cons_append] at N'); (try dsimp only))
  k_with "fresh" => ((simp only [FreshOver, OffD, List.nil_append, List.cons_append, and_true]); (repeat' (refine And.intro ?_ ?_)); all_goals first | assumption | exact Dist.symm (by assumption) | exact lt_off (by assumption) | exact allLt_off (by assumption) | exact allLt_off (And.right (by assumption)) | exact allLt_off (And.right (And.right (by assumption))) | exact allLt_off (And.right (And.right (And.right (by assumption)))) | exact Dist.of (by lia))
  k_with "subscriptTail" => (k_here; (with_reducible show wpAny _ _ (subscriptTail _ _ (Value.ref _) (Value.int _ _)) _ _ _); k_dflt (refine item_led (by k_asm) (by k_mem) (by lia) (by lia) (by assumption) ?_))
  k_with "binaryOp Add str str" => (k_here; (with_reducible show wpAny _ _ (binaryOp Operator.Add (Value.str _ _) (Value.str _ _)) _ _ _); (refine PyProof.Rows.add_str (hsz := ?zqhz9) ?_); (case zqhz9 => first | (simp only [Str.length_append, sizeLine_eq]; lia) | walk_at "addlen"); intro _ _)
  k_with "subscriptTail Name Name ref int" => (k_here; k_dflt (refine item_led (by k_asm) (by k_mem) (by lia) (by lia) (by assumption) ?_))
  k_with "call builtin:max" => (k_here; k_dflt (refine max_ints rfl (by k_asm) (by k_asm) ?_); intro h' tk' t' F' N'; (try k_sweep))
  k_with "call type:range" => (k_here; (with_reducible show wpAny _ _ (call _ [_, _, _]) _ _ _); k_dflt (refine range3_rows (by k_asm) (by k_asm) (by lia) ?_ (Or.inl (PyProof.noPylong_small (by lia)))); intro h' tk' t₁ u₁ v₁ r' F' N' k')
  k_with "FinA" => ((unfold LCg.FinA); intro D' h' tk' F' N' o1'; (replace o1' := offD_of o1'); (try simp only [OffD, and_true] at o1'); (repeat (obtain ⟨o2', o1'⟩ := o1')); (try simp only [List.nil_append, List.cons_append] at N'); (try dsimp only))
  k_with "exec Assign cons ListComp" => (k_here; k_dflt (refine LCg.Assign_ListComp_U (F₀ := by k_asm) (by rfl) (by with_unfolding_all rfl) (by with_unfolding_all rfl) (by decide) (by rfl) (by decide) (by rfl) (by rfl) (by rfl) ?_))
  k_with "ite" => (refine ite_strs ?_)
  k_with "units_room" => (((try simp only [units_under_make, units_in1, units_deeper, Around.mark_units, units_caller]); (try dsimp only [ktrTop]); (try simp only [units_under_make, units_in1, units_deeper, Around.mark_units, units_caller]); lia))
  k_with "k_room" => (((try simp only [depth_under_make, depth_under_kw, depth_in1, depth_deeper, depth_caller]); (try dsimp only [ktrTop]); lia))
  k_with "k_units" => (units_room)
  k_with "k_all" => (first | assumption | exact off1_ne (by assumption) | exact off1_ne (off3_I (by assumption)) | exact off1_ne (off3_C (by assumption)) | exact off1_ne (off3_D (by assumption)) | exact lt_ne (by assumption) | exact allLt_ne (by assumption) | exact allLt_ne (And.right (by assumption)) | exact allLt_ne (And.right (And.right (by assumption))) | exact allLt_ne (And.right (And.right (And.right (by assumption)))))
  k_with "k_ne" => (first | exact Dist.ne (by assumption) | exact Dist.ne (Dist.symm (by assumption)))
  k_with "led" => ((try dsimp only [vecL, vecD, ent]); (try simp only [List.cons_append, List.nil_append, List.append_nil]); kcf_all)
  k_with "fresh" => ((try dsimp only [vecL, vecD, ent]); (simp only [FreshOver, OffD, List.nil_append, List.cons_append, List.append_nil, and_true]); (repeat' (refine And.intro ?_ ?_)); all_goals first | assumption | exact Dist.symm (by assumption) | exact ne_lt (by assumption) | exact ne_gt (by assumption) | exact lt_off (by assumption) | exact allLt_off (by assumption) | exact Dist.of (by lia))
  k_with "k_lt" => ((rename AllLt _ _ => kltH); simp only [AllLt, and_true] at kltH; (repeat (obtain ⟨_, kltH⟩ : _ ∧ _ := kltH)))
  k_with "k_all" => (first | exact allLt_ne (by assumption) | exact allLt_ne_s (by assumption) | exact off1_ne (by assumption) | exact lt_ne (by assumption) | assumption)
  k_with "k_ne" => (first | exact Dist.ne (by assumption) | exact Dist.ne (Dist.symm (by assumption)) | exact ne_lt (by assumption) | exact ne_gt (by assumption) | exact ne_lt_s (by assumption) | exact ne_gt_s (by assumption) | (refine neN ?_; (try dsimp only); lia))
  k_with "call ref" => (k_here; (with_reducible show wpAny _ _ (call (.ref 261) _) _ _ _); k_dflt (refine Calls.use (by k_asm) (by k_asm) (by k_asm) (by k_asm) (by k_asm) rfl (by walk_at "sel") (named_calls _ (by assumption) (by assumption) (by lia) (by lia) (by lia) (by lia) (by assumption) (by assumption) (by first | exact Dist.ne (by assumption) | exact Dist.ne (Dist.symm (by assumption)))) (by k_room) (by units_room) (by walk_at "apart") ?_); k_whole; intro v9 nw9 pr9 h' tk' hp9 hf' F' N'; obtain ⟨D', ys', k', e91, e92, e93, hys'⟩ := hp9; subst e91; subst e92; subst e93; (try simp only [List.nil_append, List.cons_append] at N'); (try simp only [FreshOver, OffD, List.nil_append, List.cons_append, and_true] at hf'); (repeat (obtain ⟨o2', hf'⟩ := hf')); (try dsimp only))
  k_with "call ref" => (k_here; (with_reducible show wpAny _ _ (call (.ref 154) _) _ _ _); k_dflt (refine Calls.use (by k_asm) (by k_asm) (by k_asm) (by k_asm) (by k_asm) rfl (by walk_at "sel") (enc_calls _ (by assumption) (by lia)) (by k_room) (by units_room) (by walk_at "apart") ?_); k_whole; intro v9 nw9 pr9 h' tk' hp9 hf' F' N'; obtain ⟨e91, e92, t', e93⟩ := hp9; subst e91; subst e92; subst e93; (try simp only [List.nil_append, List.cons_append] at N'); (try dsimp only))
  trivial
theorem namedTo_len (xs ns : List Str) (P : Int) (k : Nat) : (namedTo xs ns P k).length = 2 * k := by
  induction k with
  | zero => rfl
  | succ k ih => rw [namedTo_succ]; simp only [List.length_append, List.length_cons, List.length_nil, ih]; lia
theorem namedRows_len (xs ns : List Str) (P : Int) : (namedRows xs ns P).length ≤ 2 * xs.length := by
  unfold namedRows
  rw [namedTo_len]
  have h : 1 ≤ (namedPer xs ns P).toNat := by unfold namedPer; lia
  have := turns_le (n := xs.length) h
  lia
set_option maxRecDepth 100000 in
set_option maxHeartbeats 2000000 in
theorem textN_calls (w : World) {l l2 : Addr} {vs vs2 : List Value} {xs ns : List Str} {n n2 : Nat} {P : Int} {tP : Tok} (hx : StrsAre vs xs) (hx2 : StrsAre vs2 ns) (h0 : 0 ≤ P) (h9 : P ≤ 100) (hn : xs.length ≤ 12) (hn2 : ns.length = xs.length) (hs : Short 100 xs) (hs2 : Short 100 ns) (hl2 : ∀ y ∈ ns, Letters y) :
    Calls w 266 [.ref l, .bool false, .ref l2, .int P tP] 3 130 [(l, listOf vs.toArray n), (l2, listOf vs2.toArray n2)] [] (fun v new pre' => ∃ D ys k, v = .ref D ∧ new = [(D, listOf ys.toArray k)] ∧ pre' = [(l, listOf vs.toArray n), (l2, listOf vs2.toArray n2)] ∧ StrsAre ys (namedRows xs ns P) ∧ ys.length ≤ 30) := by
  unfold Calls
  intro dp un gd cn cs a ccd cl outer A₀ base h₀ L m s loose mean mg mb news Q E B F X N T hk hd hu hm ret
  cases cs; cases hk
  simp only [List.nil_append, List.cons_append] at N
  have hxl := hx.len_eq
  have hxl2 := hx2.len_eq
  refine wpAny_call ?_
  k_dflt k_enter
  k_steps
  unfold Stop
  refine LCg.CompSrc.ledger rfl (by k_asm) (by k_asm) (by k_mem) (size_ok (by simp; lia)) ?_
  intro g
  refine comp_inv (fun _ : Unit => _) (fun i ys _ => StrsAre ys (ns.take i)) () .nil ?_ ?_
  · rintro i ys _ v I oI C oC D m₂ h tk E' hin hys hP hoC hx' F₁ N₁ hoff hne
    have hv : vs2[i]? = some v := by simpa using hP
    obtain ⟨y, ty, rfl, hy⟩ := hx2.item i v hv
    have hly := hl2 y (List.mem_of_getElem? hy)
    have hsy := hs2 y (List.mem_of_getElem? hy)
    k_steps
    refine compEnd_eq (c := ()) (by rw [List.take_add_one, hy]; exact strsAre_snoc hys) (by assumption) (by k_asm) (by walk_at "led") (by exact hoff) (by walk_at "srcat")
  · rintro ys _ hys
    have e9 : ns.take vs2.toArray.size = ns := List.take_of_length_le (by simp; lia)
    simp only [e9] at hys
    k_steps
    rename StrsAre _ (namedRows _ _ _) => hr9
    have hq8 := namedRows_len xs ns P
    rw [← hr9.len_eq] at hq8
    exact ret _ [(_, listOf _ _)] _ _ _ ⟨_, _, _, rfl, rfl, rfl, hr9, by lia⟩ (by walk_at "fresh") (by k_asm) (news_iff (by k_asm) (by walk_at "led"))
theorem words_B15 : True := by
  k_with_none
  k_with "call builtin:list.pop" => (k_here; k_dflt (refine' kl_pop ?zqF ?zqN (kl_last_snoc _ _) ?zqU ?zqZ ?_; (case zqF => k_asm); (case zqN => k_asm); (case zqU => k_upd); (case zqZ => (simp only [sizeLine_eq]; simp only [List.length_append, List.length_singleton]; lia)); k_whole; intro h' F' N'))
  k_with "CompSrc" => (refine Stop.mk ?_)
  k_with "eval ListComp" => (k_here; k_dflt (refine LCg.ListComp_U (F₀ := by k_asm) (by with_unfolding_all rfl) (by decide) (by rfl) (by decide) (by rfl) ?_))
  k_with "sel" => first | exact Sel.nil | (refine' Sel.cons ?zqsl1 ?zqsl2; (case zqsl1 => walk_at "rem"); (case zqsl2 => walk_at "sel"))
  k_with "rem" => first | exact Rem.head | (refine' Rem.tail ?zqrm1; (case zqrm1 => walk_at "rem"))
  k_with "apart" => first | exact List.forall_mem_nil _ | (refine List.forall_mem_cons.mpr ⟨by k_all, ?_⟩; walk_at "apart")
  k_with "CompEnd" => (refine Stop.mk ?_)
  k_with "call builtin:str.join" => (k_here; k_dflt (refine join_led (by k_asm) (by k_mem) (by first | assumption | walk_at "strs") (by first | assumption | decide +kernel) (by first | assumption | walk_at "joinsum") ?_); intro _ _)
  k_with "led" => ((try dsimp only); (try simp only [List.cons_append, List.nil_append]); kcf_all)
  k_with "pyIter ref" => (k_here; refine Stop.mk ?_)
  k_with "exec For" => (k_here; k_dflt (refine For_invVF (by k_asm) (by rfl) (by rfl) ?_))
  k_with "kept" => (intro z9 h91 h92 h93; (try simp only [List.contains_cons, List.contains_nil, Bool.or_false, Bool.or_eq_false_iff, beq_eq_false_iff_ne, ne_eq] at h93); simp [lmap, kstB, h91, h93])
  k_with "held" => first | exact List.forall_mem_nil _ | (refine List.forall_mem_cons.mpr ⟨rfl, ?_⟩; walk_at "held")
  k_with "call builtin:list.append" => (k_here; k_dflt (refine' append_K ?zqk1 ?zqk2 ?zqk3 ?_ ?zqz; (case zqk1 => k_asm); (case zqk2 => k_asm); (case zqk3 => k_upd); (case zqz => first | (simp only [List.size_toArray, sizeLine_eq, List.length_append, List.length_singleton]; lia) | (simp only [List.size_toArray, sizeLine_eq, List.length_append, List.length_singleton]; refine Nat.le_trans (Nat.add_le_add_right (kpick_len _ _ _) _) ?_; lia)); k_whole); intro h' F' N'; (try simp only [List.push_toArray] at N'); (try k_sweep))
  k_with "call builtin:list.reverse" => (k_here; k_dflt (refine' kl_reverse ?zqF ?zqN ?zqe ?zqU ?zqz ?_; (case zqF => k_asm); (case zqN => k_asm); (case zqU => k_upd); (case zqe => exact (rfl : _ = List.reverse _)); (case zqz => (show List.length _ ≤ _; rw [IntsAre.length (by assumption)]; simp only [sizeLine_eq]; lia)); k_whole); intro h' F' N')
  k_with "below" => ((try simp only [List.cons_append, List.nil_append, AllLt, and_true]); first | assumption | exact allLt_iff.mpr (by assumption) | exact And.right (by assumption) | exact And.right (And.right (by assumption)) | exact And.right (And.right (And.right (by assumption))) | exact And.right (And.right (And.right (And.right (by assumption)))))
  k_with "exec For Name Name cons nil" => (k_here; k_dflt (refine For_invVF (by k_asm) (by rfl) (by rfl) ?_))
  k_with "exec For Name Name" => (k_here; k_dflt (refine For_invVF (by k_asm) (by rfl) (by rfl) ?_))
  k_with "exec For Name Call cons nil" => (k_here; k_dflt (refine For_invVF (by k_asm) (by rfl) (by rfl) ?_))
  k_with "exec For Name Call" => (k_here; k_dflt (refine For_invVF (by k_asm) (by rfl) (by rfl) ?_))
  k_with "exec For Name Attribute cons nil" => (k_here; k_dflt (refine For_invVF (by k_asm) (by rfl) (by rfl) ?_))
  k_with "exec For Name Attribute" => (k_here; k_dflt (refine For_invVF (by k_asm) (by rfl) (by rfl) ?_))
  k_with "exec For Name Subscript cons nil" => (k_here; k_dflt (refine For_invVF (by k_asm) (by rfl) (by rfl) ?_))
  k_with "exec For Name Subscript" => (k_here; k_dflt (refine For_invVF (by k_asm) (by rfl) (by rfl) ?_))
  k_with "exec For Name List cons nil" => (k_here; k_dflt (refine For_invVF (by k_asm) (by rfl) (by rfl) ?_))
  k_with "exec For Name List" => (k_here; k_dflt (refine For_invVF (by k_asm) (by rfl) (by rfl) ?_))
  k_with "call builtin:len" => (k_here; k_dflt (first | (refine P.len_str (by lia) ?_) | (refine len_led (by k_asm) (by k_mem) (by lia) ?_)))
  k_with "call builtin:str.rjust" => (k_here; k_dflt (refine SC.rjust (padOk_of (by lia) (by lia)) ?_); intro _ _)
  k_with "call builtin:str.ljust" => (k_here; k_dflt (refine SC.ljust (padOk_of (by lia) (by lia)) ?_); intro _ _)
  k_with "srcat" => exact Or.inr ⟨_, by k_mem, rfl, _, rfl⟩
  k_with "FinE" => ((unfold LCg.FinE); intro D' h' tk' F' N' o1'; (replace o1' := offD_of o1'); (try simp only [OffD, and_true] at o1'); (repeat (obtain ⟨o2', o1'⟩ := o1')); (try simp only [List.nil_append, List.cons_append] at N'); (try dsimp only))
  k_with "fresh" => ((simp only [FreshOver, OffD, List.nil_append, List.cons_append, and_true]); (repeat' (refine And.intro ?_ ?_)); all_goals first | assumption | exact Dist.symm (by assumption) | exact lt_off (by assumption) | exact allLt_off (by assumption) | exact allLt_off (And.right (by assumption)) | exact allLt_off (And.right (And.right (by assumption))) | exact allLt_off (And.right (And.right (And.right (by assumption)))) | exact Dist.of (by lia))
  k_with "subscriptTail" => (k_here; (with_reducible show wpAny _ _ (subscriptTail _ _ (Value.ref _) (Value.int _ _)) _ _ _); k_dflt (refine item_led (by k_asm) (by k_mem) (by lia) (by lia) (by assumption) ?_))
  k_with "binaryOp Add str str" => (k_here; (with_reducible show wpAny _ _ (binaryOp Operator.Add (Value.str _ _) (Value.str _ _)) _ _ _); (refine PyProof.Rows.add_str (hsz := ?zqhz9) ?_); (case zqhz9 => first | (simp only [Str.length_append, sizeLine_eq]; lia) | walk_at "addlen"); intro _ _)
  k_with "subscriptTail Name Name ref int" => (k_here; k_dflt (refine item_led (by k_asm) (by k_mem) (by lia) (by lia) (by assumption) ?_))
  k_with "call builtin:max" => (k_here; k_dflt (refine max_ints rfl (by k_asm) (by k_asm) ?_); intro h' tk' t' F' N'; (try k_sweep))
  k_with "call type:range" => (k_here; (with_reducible show wpAny _ _ (call _ [_, _, _]) _ _ _); k_dflt (refine range3_rows (by k_asm) (by k_asm) (by lia) ?_ (Or.inl (PyProof.noPylong_small (by lia)))); intro h' tk' t₁ u₁ v₁ r' F' N' k')
  k_with "FinA" => ((unfold LCg.FinA); intro D' h' tk' F' N' o1'; (replace o1' := offD_of o1'); (try simp only [OffD, and_true] at o1'); (repeat (obtain ⟨o2', o1'⟩ := o1')); (try simp only [List.nil_append, List.cons_append] at N'); (try dsimp only))
  k_with "exec Assign cons ListComp" => (k_here; k_dflt (refine LCg.Assign_ListComp_U (F₀ := by k_asm) (by rfl) (by with_unfolding_all rfl) (by with_unfolding_all rfl) (by decide) (by rfl) (by decide) (by rfl) (by rfl) (by rfl) ?_))
  k_with "ite" => (refine ite_strs ?_)
  k_with "units_room" => (((try simp only [units_under_make, units_in1, units_deeper, Around.mark_units, units_caller]); (try dsimp only [ktrTop]); (try simp only [units_under_make, units_in1, units_deeper, Around.mark_units, units_caller]); lia))
  k_with "k_room" => (((try simp only [depth_under_make, depth_under_kw, depth_in1, depth_deeper, depth_caller]); (try dsimp only [ktrTop]); lia))
  k_with "k_units" => (units_room)
  k_with "k_all" => (first | assumption | exact off1_ne (by assumption) | exact off1_ne (off3_I (by assumption)) | exact off1_ne (off3_C (by assumption)) | exact off1_ne (off3_D (by assumption)) | exact lt_ne (by assumption) | exact allLt_ne (by assumption) | exact allLt_ne (And.right (by assumption)) | exact allLt_ne (And.right (And.right (by assumption))) | exact allLt_ne (And.right (And.right (And.right (by assumption)))))
  k_with "k_ne" => (first | exact Dist.ne (by assumption) | exact Dist.ne (Dist.symm (by assumption)))
  k_with "led" => ((try dsimp only [vecL, vecD, ent]); (try simp only [List.cons_append, List.nil_append, List.append_nil]); kcf_all)
  k_with "fresh" => first | exact freshL (by assumption) | exact freshL (offD_tail (by assumption)) | exact freshL (offD_sub (by assumption) (by walk_at "led")) | exact freshL (allLt_off (allLt_sub (by assumption) (by walk_at "led")))
  k_with "backL" => (k_whole; intro D' ys' k' h' tk' hys' hof' F' N'; (try dsimp only))
  k_with "backT" => (k_whole; intro t' h' tk' F' N'; (try dsimp only))
  k_with "backV" => (k_whole; intro h' tk' F' N'; (try dsimp only))
  k_with "offD" => first | assumption | exact offD_sub (by assumption) (by walk_at "led") | exact allLt_off (allLt_sub (by assumption) (by walk_at "led"))
  k_with "k_lt" => skip
  k_with "k_all" => (first | exact allLt_ne (by assumption) | exact off1_ne (by assumption) | exact lt_ne (by assumption) | assumption | exact off1_ne (offD_tail (by assumption)) | exact off1_ne (offD_tail (offD_tail (by assumption))))
  k_with "k_ne" => (first | exact Dist.ne (by assumption) | exact Dist.ne (Dist.symm (by assumption)) | exact ne_lt (by assumption) | exact ne_gt (by assumption) | exact ne_gt (And.left (by assumption)) | exact ne_lt (And.left (by assumption)) | exact Dist.ne (And.left (by assumption)) | exact Dist.ne (Dist.symm (And.left (by assumption))) | exact ne_gt (And.left (And.right (by assumption))) | exact ne_lt (And.left (And.right (by assumption))) | (refine neN ?_; (try dsimp only); lia))
  k_with "call ref" => (k_here; (with_reducible show wpAny _ _ (call (.ref 211) _) _ _ _); k_dflt (refine Calls.useL (by k_asm) (by k_asm) (by k_asm) (by k_asm) (by k_asm) rfl (by walk_at "sel") (labels_calls _ (by assumption) (by assumption) (by assumption) (by assumption) (by assumption) (by assumption)) (by k_room) (by units_room) ?_); walk_at "backL")
  k_with "call ref" => (k_here; (with_reducible show wpAny _ _ (call (.ref 182) _) _ _ _); k_dflt (refine Calls.useL (by k_asm) (by k_asm) (by k_asm) (by k_asm) (by k_asm) rfl (by walk_at "sel") (itemtexts_calls _ (by assumption) (by rw [List.length_map]; assumption) (by assumption)) (by k_room) (by units_room) ?_); walk_at "backL")
  trivial
theorem lab_mem {xs : List Str} {ks : List (Option Int)} {y : Str} (h : some y ∈ ks.map (labOf xs)) : y ∈ xs := by
  obtain ⟨c, _, hc⟩ := List.mem_map.mp h
  cases c with
  | none => cases hc
  | some k =>
    simp only [labOf] at hc
    split at hc
    · exact List.mem_of_getElem? hc
    · cases hc
set_option maxRecDepth 100000 in
set_option maxHeartbeats 2000000 in
theorem shownlabels_calls (w : World) {f fd A lv ld l c : Addr} {kd : Str} {tk t1 t2 t3 t4 t5 tk2 s1 s2 s3 s4 s5 : Tok} {n n2 ln cn : Nat} {ao : Obj} {ls cvs : List Value} {rest : List (Str × Value)} {xs : List Str} {ks : List (Option Int)}
    (hA : ao.IsDictOf (strKind prg w) ((Str.ofString "levels", .ref lv) :: rest)) (hAm : (A == sysModules) = false) (hx : StrsAre ls xs) (hn : xs.length ≤ 12) (hl : ∀ y ∈ xs, Letters y ∧ y.length ≤ 900) (hc : CodesAre cvs ks) (hn2 : ks.length ≤ 12) :
    Calls w 293 [.ref f] 5 130 (vecL w f fd kd tk t1 t2 t3 t4 t5 n (.ref c) (.ref A) ++ (A, ao) :: (vecL w lv ld (Str.ofString "character") tk2 s1 s2 s3 s4 s5 n2 (.ref l) .none ++ [(l, listOf ls.toArray ln), (c, listOf cvs.toArray cn)])) []
      (fun v new pre' => ∃ D ys k, v = .ref D ∧ new = [(D, listOf ys.toArray k)] ∧ pre' = vecL w f fd kd tk t1 t2 t3 t4 t5 n (.ref c) (.ref A) ++ (A, ao) :: (vecL w lv ld (Str.ofString "character") tk2 s1 s2 s3 s4 s5 n2 (.ref l) .none ++ [(l, listOf ls.toArray ln), (c, listOf cvs.toArray cn)]) ∧ StrsAre ys (ks.map (shownOf xs))) := by
  have hxl := hx.len_eq
  have hcl := hc.len_eq
  have hlab : ∀ y, some y ∈ ks.map (labOf xs) → Letters y ∧ y.length ≤ 900 := fun y hy => hl y (lab_mem hy)
  unfold Calls
  intro dp un gd cn' cs a ccd cl outer A₀ base h₀ L m s loose mean mg mb news Q E B F X N T hk hd hu hm ret
  cases cs; cases hk
  dsimp only [vecL] at N
  simp only [List.nil_append, List.cons_append] at N
  refine wpAny_call ?_
  k_dflt k_enter
  k_steps
  rename StrsAre _ (List.map shown _) => hr9
  rw [List.map_map] at hr9
  exact ret _ [(_, listOf _ _)] _ _ _ ⟨_, _, _, rfl, rfl, rfl, hr9⟩ (by walk_at "fresh") (by k_asm) (news_iff (by k_asm) (by walk_at "led"))
theorem words_B23 : True := by
  k_with_none
  k_with "call builtin:list.pop" => (k_here; k_dflt (refine' kl_pop ?zqF ?zqN (kl_last_snoc _ _) ?zqU ?zqZ ?_; (case zqF => k_asm); (case zqN => k_asm); (case zqU => k_upd); (case zqZ => (simp only [sizeLine_eq]; simp only [List.length_append, List.length_singleton]; lia)); k_whole; intro h' F' N'))
  k_with "CompSrc" => (refine Stop.mk ?_)
  k_with "eval ListComp" => (k_here; k_dflt (refine LCg.ListComp_U (F₀ := by k_asm) (by with_unfolding_all rfl) (by decide) (by rfl) (by decide) (by rfl) ?_))
  k_with "sel" => first | exact Sel.nil | (refine' Sel.cons ?zqsl1 ?zqsl2; (case zqsl1 => walk_at "rem"); (case zqsl2 => walk_at "sel"))
  k_with "rem" => first | exact Rem.head | (refine' Rem.tail ?zqrm1; (case zqrm1 => walk_at "rem"))
  k_with "apart" => first | exact List.forall_mem_nil _ | (refine List.forall_mem_cons.mpr ⟨by k_all, ?_⟩; walk_at "apart")
  k_with "CompEnd" => (refine Stop.mk ?_)
  k_with "call builtin:str.join" => (k_here; k_dflt (refine join_led (by k_asm) (by k_mem) (by first | assumption | walk_at "strs") (by first | assumption | decide +kernel) (by first | assumption | walk_at "joinsum") ?_); intro _ _)
  k_with "led" => ((try dsimp only); (try simp only [List.cons_append, List.nil_append]); kcf_all)
  k_with "pyIter ref" => (k_here; refine Stop.mk ?_)
  k_with "exec For" => (k_here; k_dflt (refine For_invVF (by k_asm) (by rfl) (by rfl) ?_))
  k_with "kept" => (intro z9 h91 h92 h93; (try simp only [List.contains_cons, List.contains_nil, Bool.or_false, Bool.or_eq_false_iff, beq_eq_false_iff_ne, ne_eq] at h93); simp [lmap, kstB, h91, h93])
  k_with "held" => first | exact List.forall_mem_nil _ | (refine List.forall_mem_cons.mpr ⟨rfl, ?_⟩; walk_at "held")
  k_with "call builtin:list.append" => (k_here; k_dflt (refine' append_K ?zqk1 ?zqk2 ?zqk3 ?_ ?zqz; (case zqk1 => k_asm); (case zqk2 => k_asm); (case zqk3 => k_upd); (case zqz => first | (simp only [List.size_toArray, sizeLine_eq, List.length_append, List.length_singleton]; lia) | (simp only [List.size_toArray, sizeLine_eq, List.length_append, List.length_singleton]; refine Nat.le_trans (Nat.add_le_add_right (kpick_len _ _ _) _) ?_; lia)); k_whole); intro h' F' N'; (try simp only [List.push_toArray] at N'); (try k_sweep))
  k_with "call builtin:list.reverse" => (k_here; k_dflt (refine' kl_reverse ?zqF ?zqN ?zqe ?zqU ?zqz ?_; (case zqF => k_asm); (case zqN => k_asm); (case zqU => k_upd); (case zqe => exact (rfl : _ = List.reverse _)); (case zqz => (show List.length _ ≤ _; rw [IntsAre.length (by assumption)]; simp only [sizeLine_eq]; lia)); k_whole); intro h' F' N')
  k_with "below" => ((try simp only [List.cons_append, List.nil_append, AllLt, and_true]); first | assumption | exact allLt_iff.mpr (by assumption) | exact And.right (by assumption) | exact And.right (And.right (by assumption)) | exact And.right (And.right (And.right (by assumption))) | exact And.right (And.right (And.right (And.right (by assumption)))))
  k_with "exec For Name Name cons nil" => (k_here; k_dflt (refine For_invVF (by k_asm) (by rfl) (by rfl) ?_))
  k_with "exec For Name Name" => (k_here; k_dflt (refine For_invVF (by k_asm) (by rfl) (by rfl) ?_))
  k_with "exec For Name Call cons nil" => (k_here; k_dflt (refine For_invVF (by k_asm) (by rfl) (by rfl) ?_))
  k_with "exec For Name Call" => (k_here; k_dflt (refine For_invVF (by k_asm) (by rfl) (by rfl) ?_))
  k_with "exec For Name Attribute cons nil" => (k_here; k_dflt (refine For_invVF (by k_asm) (by rfl) (by rfl) ?_))
  k_with "exec For Name Attribute" => (k_here; k_dflt (refine For_invVF (by k_asm) (by rfl) (by rfl) ?_))
  k_with "exec For Name Subscript cons nil" => (k_here; k_dflt (refine For_invVF (by k_asm) (by rfl) (by rfl) ?_))
  k_with "exec For Name Subscript" => (k_here; k_dflt (refine For_invVF (by k_asm) (by rfl) (by rfl) ?_))
  k_with "exec For Name List cons nil" => (k_here; k_dflt (refine For_invVF (by k_asm) (by rfl) (by rfl) ?_))
  k_with "exec For Name List" => (k_here; k_dflt (refine For_invVF (by k_asm) (by rfl) (by rfl) ?_))
  k_with "call builtin:len" => (k_here; k_dflt (first | (refine P.len_str (by lia) ?_) | (refine len_led (by k_asm) (by k_mem) (by lia) ?_)))
  k_with "call builtin:str.rjust" => (k_here; k_dflt (refine SC.rjust (padOk_of (by lia) (by lia)) ?_); intro _ _)
  k_with "call builtin:str.ljust" => (k_here; k_dflt (refine SC.ljust (padOk_of (by lia) (by lia)) ?_); intro _ _)
  k_with "srcat" => exact Or.inr ⟨_, by k_mem, rfl, _, rfl⟩
  k_with "FinE" => ((unfold LCg.FinE); intro D' h' tk' F' N' o1'; (replace o1' := offD_of o1'); (try simp only [OffD, and_true] at o1'); (repeat (obtain ⟨o2', o1'⟩ := o1')); (try simp only [List.nil_append, List.cons_append] at N'); (try dsimp only))
  k_with "fresh" => ((simp only [FreshOver, OffD, List.nil_append, List.cons_append, and_true]); (repeat' (refine And.intro ?_ ?_)); all_goals first | assumption | exact Dist.symm (by assumption) | exact lt_off (by assumption) | exact allLt_off (by assumption) | exact allLt_off (And.right (by assumption)) | exact allLt_off (And.right (And.right (by assumption))) | exact allLt_off (And.right (And.right (And.right (by assumption)))) | exact Dist.of (by lia))
  k_with "subscriptTail" => (k_here; (with_reducible show wpAny _ _ (subscriptTail _ _ (Value.ref _) (Value.int _ _)) _ _ _); k_dflt (refine item_led (by k_asm) (by k_mem) (by lia) (by lia) (by assumption) ?_))
  k_with "binaryOp Add str str" => (k_here; (with_reducible show wpAny _ _ (binaryOp Operator.Add (Value.str _ _) (Value.str _ _)) _ _ _); (refine PyProof.Rows.add_str (hsz := ?zqhz9) ?_); (case zqhz9 => first | (simp only [Str.length_append, sizeLine_eq]; lia) | walk_at "addlen"); intro _ _)
  k_with "subscriptTail Name Name ref int" => (k_here; k_dflt (refine item_led (by k_asm) (by k_mem) (by lia) (by lia) (by assumption) ?_))
  k_with "call builtin:max" => (k_here; k_dflt (refine max_ints rfl (by k_asm) (by k_asm) ?_); intro h' tk' t' F' N'; (try k_sweep))
  k_with "call type:range" => (k_here; (with_reducible show wpAny _ _ (call _ [_, _, _]) _ _ _); k_dflt (refine range3_rows (by k_asm) (by k_asm) (by lia) ?_ (Or.inl (PyProof.noPylong_small (by lia)))); intro h' tk' t₁ u₁ v₁ r' F' N' k')
  k_with "FinA" => ((unfold LCg.FinA); intro D' h' tk' F' N' o1'; (replace o1' := offD_of o1'); (try simp only [OffD, and_true] at o1'); (repeat (obtain ⟨o2', o1'⟩ := o1')); (try simp only [List.nil_append, List.cons_append] at N'); (try dsimp only))
  k_with "exec Assign cons ListComp" => (k_here; k_dflt (refine LCg.Assign_ListComp_U (F₀ := by k_asm) (by rfl) (by with_unfolding_all rfl) (by with_unfolding_all rfl) (by decide) (by rfl) (by decide) (by rfl) (by rfl) (by rfl) ?_))
  k_with "ite" => (refine ite_strs ?_)
  k_with "units_room" => (((try simp only [units_under_make, units_in1, units_deeper, Around.mark_units, units_caller]); (try dsimp only [ktrTop]); (try simp only [units_under_make, units_in1, units_deeper, Around.mark_units, units_caller]); lia))
  k_with "k_room" => (((try simp only [depth_under_make, depth_under_kw, depth_in1, depth_deeper, depth_caller]); (try dsimp only [ktrTop]); lia))
  k_with "k_units" => (units_room)
  k_with "k_all" => (first | assumption | exact off1_ne (by assumption) | exact off1_ne (off3_I (by assumption)) | exact off1_ne (off3_C (by assumption)) | exact off1_ne (off3_D (by assumption)) | exact lt_ne (by assumption) | exact allLt_ne (by assumption) | exact allLt_ne (And.right (by assumption)) | exact allLt_ne (And.right (And.right (by assumption))) | exact allLt_ne (And.right (And.right (And.right (by assumption)))))
  k_with "k_ne" => (first | exact Dist.ne (by assumption) | exact Dist.ne (Dist.symm (by assumption)))
  k_with "call builtin:str.join" => (k_here; k_dflt (refine join_led (by k_asm) (by k_mem) (by walk_at "strs") (by first | with_reducible assumption | decide +kernel) (by first | with_reducible assumption | walk_at "joinsum") ?_); intro _ _)
  k_with "subscriptTail Name Slice ref ref" => (k_here; k_dflt (refine' kms_slice_lit ?zqF ?zqN ?zql ?zqp ?zqq ?zqe ?_ ?zqs ?zqt ?zqz; (case zqF => k_asm); (case zqN => k_asm); (case zql => exact News.isList (by k_asm) (by k_mem)); (case zqp => kmk_part); (case zqq => kmk_part); (case zqe => exact (rfl : kms_pick (List.toArray _).toList _ _ = kms_pick _ _ _)); (case zqs => with_unfolding_all rfl); (case zqt => kmk_pure); (case zqz => (simp only [List.size_toArray, sizeLine_eq]; lia))); intro D' h' F' N' l1; (try (replace l1 := allLt_of l1)); (try k_sweep))
  k_with "binaryOp Add ref ref" => (k_here; k_dflt (refine add_led (by k_asm) (by k_asm) (by k_mem) (by k_mem) (by first | (simp only [sizeLine_eq]; lia) | (simp only [sizeLine_eq]; refine Nat.le_trans (Nat.add_le_add_right (kpick_len _ _ _) _) ?_; (try simp only [List.length_cons, List.length_nil]); lia)) ?_); intro D' h' F' N' l1; (try (replace l1 := allLt_of l1)); (try k_sweep))
  k_with "strs" => first | with_reducible assumption | with_reducible exact StrsAre.nil | with_reducible exact pick_strs (by with_reducible assumption) _ _ | with_reducible exact strsAre_snoc (by walk_at "strs") | with_reducible exact StrsAre.append' (by walk_at "strs") (by walk_at "strs") | with_reducible exact StrsAre.cons _ _ (by walk_at "strs")
  k_with "short" => first | with_reducible assumption | with_reducible exact short_pick (by with_reducible assumption) | with_reducible exact short_app (by walk_at "short") (by walk_at "short") | with_reducible exact short_one (getD_short (by with_reducible assumption)) | with_reducible exact short_one (by lia) | with_reducible exact short_nil | with_reducible exact short_cons (getD_short (by with_reducible assumption)) (by walk_at "short") | with_reducible exact short_cons (by lia) (by walk_at "short")
  k_with "slen" => ((simp only [List.length_append, List.length_cons, List.length_nil, List.length_take, List.length_drop]); lia)
  k_with "joinsum" => exact joinsum (by walk_at "short") (by walk_at "slen")
  k_with "ln" => first | with_reducible exact ln_empty | with_reducible exact getD_short (M := 900) (by with_reducible assumption) | with_reducible assumption | with_reducible exact Nat.le_of_eq (by with_reducible assumption) | with_reducible exact joinlen (by walk_at "short") (by walk_at "slen") (by with_reducible assumption) | with_reducible exact ln_app (by walk_at "ln") (by walk_at "ln")
  k_with "joinParts" => (k_here; (first | (with_reducible show wpAny _ _ (joinParts _ []) _ _ _) | (with_reducible show wpAny _ _ (joinParts _ (evalEach [] _)) _ _ _)); k_dflt (refine joinParts_nil (hsz := ?zqhz9) ?_; (case zqhz9 => exact ln_fit (by walk_at "ln") (by decide +kernel))))
  k_with "And" => ((with_reducible show PySem.Str.length (_ ++ _) ≤ sizeLine ∧ wpAny _ _ (joinParts _ _) _ _ _);  refine And.intro (ln_fit (by walk_at "ln") (by decide +kernel)) ?_)
  k_with "addlen" => exact ln_fit2 (by walk_at "ln") (by walk_at "ln") (by decide +kernel)
  k_with "binaryOp Add str str" => (k_here; (with_reducible show wpAny _ _ (binaryOp Operator.Add (Value.str _ _) (Value.str _ _)) _ _ _); (refine PyProof.Rows.add_str (hsz := ?zqhz9) ?_); (case zqhz9 => walk_at "addlen"); intro _ _)
  k_with "led" => ((try dsimp only [vecL, vecD, ent]); (try simp only [List.cons_append, List.nil_append, List.append_nil]); kcf_all)
  k_with "fresh" => first | exact freshL (by assumption) | exact freshL (offD_tail (by assumption)) | exact freshL (offD_sub (by assumption) (by walk_at "led")) | exact freshL (allLt_off (allLt_sub (by assumption) (by walk_at "led")))
  k_with "backL" => (k_whole; intro D' ys' k' h' tk' hys' hof' F' N'; (try dsimp only))
  k_with "backT" => (k_whole; intro t' h' tk' F' N'; (try dsimp only))
  k_with "backV" => (k_whole; intro h' tk' F' N'; (try dsimp only))
  k_with "offD" => first | assumption | exact offD_sub (by assumption) (by walk_at "led") | exact allLt_off (allLt_sub (by assumption) (by walk_at "led"))
  k_with "k_lt" => skip
  k_with "k_all" => (first | exact allLt_ne (by assumption) | exact off1_ne (by assumption) | exact lt_ne (by assumption) | assumption | exact off1_ne (offD_tail (by assumption)) | exact off1_ne (offD_tail (offD_tail (by assumption))))
  k_with "k_ne" => (first | exact Dist.ne (by assumption) | exact Dist.ne (Dist.symm (by assumption)) | exact ne_lt (by assumption) | exact ne_gt (by assumption) | exact ne_gt (And.left (by assumption)) | exact ne_lt (And.left (by assumption)) | exact Dist.ne (And.left (by assumption)) | exact Dist.ne (Dist.symm (And.left (by assumption))) | exact ne_gt (And.left (And.right (by assumption))) | exact ne_lt (And.left (And.right (by assumption))) | (refine neN ?_; (try dsimp only); lia))
  k_with "keptW" => (intro z9 h92 h93; (try simp only [List.mem_cons, List.not_mem_nil, or_false, forall_eq_or_imp, forall_eq] at h92); (try simp only [List.contains_cons, List.contains_nil, Bool.or_false, Bool.or_eq_false_iff, beq_eq_false_iff_ne, ne_eq] at h93); simp [lmap, kstB, h92, h93])
  k_with "exec While" => (k_here; refine Stop.mk ?_)
  k_with "exec While BoolOp" => (k_here; refine Stop.mk ?_)
  k_with "exec While BoolOp cons nil" => (k_here; refine Stop.mk ?_)
  trivial
noncomputable def cum (xs : List Str) (k : Nat) : Int := ((xs.take k).map fun y => 1 + (y.length : Int)).sum
theorem cum_succ {xs : List Str} {k : Nat} {y : Str} (h : xs[k]? = some y) : cum xs (k + 1) = cum xs k + (1 + (y.length : Int)) := by
  unfold cum
  rw [List.take_add_one, h]
  simp [List.sum_append]
theorem cum_mono {xs : List Str} {i : Nat} : ∀ {j : Nat}, cum xs i ≤ cum xs (i + j)
  | 0 => Int.le_refl _
  | j + 1 => by
    have h := cum_mono (xs := xs) (i := i) (j := j)
    rw [← Nat.add_assoc]
    cases e : xs[i + j]? with
    | none =>
      have hl : xs.length ≤ i + j := List.getElem?_eq_none_iff.mp e
      unfold cum at h ⊢
      rw [List.take_of_length_le (i := i + j + 1) (by lia)]
      rw [List.take_of_length_le (i := i + j) hl] at h
      exact h
    | some y => rw [cum_succ e]; lia
theorem lv_take {xs : List Str} {room : Int} {k : Nat} (h1 : ∀ j : Nat, j < k → cum xs (j + 1) ≤ room) (h2 : k = xs.length ∨ room < cum xs (k + 1)) : ∀ i : Nat, i ≤ xs.length → lvState (xs.take i) room = (cum xs i, ((min i k : Nat) : Int))
  | 0, _ => by simp [lvState, cum]
  | i + 1, hi => by
    obtain ⟨y, hy⟩ : ∃ y, xs[i]? = some y := ⟨xs[i]'(by lia), by simp⟩
    rw [List.take_add_one, hy]
    simp only [Option.toList]
    rw [lvState_snoc, lv_take h1 h2 i (by lia), lvStep, cum_succ hy]
    dsimp only
    by_cases hik : i < k
    · have := h1 i hik
      rw [cum_succ hy] at this
      rw [if_pos (by lia)]
      refine Prod.ext (by dsimp only; lia) ?_
      dsimp only
      lia
    · rcases h2 with h2 | h2
      · lia
      · have h3 := cum_mono (xs := xs) (i := k + 1) (j := i - k)
        rw [show k + 1 + (i - k) = i + 1 by lia, cum_succ hy] at h3
        rw [if_neg (by lia)]
        refine Prod.ext (by dsimp only; lia) ?_
        dsimp only
        lia
theorem lv_count {xs : List Str} {room : Int} {k : Nat} (hk : k ≤ xs.length) (h1 : ∀ j : Nat, j < k → cum xs (j + 1) ≤ room) (h2 : k = xs.length ∨ room < cum xs (k + 1)) : (lvState xs room).2 = (k : Int) := by
  have h := lv_take h1 h2 xs.length (Nat.le_refl _)
  rw [List.take_of_length_le (Nat.le_refl _)] at h
  rw [h]
  dsimp only
  lia
theorem pick_to {xs : List Str} {k : Int} (h0 : 0 ≤ k) (h1 : k ≤ (xs.length : Int)) : (xs.drop (kms_lo none xs.length)).take (kms_hi (some k) xs.length - kms_lo none xs.length) = xs.take k.toNat := by
  have e : kms_hi (some k) xs.length = k.toNat := by
    show (if k < 0 then _ else _) = _
    rw [if_neg (by lia)]
    lia
  rw [e]
  show ((xs.drop 0).take (k.toNat - 0)) = _
  simp
noncomputable def lawLevG (xs : List Str) (o : Bool) (g : Int) : Str :=
  if (xs.length : Int) < 2 ∨ g = (xs.length : Int) then Str.ofString "Levels: " ++ Txt.join (lvSep o) xs
  else if g < 2 then Str.ofString (toString (xs.length : Int)) ++ Str.ofString " Levels: " ++ xs.getD (Int.toNat 0) Str.empty ++ lvSep o ++ Str.ofString "..."
  else Str.ofString (toString (xs.length : Int)) ++ Str.ofString " Levels: " ++ Txt.join (lvSep o) ((xs.drop (kms_lo none xs.length)).take (kms_hi (some (g - 1)) xs.length - kms_lo none xs.length) ++ [Str.ofString "...", xs.getD (-1 + (xs.length : Int)).toNat Str.empty])
theorem llG_all {xs : List Str} {o : Bool} {g : Int} (h : (xs.length : Int) < 2 ∨ g = (xs.length : Int)) : Str.ofString "Levels: " ++ Txt.join (lvSep o) xs = lawLevG xs o g := (if_pos h).symm
theorem llG_one {xs : List Str} {o : Bool} {g : Int} (h : ¬ ((xs.length : Int) < 2 ∨ g = (xs.length : Int))) (h2 : g < 2) : Str.ofString (toString (xs.length : Int)) ++ Str.ofString " Levels: " ++ xs.getD (Int.toNat 0) Str.empty ++ lvSep o ++ Str.ofString "..." = lawLevG xs o g := ((if_neg h).trans (if_pos h2)).symm
theorem llG_cut {xs : List Str} {o : Bool} {g : Int} (h : ¬ ((xs.length : Int) < 2 ∨ g = (xs.length : Int))) (h2 : ¬ g < 2) : Str.ofString (toString (xs.length : Int)) ++ Str.ofString " Levels: " ++ Txt.join (lvSep o) ((xs.drop (kms_lo none xs.length)).take (kms_hi (some (g - 1)) xs.length - kms_lo none xs.length) ++ [Str.ofString "...", xs.getD (-1 + (xs.length : Int)).toNat Str.empty]) = lawLevG xs o g := ((if_neg h).trans (if_neg h2)).symm
set_option maxRecDepth 100000 in
set_option maxHeartbeats 4000000 in
theorem lawlevels_calls (w : World) {l : Addr} {vs : List Value} {xs : List Str} {n : Nat} {o : Bool} {P : Int} {tP : Tok} (hx : StrsAre vs xs) (h0 : 0 ≤ P) (h9 : P ≤ 100) (hn : xs.length ≤ 12) (hs : Short 100 xs) :
    Calls w 322 [.ref l, .bool o, .int P tP] 2 100 [(l, listOf vs.toArray n)] [] (fun v new pre' => new = [] ∧ pre' = [(l, listOf vs.toArray n)] ∧ ∃ t', v = .str (lawLevG xs o (lvState xs (P - 15)).2) t') := by
  unfold Calls
  intro dp un gd cn cs a ccd cl outer A₀ base h₀ L m s loose mean mg mb news Q E B F X N T hk hd hu hm ret
  cases cs; cases hk
  simp only [List.nil_append, List.cons_append] at N
  have hvl := hx.len_eq
  refine wpAny_call ?_
  k_dflt k_enter
  k_steps
  unfold Stop
  refine while_W2 ((l, listOf vs.toArray n) :: news) [] (fun c : Int × Tok => [(Str.ofString "fitting", .int c.1 c.2)]) (fun n c => 0 ≤ c.1 ∧ c.1 ≤ (xs.length : Int) ∧ n = ((xs.length : Int) - c.1).toNat ∧ ∀ j : Nat, j < c.1.toNat → cum xs (j + 1) ≤ P - 15)
    (fun c => c.1 = (lvState xs (P - 15)).2 ∧ 0 ≤ c.1 ∧ c.1 ≤ (xs.length : Int)) xs.length (_, _)
    (by k_asm) (by k_asm) (by walk_at "led") (by walk_at "held") ⟨Int.le_refl _, by lia, by simp, by intro j hj; simp at hj⟩ ?_ ?_
  · rintro n ⟨k9, t9⟩ u h tk Q' ⟨hk0, hk1, hk2, hk3⟩ F₁ N₁
    dsimp only at hk0 hk1 hk2 hk3 F₁ ⊢
    k_steps
    · unfold Stop
      have hp9 := pick_strs hx none (some (k9 + 1))
      rw [pick_to (by lia) (by lia)] at hp9
      have hp8 := hp9.len_eq
      refine LCg.CompSrc.ledger rfl (by k_asm) (by k_asm) (by k_mem) (size_ok (by simp at hp8 ⊢; lia)) ?_
      intro g
      refine comp_inv (fun _ : Unit => _) (fun i ys _ => IntsAre ys (((xs.take (k9 + 1).toNat).take i).map fun y => 1 + (y.length : Int))) () .nil ?_ ?_
      · rintro i ys _ v I oI C oC D m₂ h tk E' hin hys hP hoC hx' F₁ N₁ hoff hne
        have hv : (kms_pick vs none (some (k9 + 1)))[i]? = some v := by simpa using hP
        obtain ⟨y, ty, rfl, hy⟩ := hp9.item i v hv
        have hsy := hs y (List.mem_of_mem_take (List.mem_of_getElem? hy))
        k_steps
        refine compEnd_eq (c := ()) (by rw [List.take_add_one, hy, List.map_append]; exact IntsAre.append hys (.cons _ _ .nil)) (by assumption) (by k_asm) (by walk_at "led") hoff (by walk_at "srcat")
      · rintro ys _ hys
        obtain ⟨L9, hL9, hys⟩ : ∃ L9, List.sum L9 = cum xs (k9.toNat + 1) ∧ IntsAre ys L9 := by
          refine ⟨_, ?_, hys⟩
          rw [List.take_of_length_le (l := xs.take (k9 + 1).toNat) (by simp only [List.size_toArray]; exact Nat.le_of_eq hp8.symm)]
          unfold cum
          rw [show (k9 + 1).toNat = k9.toNat + 1 by lia]
        k_steps
        · exact WEnd.next (c' := (_, _)) (by k_asm) (by k_asm) (by walk_at "led") (by walk_at "held") (by walk_at "keptW") (n' := ((xs.length : Int) - (k9 + 1)).toNat) (by lia) ⟨by lia, by lia, rfl, fun j hj => by
            by_cases hj' : j < k9.toNat
            · exact hk3 j hj'
            · rw [show j = k9.toNat by lia]; lia⟩
        · exact WOut.mk (c' := (_, _)) (by k_asm) (by k_asm) (by walk_at "led") (by walk_at "held") (by walk_at "keptW") ⟨by
            rw [lv_count (k := k9.toNat) (by lia) hk3 (.inr (by lia))]; lia, by lia, by lia⟩
    · exact WOut.mk (c' := (_, _)) (by k_asm) (by k_asm) (by walk_at "led") (by walk_at "held") (by walk_at "keptW") ⟨by
        rw [lv_count (k := k9.toNat) (by lia) hk3 (.inl (by lia))]; lia, by lia, by lia⟩
  · rintro ⟨k9, t9⟩ u h tk ⟨hk0, hk1, hk2⟩ F₁ N₁
    dsimp only at hk0 hk1 hk2 F₁ ⊢
    have hsh : Short 900 xs := fun z hz => Nat.le_trans (hs z hz) (by decide)
    have hw := joinsum hsh (by lia)
    have hjl := joinlen (sep := if o = true then Str.ofString " < " else Str.ofString " ") hsh (by lia) (by cases o <;> decide +kernel)
    have hlL : (Str.ofString "Levels: ").length = 8 := by decide +kernel
    have hsep : (if o = true then Str.ofString " < " else Str.ofString " ").length ≤ 16 := by cases o <;> decide +kernel
    have hd3 : (Str.ofString "...").length = 3 := by decide +kernel
    have hLv : (Str.ofString " Levels: ").length = 9 := by decide +kernel
    have h5 : Str.length (Str.ofString (toString (vs.length : Int))) ≤ 2 := strI_short vs.length (by lia)
    subst hk0
    k_steps
    all_goals try rw [hvl]
    · have h99 := llG_all (xs := xs) (o := o) (g := (lvState xs (P - 15)).2) (.inl (by lia))
      unfold lvSep at h99
      rw [h99]
      exact closeT ret (by k_asm) (by k_asm) (by walk_at "led")
    · have h99 := llG_all (xs := xs) (o := o) (g := (lvState xs (P - 15)).2) (.inr (by lia))
      unfold lvSep at h99
      rw [h99]
      exact closeT ret (by k_asm) (by k_asm) (by walk_at "led")
    · have h99 := llG_one (xs := xs) (o := o) (g := (lvState xs (P - 15)).2) (by lia) (by lia)
      unfold lvSep at h99
      rw [h99]
      exact closeT ret (by k_asm) (by k_asm) (by walk_at "led")
    · have h99 := llG_cut (xs := xs) (o := o) (g := (lvState xs (P - 15)).2) (by lia) (by lia)
      unfold lvSep at h99
      rw [h99]
      exact closeT ret (by k_asm) (by k_asm) (by walk_at "led")
theorem words_B24 : True := by
  k_with_none
  k_with "call builtin:list.pop" => (k_here; k_dflt (refine' kl_pop ?zqF ?zqN (kl_last_snoc _ _) ?zqU ?zqZ ?_; (case zqF => k_asm); (case zqN => k_asm); (case zqU => k_upd); (case zqZ => (simp only [sizeLine_eq]; simp only [List.length_append, List.length_singleton]; omega)); k_whole; intro h' F' N'))
  k_with "CompSrc" => (refine Stop.mk ?_)
  k_with "eval ListComp" => (k_here; k_dflt (refine LCg.ListComp_U (F₀ := by k_asm) (by with_unfolding_all rfl) (by decide) (by rfl) (by decide) (by rfl) ?_))
  k_with "sel" => first | exact Sel.nil | (refine' Sel.cons ?zqsl1 ?zqsl2; (case zqsl1 => walk_at "rem"); (case zqsl2 => walk_at "sel"))
  k_with "rem" => first | exact Rem.head | (refine' Rem.tail ?zqrm1; (case zqrm1 => walk_at "rem"))
  k_with "apart" => first | exact List.forall_mem_nil _ | (refine List.forall_mem_cons.mpr ⟨by k_all, ?_⟩; walk_at "apart")
  k_with "CompEnd" => (refine Stop.mk ?_)
  k_with "call builtin:str.join" => (k_here; k_dflt (refine join_led (by k_asm) (by k_mem) (by first | assumption | walk_at "strs") (by first | assumption | decide +kernel) (by first | assumption | walk_at "joinsum") ?_); intro _ _)
  k_with "led" => ((try dsimp only); (try simp only [List.cons_append, List.nil_append]); kcf_all)
  k_with "pyIter ref" => (k_here; refine Stop.mk ?_)
  k_with "exec For" => (k_here; k_dflt (refine For_invVF (by k_asm) (by rfl) (by rfl) ?_))
  k_with "kept" => (intro z9 h91 h92 h93; (try simp only [List.contains_cons, List.contains_nil, Bool.or_false, Bool.or_eq_false_iff, beq_eq_false_iff_ne, ne_eq] at h93); simp [lmap, kstB, h91, h93])
  k_with "held" => first | exact List.forall_mem_nil _ | (refine List.forall_mem_cons.mpr ⟨rfl, ?_⟩; walk_at "held")
  k_with "call builtin:list.append" => (k_here; k_dflt (refine' append_K ?zqk1 ?zqk2 ?zqk3 ?_ ?zqz; (case zqk1 => k_asm); (case zqk2 => k_asm); (case zqk3 => k_upd); (case zqz => first | (simp only [List.size_toArray, sizeLine_eq, List.length_append, List.length_singleton]; omega) | (simp only [List.size_toArray, sizeLine_eq, List.length_append, List.length_singleton]; refine Nat.le_trans (Nat.add_le_add_right (kpick_len _ _ _) _) ?_; omega)); k_whole); intro h' F' N'; (try simp only [List.push_toArray] at N'); (try k_sweep))
  k_with "call builtin:list.reverse" => (k_here; k_dflt (refine' kl_reverse ?zqF ?zqN ?zqe ?zqU ?zqz ?_; (case zqF => k_asm); (case zqN => k_asm); (case zqU => k_upd); (case zqe => exact (rfl : _ = List.reverse _)); (case zqz => (show List.length _ ≤ _; rw [IntsAre.length (by assumption)]; simp only [sizeLine_eq]; omega)); k_whole); intro h' F' N')
  k_with "below" => ((try simp only [List.cons_append, List.nil_append, AllLt, and_true]); first | assumption | exact allLt_iff.mpr (by assumption) | exact And.right (by assumption) | exact And.right (And.right (by assumption)) | exact And.right (And.right (And.right (by assumption))) | exact And.right (And.right (And.right (And.right (by assumption)))))
  k_with "exec For Name Name cons nil" => (k_here; k_dflt (refine For_invVF (by k_asm) (by rfl) (by rfl) ?_))
  k_with "exec For Name Name" => (k_here; k_dflt (refine For_invVF (by k_asm) (by rfl) (by rfl) ?_))
  k_with "exec For Name Call cons nil" => (k_here; k_dflt (refine For_invVF (by k_asm) (by rfl) (by rfl) ?_))
  k_with "exec For Name Call" => (k_here; k_dflt (refine For_invVF (by k_asm) (by rfl) (by rfl) ?_))
  k_with "exec For Name Attribute cons nil" => (k_here; k_dflt (refine For_invVF (by k_asm) (by rfl) (by rfl) ?_))
  k_with "exec For Name Attribute" => (k_here; k_dflt (refine For_invVF (by k_asm) (by rfl) (by rfl) ?_))
  k_with "exec For Name Subscript cons nil" => (k_here; k_dflt (refine For_invVF (by k_asm) (by rfl) (by rfl) ?_))
  k_with "exec For Name Subscript" => (k_here; k_dflt (refine For_invVF (by k_asm) (by rfl) (by rfl) ?_))
  k_with "exec For Name List cons nil" => (k_here; k_dflt (refine For_invVF (by k_asm) (by rfl) (by rfl) ?_))
  k_with "exec For Name List" => (k_here; k_dflt (refine For_invVF (by k_asm) (by rfl) (by rfl) ?_))
  k_with "call builtin:len" => (k_here; k_dflt (first | (refine P.len_str (by omega) ?_) | (refine len_led (by k_asm) (by k_mem) (by omega) ?_)))
  k_with "call builtin:str.rjust" => (k_here; k_dflt (refine SC.rjust (padOk_of (by omega) (by omega)) ?_); intro _ _)
  k_with "call builtin:str.ljust" => (k_here; k_dflt (refine SC.ljust (padOk_of (by omega) (by omega)) ?_); intro _ _)
  k_with "srcat" => exact Or.inr ⟨_, by k_mem, rfl, _, rfl⟩
  k_with "FinE" => ((unfold LCg.FinE); intro D' h' tk' F' N' o1'; (replace o1' := offD_of o1'); (try simp only [OffD, and_true] at o1'); (repeat (obtain ⟨o2', o1'⟩ := o1')); (try simp only [List.nil_append, List.cons_append] at N'); (try dsimp only))
  k_with "fresh" => ((simp only [FreshOver, OffD, List.nil_append, List.cons_append, and_true]); (repeat' (refine And.intro ?_ ?_)); all_goals first | assumption | exact Dist.symm (by assumption) | exact lt_off (by assumption) | exact allLt_off (by assumption) | exact allLt_off (And.right (by assumption)) | exact allLt_off (And.right (And.right (by assumption))) | exact allLt_off (And.right (And.right (And.right (by assumption)))) | exact Dist.of (by omega))
  k_with "subscriptTail" => (k_here; (with_reducible show wpAny _ _ (subscriptTail _ _ (Value.ref _) (Value.int _ _)) _ _ _); k_dflt (refine item_led (by k_asm) (by k_mem) (by omega) (by omega) (by assumption) ?_))
  k_with "binaryOp Add str str" => (k_here; (with_reducible show wpAny _ _ (binaryOp Operator.Add (Value.str _ _) (Value.str _ _)) _ _ _); (refine PyProof.Rows.add_str (hsz := ?zqhz9) ?_); (case zqhz9 => first | (simp only [Str.length_append, sizeLine_eq]; omega) | walk_at "addlen"); intro _ _)
  k_with "subscriptTail Name Name ref int" => (k_here; k_dflt (refine item_led (by k_asm) (by k_mem) (by omega) (by omega) (by assumption) ?_))
  k_with "call builtin:max" => (k_here; k_dflt (refine max_ints rfl (by k_asm) (by k_asm) ?_); intro h' tk' t' F' N'; (try k_sweep))
  k_with "call type:range" => (k_here; (with_reducible show wpAny _ _ (call _ [_, _, _]) _ _ _); k_dflt (refine range3_rows (by k_asm) (by k_asm) (by omega) ?_ (Or.inl (PyProof.noPylong_small (by omega)))); intro h' tk' t₁ u₁ v₁ r' F' N' k')
  k_with "FinA" => ((unfold LCg.FinA); intro D' h' tk' F' N' o1'; (replace o1' := offD_of o1'); (try simp only [OffD, and_true] at o1'); (repeat (obtain ⟨o2', o1'⟩ := o1')); (try simp only [List.nil_append, List.cons_append] at N'); (try dsimp only))
  k_with "exec Assign cons ListComp" => (k_here; k_dflt (refine LCg.Assign_ListComp_U (F₀ := by k_asm) (by rfl) (by with_unfolding_all rfl) (by with_unfolding_all rfl) (by decide) (by rfl) (by decide) (by rfl) (by rfl) (by rfl) ?_))
  k_with "ite" => (refine ite_strs ?_)
  k_with "units_room" => (((try simp only [units_under_make, units_in1, units_deeper, Around.mark_units, units_caller]); (try dsimp only [ktrTop]); (try simp only [units_under_make, units_in1, units_deeper, Around.mark_units, units_caller]); omega))
  k_with "k_room" => (((try simp only [depth_under_make, depth_under_kw, depth_in1, depth_deeper, depth_caller]); (try dsimp only [ktrTop]); omega))
  k_with "k_units" => (units_room)
  k_with "k_all" => (first | assumption | exact off1_ne (by assumption) | exact off1_ne (off3_I (by assumption)) | exact off1_ne (off3_C (by assumption)) | exact off1_ne (off3_D (by assumption)) | exact lt_ne (by assumption) | exact allLt_ne (by assumption) | exact allLt_ne (And.right (by assumption)) | exact allLt_ne (And.right (And.right (by assumption))) | exact allLt_ne (And.right (And.right (And.right (by assumption)))))
  k_with "k_ne" => (first | exact Dist.ne (by assumption) | exact Dist.ne (Dist.symm (by assumption)))
  k_with "led" => ((try dsimp only [vecL, vecD, ent]); (try simp only [List.cons_append, List.nil_append, List.append_nil]); kcf_all)
  k_with "fresh" => first | exact freshL (by assumption) | exact freshL (offD_tail (by assumption)) | exact freshL (offD_sub (by assumption) (by walk_at "led")) | exact freshL (allLt_off (allLt_sub (by assumption) (by walk_at "led")))
  k_with "backL" => (k_whole; intro D' ys' k' h' tk' hys' hof' F' N'; (try dsimp only))
  k_with "backT" => (k_whole; intro t' h' tk' F' N'; (try dsimp only))
  k_with "backV" => (k_whole; intro h' tk' F' N'; (try dsimp only))
  k_with "offD" => first | assumption | exact offD_sub (by assumption) (by walk_at "led") | exact allLt_off (allLt_sub (by assumption) (by walk_at "led"))
  k_with "k_lt" => skip
  k_with "k_all" => (first | exact allLt_ne (by assumption) | exact off1_ne (by assumption) | exact lt_ne (by assumption) | assumption | exact off1_ne (offD_tail (by assumption)) | exact off1_ne (offD_tail (offD_tail (by assumption))))
  k_with "k_ne" => (first | exact Dist.ne (by assumption) | exact Dist.ne (Dist.symm (by assumption)) | exact ne_lt (by assumption) | exact ne_gt (by assumption) | exact ne_gt (And.left (by assumption)) | exact ne_lt (And.left (by assumption)) | exact Dist.ne (And.left (by assumption)) | exact Dist.ne (Dist.symm (And.left (by assumption))) | exact ne_gt (And.left (And.right (by assumption))) | exact ne_lt (And.left (And.right (by assumption))) | (refine neN ?_; (try dsimp only); omega))
  k_with "newList" => (k_here; k_dflt (refine' newList_K ?zqk1 ?zqk2 ?_; (case zqk1 => k_asm); (case zqk2 => k_asm); k_whole); intro r9 h' F' N' l1; (try (replace l1 := allLt_of l1)); (try k_sweep))
  k_with "subscriptTail Name Slice ref ref" => (k_here; k_dflt (refine' kms_slice_lit ?zqF ?zqN ?zql ?zqp ?zqq ?zqe ?_ ?zqs ?zqt ?zqz; (case zqF => k_asm); (case zqN => k_asm); (case zql => exact News.isList (by k_asm) (by k_mem)); (case zqp => kmk_part); (case zqq => kmk_part); (case zqe => exact (rfl : kms_pick (List.toArray _).toList _ _ = kms_pick _ _ _)); (case zqs => with_unfolding_all rfl); (case zqt => kmk_pure); (case zqz => (simp only [List.size_toArray, sizeLine_eq]; omega))); intro d9 h' F' N' l1; (try (replace l1 := allLt_of l1)); (try k_sweep))
  k_with "FinE" => ((unfold LCg.FinE); intro y9 h' tk' F' N' o1'; (replace o1' := offD_of o1'); (try simp only [List.nil_append, List.cons_append] at N'); (try dsimp only))
  k_with "getItem ref int" => (k_here; (with_reducible show wpAny _ _ (getItem (Value.ref _) (Value.int _ _)) _ _ _); k_dflt (refine last_get (by k_asm) (by k_mem) ?_))
  k_with "setItem ref int str" => (k_here; k_dflt (refine' last_set ?zqk1 ?zqk2 ?zqk3 ?_; (case zqk1 => k_asm); (case zqk2 => k_asm); (case zqk3 => k_upd); k_whole); intro h' F' N'; (try k_sweep))
  k_with "setItem ref int" => (k_here; k_dflt (refine' last_set ?zqk1 ?zqk2 ?zqk3 ?_; (case zqk1 => k_asm); (case zqk2 => k_asm); (case zqk3 => k_upd); k_whole); intro h' F' N'; (try k_sweep))
  trivial
theorem wid_ge {xs : List Str} : ∀ y ∈ xs, y.length ≤ wid xs := by
  have key : ∀ (xs : List Str) (a : Nat), a ≤ xs.foldl (fun a y => max a y.length) a ∧ ∀ y ∈ xs, y.length ≤ xs.foldl (fun a y => max a y.length) a := by
    intro xs
    induction xs with
    | nil => intro a; exact ⟨Nat.le_refl _, fun y hy => by cases hy⟩
    | cons z r ih =>
      intro a
      obtain ⟨h1, h2⟩ := ih (max a z.length)
      refine ⟨Nat.le_trans (Nat.le_max_left _ _) h1, fun y hy => ?_⟩
      rcases List.mem_cons.mp hy with rfl | hy
      · exact Nat.le_trans (Nat.le_max_right _ _) h1
      · exact h2 y hy
  exact (key xs 0).2
theorem wid_max {xs : List Str} {M : Int} (h1 : M ∈ xs.map fun y => (y.length : Int)) (h2 : ∀ a, a ∈ (xs.map fun y => (y.length : Int)) → a ≤ M) : M = (wid xs : Int) := by
  obtain ⟨y, hy, rfl⟩ := List.mem_map.mp h1
  have h3 := wid_ge y hy
  have h4 : wid xs ≤ y.length := wid_le fun z hz => by
    have := h2 _ (List.mem_map_of_mem hz)
    omega
  omega
noncomputable def lpStart (n : Nat) (st : Nat) : Str := Txt.mul (Str.ofString " ") ((Str.length (Str.ofString (toString (n : Int))) : Int) + 2 - ((Str.length (Str.ofString "[") + Str.length (Str.ofString (toString ((st : Int) + 1))) + Str.length (Str.ofString "]") : Nat) : Int)) ++ (Str.ofString "[" ++ Str.ofString (toString ((st : Int) + 1)) ++ Str.ofString "]")
noncomputable def lpStep (wide : Nat) (cur y : Str) : Str := cur ++ (Str.ofString " " ++ y ++ Txt.mul (Str.ofString " ") ((wide : Int) - (y.length : Int)))
noncomputable def lpRow (xs : List Str) (n : Nat) (PI : Int) (st : Nat) : Str := (pickS xs (st : Int) ((st : Int) + PI)).foldl (lpStep (wid xs)) (lpStart n st)
noncomputable def lpTo (xs : List Str) (n : Nat) (PI : Int) (k : Nat) : List Str := (List.range k).map fun i => lpRow xs n PI (i * PI.toNat)
theorem lpTo_succ (xs : List Str) (n : Nat) (PI : Int) (k : Nat) : lpTo xs n PI (k + 1) = lpTo xs n PI k ++ [lpRow xs n PI (k * PI.toNat)] := by
  simp [lpTo, List.range_succ]
noncomputable def lawPer (xs : List Str) (n : Nat) (P : Int) : Int := max 1 (Int.fdiv (P - ((Str.length (Str.ofString (toString (n : Int))) : Int) + 2)) ((wid xs : Int) + 1))
noncomputable def lawPlain (xs : List Str) (P : Int) : List Str := lpTo xs xs.length (lawPer xs xs.length P) (turns xs.length (lawPer xs xs.length P).toNat)
theorem foldl_take {σ τ : Type} (f : σ → τ → σ) (a : σ) {l : List τ} {j : Nat} {y : τ} (h : l[j]? = some y) : (l.take (j + 1)).foldl f a = f ((l.take j).foldl f a) y := by
  rw [List.take_add_one, h, List.foldl_append]; rfl
set_option maxRecDepth 100000 in
set_option maxHeartbeats 2000000 in
theorem lawplain_calls (w : World) {l : Addr} {vs : List Value} {xs : List Str} {n : Nat} {P : Int} {tP : Tok} (hx : StrsAre vs xs) (h0 : 16 ≤ P) (h9 : P ≤ 100) (hn : xs.length ≤ 12) (hn1 : 1 ≤ xs.length) (hs : Short 100 xs) :
    Calls w 327 [.ref l, .int P tP] 2 100 [(l, listOf vs.toArray n)] [] (fun v new pre' => ∃ D ys k, v = .ref D ∧ new = [(D, listOf ys.toArray k)] ∧ pre' = [(l, listOf vs.toArray n)] ∧ StrsAre ys (lawPlain xs P) ∧ ys.length ≤ 30) := by
  unfold Calls
  intro dp un gd cn cs a ccd cl outer A₀ base h₀ L m s loose mean mg mb news Q E B F X N T hk hd hu hm ret
  cases cs; cases hk
  simp only [List.nil_append, List.cons_append] at N
  have hvl := hx.len_eq
  refine wpAny_call ?_
  k_dflt k_enter
  k_steps
  unfold Stop
  refine LCg.CompSrc.ledger rfl (by k_asm) (by k_asm) (by k_mem) (size_ok (by simp; omega)) ?_
  intro g
  refine comp_inv (fun _ : Unit => _) (fun i ys _ => IntsAre ys ((xs.take i).map fun y => (y.length : Int))) () .nil ?_ ?_
  · rintro i ys _ v I oI C oC D m₂ h tk E' hin hys hP hoC hx' F₁ N₁ hoff hne
    have hv : vs[i]? = some v := by simpa using hP
    obtain ⟨y, ty, rfl, hy⟩ := hx.item i v hv
    have hsy := hs y (List.mem_of_getElem? hy)
    k_steps
    refine compEnd_eq (c := ()) (by rw [List.take_add_one, hy, List.map_append]; exact IntsAre.append hys (.cons _ _ .nil)) (by assumption) (by k_asm) (by walk_at "led") hoff (by walk_at "srcat")
  · rintro ys _ hys
    have e9 : xs.take vs.toArray.size = xs := List.take_of_length_le (by simp; omega)
    simp only [e9] at hys
    have hyl := hys.length
    k_steps
    rename _ ∈ List.map _ xs => hM1
    rename ∀ a, a ∈ List.map _ xs → a ≤ _ => hM2
    have hM := wid_max hM1 hM2
    clear hM1 hM2
    subst hM
    have hwl := wid_le hs
    have hlab := strI_short xs.length (by omega)
    rw [strI, ← hvl] at hlab
    have hfd := fdiv_bound (P := P - ((Str.length (Str.ofString (toString (vs.length : Int))) : Int) + 2)) (d := (wid xs : Int) + 1) (by omega) (by omega)
    k_steps
    unfold Stop
    generalize hPI : max 1 (Int.fdiv (P - ((Str.length (Str.ofString (toString (vs.length : Int))) : Int) + 2)) ((wid xs : Int) + 1)) = PI at *
    have hP1 : 1 ≤ PI := by omega
    have hP2 : PI ≤ 100 := by omega
    refine for_rangeS (n := vs.length) (per := PI.toNat) (fun c : List Value × Nat => [(r9, listOf c.1.toArray c.2)]) _ [Str.ofString "mark", Str.ofString "word"] (fun _ => []) (fun i c => StrsAre c.1 (lpTo xs vs.length PI i) ∧ c.1.length ≤ i) ([], 0)
      (by k_asm) (by k_asm) (by assumption) rfl (by omega) (by omega) (by omega) (by omega) (fun p hp => hp) (fun _ => rfl) (by walk_at "held") rfl ⟨.nil, Nat.le_refl _⟩ ?_ ?_
    · rintro i t ⟨us, k9⟩ u I oI h tk hi9 ⟨hus, hul⟩ hlt F₁ N₁
      simp only [List.cons_append, List.nil_append] at N₁ hlt
      dsimp only at hus hul ⊢
      have htl := turns_le (n := vs.length) (per := PI.toNat) (by omega)
      have l2 := len_lb; have l3 := len_rb
      have hst2 := turns_lt (by omega) hi9
      generalize hst : i * PI.toNat = st at *
      have hlb := strI_short (st + 1) (by omega)
      rw [strI, Int.natCast_add] at hlb
      replace hlb : Str.length (Str.ofString (toString ((st : Int) + 1))) ≤ 2 := hlb
      k_steps
      unfold Stop
      have hp9 := pick_strs hx (some (st : Int)) (some ((st : Int) + PI))
      have hp8 := hp9.len_eq
      have hp7 : ((xs.drop (kms_lo (some (st : Int)) xs.length)).take (kms_hi (some ((st : Int) + PI)) xs.length - kms_lo (some (st : Int)) xs.length)).length ≤ xs.length := pick_len
      refine for_list (fun c : Str × Tok × Nat => [(r9, listOf (us ++ [Value.str c.1 c.2.1]).toArray c.2.2)]) ((d9, listOf (kms_pick vs.toArray.toList (some (st : Int)) (some ((st : Int) + PI))).toArray 0) :: (I, oI) :: (y9, LCg.lst ys) :: (l, listOf vs.toArray n) :: news) [] (fun _ => []) (fun j c => c.1 = ((pickS xs (st : Int) ((st : Int) + PI)).take j).foldl (lpStep (wid xs)) (lpStart vs.length st) ∧ c.1.length ≤ 900 + 300 * j) (_, _, _)
        (by k_asm) (by k_asm) (by k_mem) (by walk_at "led") (fun _ => rfl) (by walk_at "held") rfl ?_ ?_ ?_
      · refine ⟨rfl, ?_⟩
        simp only [Str.length_append]
        omega
      · rintro j v ⟨cur, tc, k8⟩ u I2 oI2 h tk hj hv ⟨hce, hcl⟩ hlt2 F₁ N₁
        simp only [List.cons_append, List.nil_append] at N₁ hlt2
        dsimp only at hce hcl ⊢
        obtain ⟨y, ty, rfl, hy⟩ := hp9.item j v hv
        have hsy := hs y (List.mem_of_mem_drop (List.mem_of_mem_take (List.mem_of_getElem? hy)))
        have l1' := len_sp
        k_steps
        exact TEnd.next (c' := (_, _, _)) (by k_asm) (by k_asm) (by walk_at "led") (by walk_at "held") (by walk_at "kept") ⟨((foldl_take (lpStep (wid xs)) (lpStart vs.length st) (l := pickS xs (st : Int) ((st : Int) + PI)) hy).trans (by rw [← hce]; rfl)).symm, by
          simp only [Str.length_append]
          omega⟩
      · rintro ⟨cur, tc, k8⟩ u v h tk ⟨hce, hcl⟩ F₁ N₁
        simp only [List.cons_append, List.nil_append] at N₁
        dsimp only at hce hcl ⊢
        rw [List.take_of_length_le (l := pickS xs (st : Int) ((st : Int) + PI)) (by show _ ≤ (kms_pick vs (some (st : Int)) (some ((st : Int) + PI))).length; exact Nat.le_of_eq hp8.symm)] at hce
        k_steps
        exact TEnd.next (c' := (_, _)) (by k_asm) (by k_asm) (by walk_at "led") (by walk_at "held") (by walk_at "kept") ⟨by rw [lpTo_succ, hst, lpRow, ← hce]; exact strsAre_snoc hus, by simp only [List.length_append, List.length_cons, List.length_nil]; omega⟩
    · rintro ⟨us, k9⟩ u v h tk ⟨hus, hul⟩ F₁ N₁
      simp only [List.cons_append, List.nil_append] at N₁
      dsimp only at hus hul ⊢
      k_steps
      refine closeL ret (by k_asm) (by k_asm) (by walk_at "led") (by walk_at "offD") ⟨?_, ?_⟩
      · rw [lawPlain, lawPer, ← hvl, hPI]; exact hus
      · have := turns_le (n := vs.length) (per := PI.toNat) (by omega)
        omega
theorem words_B25 : True := by
  k_with_none
  k_with "call builtin:list.pop" => (k_here; k_dflt (refine' kl_pop ?zqF ?zqN (kl_last_snoc _ _) ?zqU ?zqZ ?_; (case zqF => k_asm); (case zqN => k_asm); (case zqU => k_upd); (case zqZ => (simp only [sizeLine_eq]; simp only [List.length_append, List.length_singleton]; lia)); k_whole; intro h' F' N'))
  k_with "CompSrc" => (refine Stop.mk ?_)
  k_with "eval ListComp" => (k_here; k_dflt (refine LCg.ListComp_U (F₀ := by k_asm) (by with_unfolding_all rfl) (by decide) (by rfl) (by decide) (by rfl) ?_))
  k_with "sel" => first | exact Sel.nil | (refine' Sel.cons ?zqsl1 ?zqsl2; (case zqsl1 => walk_at "rem"); (case zqsl2 => walk_at "sel"))
  k_with "rem" => first | exact Rem.head | (refine' Rem.tail ?zqrm1; (case zqrm1 => walk_at "rem"))
  k_with "apart" => first | exact List.forall_mem_nil _ | (refine List.forall_mem_cons.mpr ⟨by k_all, ?_⟩; walk_at "apart")
  k_with "CompEnd" => (refine Stop.mk ?_)
  k_with "call builtin:str.join" => (k_here; k_dflt (refine join_led (by k_asm) (by k_mem) (by first | assumption | walk_at "strs") (by first | assumption | decide +kernel) (by first | assumption | walk_at "joinsum") ?_); intro _ _)
  k_with "led" => ((try dsimp only); (try simp only [List.cons_append, List.nil_append]); kcf_all)
  k_with "pyIter ref" => (k_here; refine Stop.mk ?_)
  k_with "exec For" => (k_here; k_dflt (refine For_invVF (by k_asm) (by rfl) (by rfl) ?_))
  k_with "kept" => (intro z9 h91 h92 h93; (try simp only [List.contains_cons, List.contains_nil, Bool.or_false, Bool.or_eq_false_iff, beq_eq_false_iff_ne, ne_eq] at h93); simp [lmap, kstB, h91, h93])
  k_with "held" => first | exact List.forall_mem_nil _ | (refine List.forall_mem_cons.mpr ⟨rfl, ?_⟩; walk_at "held")
  k_with "call builtin:list.append" => (k_here; k_dflt (refine' append_K ?zqk1 ?zqk2 ?zqk3 ?_ ?zqz; (case zqk1 => k_asm); (case zqk2 => k_asm); (case zqk3 => k_upd); (case zqz => first | (simp only [List.size_toArray, sizeLine_eq, List.length_append, List.length_singleton]; lia) | (simp only [List.size_toArray, sizeLine_eq, List.length_append, List.length_singleton]; refine Nat.le_trans (Nat.add_le_add_right (kpick_len _ _ _) _) ?_; lia)); k_whole); intro h' F' N'; (try simp only [List.push_toArray] at N'); (try k_sweep))
  k_with "call builtin:list.reverse" => (k_here; k_dflt (refine' kl_reverse ?zqF ?zqN ?zqe ?zqU ?zqz ?_; (case zqF => k_asm); (case zqN => k_asm); (case zqU => k_upd); (case zqe => exact (rfl : _ = List.reverse _)); (case zqz => (show List.length _ ≤ _; rw [IntsAre.length (by assumption)]; simp only [sizeLine_eq]; lia)); k_whole); intro h' F' N')
  k_with "below" => ((try simp only [List.cons_append, List.nil_append, AllLt, and_true]); first | assumption | exact allLt_iff.mpr (by assumption) | exact And.right (by assumption) | exact And.right (And.right (by assumption)) | exact And.right (And.right (And.right (by assumption))) | exact And.right (And.right (And.right (And.right (by assumption)))))
  k_with "exec For Name Name cons nil" => (k_here; k_dflt (refine For_invVF (by k_asm) (by rfl) (by rfl) ?_))
  k_with "exec For Name Name" => (k_here; k_dflt (refine For_invVF (by k_asm) (by rfl) (by rfl) ?_))
  k_with "exec For Name Call cons nil" => (k_here; k_dflt (refine For_invVF (by k_asm) (by rfl) (by rfl) ?_))
  k_with "exec For Name Call" => (k_here; k_dflt (refine For_invVF (by k_asm) (by rfl) (by rfl) ?_))
  k_with "exec For Name Attribute cons nil" => (k_here; k_dflt (refine For_invVF (by k_asm) (by rfl) (by rfl) ?_))
  k_with "exec For Name Attribute" => (k_here; k_dflt (refine For_invVF (by k_asm) (by rfl) (by rfl) ?_))
  k_with "exec For Name Subscript cons nil" => (k_here; k_dflt (refine For_invVF (by k_asm) (by rfl) (by rfl) ?_))
  k_with "exec For Name Subscript" => (k_here; k_dflt (refine For_invVF (by k_asm) (by rfl) (by rfl) ?_))
  k_with "exec For Name List cons nil" => (k_here; k_dflt (refine For_invVF (by k_asm) (by rfl) (by rfl) ?_))
  k_with "exec For Name List" => (k_here; k_dflt (refine For_invVF (by k_asm) (by rfl) (by rfl) ?_))
  k_with "call builtin:len" => (k_here; k_dflt (first | (refine P.len_str (by lia) ?_) | (refine len_led (by k_asm) (by k_mem) (by lia) ?_)))
  k_with "call builtin:str.rjust" => (k_here; k_dflt (refine SC.rjust (padOk_of (by lia) (by lia)) ?_); intro _ _)
  k_with "call builtin:str.ljust" => (k_here; k_dflt (refine SC.ljust (padOk_of (by lia) (by lia)) ?_); intro _ _)
  k_with "srcat" => exact Or.inr ⟨_, by k_mem, rfl, _, rfl⟩
  k_with "FinE" => ((unfold LCg.FinE); intro D' h' tk' F' N' o1'; (replace o1' := offD_of o1'); (try simp only [OffD, and_true] at o1'); (repeat (obtain ⟨o2', o1'⟩ := o1')); (try simp only [List.nil_append, List.cons_append] at N'); (try dsimp only))
  k_with "fresh" => ((simp only [FreshOver, OffD, List.nil_append, List.cons_append, and_true]); (repeat' (refine And.intro ?_ ?_)); all_goals first | assumption | exact Dist.symm (by assumption) | exact lt_off (by assumption) | exact allLt_off (by assumption) | exact allLt_off (And.right (by assumption)) | exact allLt_off (And.right (And.right (by assumption))) | exact allLt_off (And.right (And.right (And.right (by assumption)))) | exact Dist.of (by lia))
  k_with "subscriptTail" => (k_here; (with_reducible show wpAny _ _ (subscriptTail _ _ (Value.ref _) (Value.int _ _)) _ _ _); k_dflt (refine item_led (by k_asm) (by k_mem) (by lia) (by lia) (by assumption) ?_))
  k_with "binaryOp Add str str" => (k_here; (with_reducible show wpAny _ _ (binaryOp Operator.Add (Value.str _ _) (Value.str _ _)) _ _ _); (refine PyProof.Rows.add_str (hsz := ?zqhz9) ?_); (case zqhz9 => first | (simp only [Str.length_append, sizeLine_eq]; lia) | walk_at "addlen"); intro _ _)
  k_with "subscriptTail Name Name ref int" => (k_here; k_dflt (refine item_led (by k_asm) (by k_mem) (by lia) (by lia) (by assumption) ?_))
  k_with "call builtin:max" => (k_here; k_dflt (refine max_ints rfl (by k_asm) (by k_asm) ?_); intro h' tk' t' F' N'; (try k_sweep))
  k_with "call type:range" => (k_here; (with_reducible show wpAny _ _ (call _ [_, _, _]) _ _ _); k_dflt (refine range3_rows (by k_asm) (by k_asm) (by lia) ?_ (Or.inl (PyProof.noPylong_small (by lia)))); intro h' tk' t₁ u₁ v₁ r' F' N' k')
  k_with "FinA" => ((unfold LCg.FinA); intro D' h' tk' F' N' o1'; (replace o1' := offD_of o1'); (try simp only [OffD, and_true] at o1'); (repeat (obtain ⟨o2', o1'⟩ := o1')); (try simp only [List.nil_append, List.cons_append] at N'); (try dsimp only))
  k_with "exec Assign cons ListComp" => (k_here; k_dflt (refine LCg.Assign_ListComp_U (F₀ := by k_asm) (by rfl) (by with_unfolding_all rfl) (by with_unfolding_all rfl) (by decide) (by rfl) (by decide) (by rfl) (by rfl) (by rfl) ?_))
  k_with "ite" => (refine ite_strs ?_)
  k_with "units_room" => (((try simp only [units_under_make, units_in1, units_deeper, Around.mark_units, units_caller]); (try dsimp only [ktrTop]); (try simp only [units_under_make, units_in1, units_deeper, Around.mark_units, units_caller]); lia))
  k_with "k_room" => (((try simp only [depth_under_make, depth_under_kw, depth_in1, depth_deeper, depth_caller]); (try dsimp only [ktrTop]); lia))
  k_with "k_units" => (units_room)
  k_with "k_all" => (first | assumption | exact off1_ne (by assumption) | exact off1_ne (off3_I (by assumption)) | exact off1_ne (off3_C (by assumption)) | exact off1_ne (off3_D (by assumption)) | exact lt_ne (by assumption) | exact allLt_ne (by assumption) | exact allLt_ne (And.right (by assumption)) | exact allLt_ne (And.right (And.right (by assumption))) | exact allLt_ne (And.right (And.right (And.right (by assumption)))))
  k_with "k_ne" => (first | exact Dist.ne (by assumption) | exact Dist.ne (Dist.symm (by assumption)))
  k_with "binaryOp Add ref ref" => (k_here; k_dflt (refine add_led (by k_asm) (by k_asm) (by k_mem) (by k_mem) (by first | (simp only [sizeLine_eq]; lia) | (simp only [sizeLine_eq]; refine Nat.le_trans (Nat.add_le_add_right (kpick_len _ _ _) _) ?_; (try simp only [List.length_cons, List.length_nil]); lia)) ?_); intro D' h' F' N' l1; (try (replace l1 := allLt_of l1)); (try k_sweep))
  k_with "led" => ((try dsimp only [vecL, vecD, ent]); (try simp only [List.cons_append, List.nil_append, List.append_nil]); kcf_all)
  k_with "fresh" => first | exact freshL (by assumption) | exact freshL (offD_tail (by assumption)) | exact freshL (offD_sub (by assumption) (by walk_at "led")) | exact freshL (allLt_off (allLt_sub (by assumption) (by walk_at "led")))
  k_with "backL" => (k_whole; intro D' ys' k' h' tk' hys' hof' F' N'; (try dsimp only))
  k_with "backT" => (k_whole; intro t' h' tk' F' N'; (try dsimp only))
  k_with "backV" => (k_whole; intro h' tk' F' N'; (try dsimp only))
  k_with "offD" => first | assumption | exact offD_sub (by assumption) (by walk_at "led") | exact allLt_off (allLt_sub (by assumption) (by walk_at "led"))
  k_with "k_lt" => skip
  k_with "k_all" => (first | exact allLt_ne (by assumption) | exact off1_ne (by assumption) | exact lt_ne (by assumption) | assumption | exact off1_ne (offD_tail (by assumption)) | exact off1_ne (offD_tail (offD_tail (by assumption))))
  k_with "k_ne" => (first | exact Dist.ne (by assumption) | exact Dist.ne (Dist.symm (by assumption)) | exact ne_lt (by assumption) | exact ne_gt (by assumption) | exact ne_gt (And.left (by assumption)) | exact ne_lt (And.left (by assumption)) | exact Dist.ne (And.left (by assumption)) | exact Dist.ne (Dist.symm (And.left (by assumption))) | exact ne_gt (And.left (And.right (by assumption))) | exact ne_lt (And.left (And.right (by assumption))) | (refine neN ?_; (try dsimp only); lia))
  k_with "newList" => (k_here; k_dflt (refine' newList_K ?zqk1 ?zqk2 ?_; (case zqk1 => k_asm); (case zqk2 => k_asm); k_whole); intro r9 h' F' N' l1; (try (replace l1 := allLt_of l1)); (try k_sweep))
  k_with "subscriptTail Name Slice ref ref" => (k_here; k_dflt (refine' kms_slice_lit ?zqF ?zqN ?zql ?zqp ?zqq ?zqe ?_ ?zqs ?zqt ?zqz; (case zqF => k_asm); (case zqN => k_asm); (case zql => exact News.isList (by k_asm) (by k_mem)); (case zqp => kmk_part); (case zqq => kmk_part); (case zqe => exact (rfl : kms_pick (List.toArray _).toList _ _ = kms_pick _ _ _)); (case zqs => with_unfolding_all rfl); (case zqt => kmk_pure); (case zqz => (simp only [List.size_toArray, sizeLine_eq]; lia))); intro d9 h' F' N' l1; (try (replace l1 := allLt_of l1)); (try k_sweep))
  k_with "FinE" => ((unfold LCg.FinE); intro y9 h' tk' F' N' o1'; (replace o1' := offD_of o1'); (try simp only [List.nil_append, List.cons_append] at N'); (try dsimp only))
  k_with "getItem ref int" => (k_here; (with_reducible show wpAny _ _ (getItem (Value.ref _) (Value.int _ _)) _ _ _); k_dflt (refine last_get (by k_asm) (by k_mem) ?_))
  k_with "setItem ref int str" => (k_here; k_dflt (refine' last_set ?zqk1 ?zqk2 ?zqk3 ?_; (case zqk1 => k_asm); (case zqk2 => k_asm); (case zqk3 => k_upd); k_whole); intro h' F' N'; (try k_sweep))
  k_with "setItem ref int" => (k_here; k_dflt (refine' last_set ?zqk1 ?zqk2 ?zqk3 ?_; (case zqk1 => k_asm); (case zqk2 => k_asm); (case zqk3 => k_upd); k_whole); intro h' F' N'; (try k_sweep))
  trivial
noncomputable def lnStep (wide : Nat) (cur y : Str) : Str := cur ++ (Txt.mul (Str.ofString " ") ((wide : Int) - (y.length : Int)) ++ y ++ Str.ofString " ")
noncomputable def lnRow (xs : List Str) (wide : Nat) (PI : Int) (st : Nat) : Str := (pickS xs (st : Int) ((st : Int) + PI)).foldl (lnStep wide) (Str.ofString "")
noncomputable def lnTo (xs ns : List Str) (wide : Nat) (PI : Int) (k : Nat) : List Str := (List.range k).flatMap fun i => [lnRow ns wide PI (i * PI.toNat), lnRow xs wide PI (i * PI.toNat)]
theorem lnTo_succ (xs ns : List Str) (wide : Nat) (PI : Int) (k : Nat) : lnTo xs ns wide PI (k + 1) = lnTo xs ns wide PI k ++ [lnRow ns wide PI (k * PI.toNat), lnRow xs wide PI (k * PI.toNat)] := by
  simp [lnTo, List.range_succ]
noncomputable def lnPer (xs ns : List Str) (P : Int) : Int := max 1 (Int.fdiv P ((wid (xs ++ ns) : Int) + 1))
noncomputable def lawNamed (xs ns : List Str) (P : Int) : List Str := lnTo xs ns (wid (xs ++ ns)) (lnPer xs ns P) (turns xs.length (lnPer xs ns P).toNat)
set_option maxRecDepth 100000 in
set_option maxHeartbeats 4000000 in
theorem lawnamed_calls (w : World) {l l2 : Addr} {vs vs2 : List Value} {xs ns : List Str} {n n2 : Nat} {P : Int} {tP : Tok} (hx : StrsAre vs xs) (hx2 : StrsAre vs2 ns) (h0 : 16 ≤ P) (h9 : P ≤ 100) (hn : xs.length ≤ 12) (hn1 : 1 ≤ xs.length) (hn2 : ns.length = xs.length) (hs : Short 100 xs) (hs2 : Short 100 ns) :
    Calls w 332 [.ref l, .ref l2, .int P tP] 2 100 [(l, listOf vs.toArray n), (l2, listOf vs2.toArray n2)] [] (fun v new pre' => ∃ D ys k, v = .ref D ∧ new = [(D, listOf ys.toArray k)] ∧ pre' = [(l, listOf vs.toArray n), (l2, listOf vs2.toArray n2)] ∧ StrsAre ys (lawNamed xs ns P) ∧ ys.length ≤ 30) := by
  unfold Calls
  intro dp un gd cn cs a ccd cl outer A₀ base h₀ L m s loose mean mg mb news Q E B F X N T hk hd hu hm ret
  cases cs; cases hk
  simp only [List.nil_append, List.cons_append] at N
  have hvl := hx.len_eq
  have hvl2 := hx2.len_eq
  have hcat := StrsAre.append' hx hx2
  have hcl := hcat.len_eq
  have hsc := short_app hs hs2
  refine wpAny_call ?_
  k_dflt k_enter
  k_steps
  unfold Stop
  refine LCg.CompSrc.ledger rfl (by k_asm) (by k_asm) (by k_mem) (size_ok (by simp; lia)) ?_
  intro g
  refine comp_inv (fun _ : Unit => _) (fun i ys _ => IntsAre ys (((xs ++ ns).take i).map fun y => (y.length : Int))) () .nil ?_ ?_
  · rintro i ys _ v I oI C oC D m₂ h tk E' hin hys hP hoC hx' F₁ N₁ hoff hne
    have hv : (vs ++ vs2)[i]? = some v := by simpa using hP
    obtain ⟨y, ty, rfl, hy⟩ := hcat.item i v hv
    have hsy := hsc y (List.mem_of_getElem? hy)
    k_steps
    refine compEnd_eq (c := ()) (by rw [List.take_add_one, hy, List.map_append]; exact IntsAre.append hys (.cons _ _ .nil)) (by assumption) (by k_asm) (by walk_at "led") hoff (by walk_at "srcat")
  · rintro ys _ hys
    have e9 : (xs ++ ns).take (vs ++ vs2).toArray.size = xs ++ ns := List.take_of_length_le (by simp; lia)
    simp only [e9] at hys
    have hyl := hys.length
    k_steps
    rename _ ∈ List.map _ _ => hM1
    rename ∀ a, a ∈ List.map _ _ → a ≤ _ => hM2
    have hM := wid_max hM1 hM2
    clear hM1 hM2
    subst hM
    have hwl := wid_le hsc
    have hfd := fdiv_bound (P := P) (d := (wid (xs ++ ns) : Int) + 1) (by lia) (by lia)
    k_steps
    unfold Stop
    obtain ⟨q9, hq9⟩ : ∃ q, q = r9 := ⟨_, rfl⟩
    subst hq9
    generalize hPI : max 1 (Int.fdiv P ((wid (xs ++ ns) : Int) + 1)) = PI at *
    have hP1 : 1 ≤ PI := by lia
    have hP2 : PI ≤ 100 := by lia
    have hq1 : AllLt q9 ((l, listOf vs.toArray n) :: (l2, listOf vs2.toArray n2) :: news) := allLt_sub (by assumption) (by walk_at "led")
    refine for_rangeS (n := vs.length) (per := PI.toNat) (fun c : List Value × Nat => [(q9, listOf c.1.toArray c.2)]) ((l, listOf vs.toArray n) :: (l2, listOf vs2.toArray n2) :: news) [Str.ofString "texts", Str.ofString "word"] (fun _ => []) (fun i c => StrsAre c.1 (lnTo xs ns (wid (xs ++ ns)) PI i) ∧ c.1.length ≤ 2 * i) ([], 0)
      (by k_asm) (by k_asm) (by assumption) rfl (by lia) (by lia) (by lia) (by lia) (by walk_at "led") (fun _ => rfl) (by walk_at "held") rfl ⟨.nil, Nat.le_refl _⟩ ?_ ?_
    · rintro i t ⟨us, k9⟩ u I oI h tk hi9 ⟨hus, hul⟩ hlt F₁ N₁
      simp only [List.cons_append, List.nil_append] at N₁ hlt
      dsimp only at hus hul ⊢
      have htl := turns_le (n := vs.length) (per := PI.toNat) (by lia)
      have hst2 := turns_lt (by lia) hi9
      generalize hst : i * PI.toNat = st at *
      k_steps
      unfold Stop
      refine for_list (fun c : List Value × Nat => [(q9, listOf c.1.toArray c.2)]) ((r9, listOf [Value.ref l2, Value.ref l].toArray 0) :: (I, oI) :: (l, listOf vs.toArray n) :: (l2, listOf vs2.toArray n2) :: news) [Str.ofString "word"] (fun _ => []) (fun j c => StrsAre c.1 (lnTo xs ns (wid (xs ++ ns)) PI i ++ [lnRow ns (wid (xs ++ ns)) PI st, lnRow xs (wid (xs ++ ns)) PI st].take j) ∧ c.1.length ≤ 2 * i + j) (_, _)
        (by k_asm) (by k_asm) (by k_mem) (by walk_at "led") (fun _ => rfl) (by walk_at "held") rfl ⟨by simpa using hus, hul⟩ ?_ ?_
      · rintro j v ⟨us2, k8⟩ u I2 oI2 h tk hj hv ⟨hus2, hul2⟩ hlt2 F₁ N₁
        simp only [List.cons_append, List.nil_append] at N₁ hlt2
        dsimp only at hus2 hul2 ⊢
        obtain ⟨rfl, rfl⟩ | ⟨rfl, rfl⟩ : (j = 0 ∧ v = Value.ref l2) ∨ (j = 1 ∧ v = Value.ref l) := by
          match j, hj, hv with
          | 0, _, hv => left; exact ⟨rfl, by simpa using hv.symm⟩
          | 1, _, hv => right; exact ⟨rfl, by simpa using hv.symm⟩
        · have hp9 := pick_strs hx2 (some (st : Int)) (some ((st : Int) + PI))
          have hp8 := hp9.len_eq
          have hp7 : ((ns.drop (kms_lo (some (st : Int)) ns.length)).take (kms_hi (some ((st : Int) + PI)) ns.length - kms_lo (some (st : Int)) ns.length)).length ≤ ns.length := pick_len
          have hle := len_e
          k_steps
          unfold Stop
          refine for_list (fun c : Str × Tok × Nat => [(q9, listOf (us2 ++ [Value.str c.1 c.2.1]).toArray c.2.2)]) ((d9, listOf (kms_pick vs2.toArray.toList (some (st : Int)) (some ((st : Int) + PI))).toArray 0) :: (I2, oI2) :: (r9, listOf [Value.ref l2, Value.ref l].toArray 0) :: (I, oI) :: (l, listOf vs.toArray n) :: (l2, listOf vs2.toArray n2) :: news) [] (fun _ => []) (fun e c => c.1 = ((pickS ns (st : Int) ((st : Int) + PI)).take e).foldl (lnStep (wid (xs ++ ns))) (Str.ofString "") ∧ c.1.length ≤ 300 * e) (Str.ofString "", _, _)
            (by k_asm) (by k_asm) (by k_mem) (by walk_at "led") (fun _ => rfl) (by walk_at "held") rfl ⟨rfl, by dsimp only; lia⟩ ?_ ?_
          · rintro e v ⟨cur, tc, k7⟩ u I3 oI3 h tk he hv3 ⟨hce, hcl⟩ hlt3 F₁ N₁
            simp only [List.cons_append, List.nil_append] at N₁ hlt3
            dsimp only at hce hcl ⊢
            obtain ⟨y, ty, rfl, hy⟩ := hp9.item e v hv3
            have hsy := hs2 y (List.mem_of_mem_drop (List.mem_of_mem_take (List.mem_of_getElem? hy)))
            have l1' := len_sp
            k_steps
            exact TEnd.next (c' := (_, _, _)) (by k_asm) (by k_asm) (by walk_at "led") (by walk_at "held") (by walk_at "kept") ⟨((foldl_take (lnStep (wid (xs ++ ns))) (Str.ofString "") (l := pickS ns (st : Int) ((st : Int) + PI)) hy).trans (by rw [← hce]; rfl)).symm, by
              simp only [Str.length_append]
              lia⟩
          · rintro ⟨cur, tc, k7⟩ u v h tk ⟨hce, hcl⟩ F₁ N₁
            simp only [List.cons_append, List.nil_append] at N₁
            dsimp only at hce hcl ⊢
            rw [List.take_of_length_le (l := pickS ns (st : Int) ((st : Int) + PI)) (by show _ ≤ (kms_pick vs2 (some (st : Int)) (some ((st : Int) + PI))).length; exact Nat.le_of_eq hp8.symm)] at hce
            k_steps
            exact TEnd.next (c' := (_, _)) (by k_asm) (by k_asm) (by walk_at "led") (by walk_at "held") (by walk_at "kept") ⟨by
              have h99 := strsAre_snoc (t := tc) (y := cur) hus2
              rw [hce] at h99
              rw [hce]
              exact (by rw [List.append_assoc] at h99; exact h99), by simp only [List.length_append, List.length_cons, List.length_nil]; lia⟩
        · have hp9 := pick_strs hx (some (st : Int)) (some ((st : Int) + PI))
          have hp8 := hp9.len_eq
          have hp7 : ((xs.drop (kms_lo (some (st : Int)) xs.length)).take (kms_hi (some ((st : Int) + PI)) xs.length - kms_lo (some (st : Int)) xs.length)).length ≤ xs.length := pick_len
          have hle := len_e
          k_steps
          unfold Stop
          refine for_list (fun c : Str × Tok × Nat => [(q9, listOf (us2 ++ [Value.str c.1 c.2.1]).toArray c.2.2)]) ((d9, listOf (kms_pick vs.toArray.toList (some (st : Int)) (some ((st : Int) + PI))).toArray 0) :: (I2, oI2) :: (r9, listOf [Value.ref l2, Value.ref l].toArray 0) :: (I, oI) :: (l, listOf vs.toArray n) :: (l2, listOf vs2.toArray n2) :: news) [] (fun _ => []) (fun e c => c.1 = ((pickS xs (st : Int) ((st : Int) + PI)).take e).foldl (lnStep (wid (xs ++ ns))) (Str.ofString "") ∧ c.1.length ≤ 300 * e) (Str.ofString "", _, _)
            (by k_asm) (by k_asm) (by k_mem) (by walk_at "led") (fun _ => rfl) (by walk_at "held") rfl ⟨rfl, by dsimp only; lia⟩ ?_ ?_
          · rintro e v ⟨cur, tc, k7⟩ u I3 oI3 h tk he hv3 ⟨hce, hcl⟩ hlt3 F₁ N₁
            simp only [List.cons_append, List.nil_append] at N₁ hlt3
            dsimp only at hce hcl ⊢
            obtain ⟨y, ty, rfl, hy⟩ := hp9.item e v hv3
            have hsy := hs y (List.mem_of_mem_drop (List.mem_of_mem_take (List.mem_of_getElem? hy)))
            have l1' := len_sp
            k_steps
            exact TEnd.next (c' := (_, _, _)) (by k_asm) (by k_asm) (by walk_at "led") (by walk_at "held") (by walk_at "kept") ⟨((foldl_take (lnStep (wid (xs ++ ns))) (Str.ofString "") (l := pickS xs (st : Int) ((st : Int) + PI)) hy).trans (by rw [← hce]; rfl)).symm, by
              simp only [Str.length_append]
              lia⟩
          · rintro ⟨cur, tc, k7⟩ u v h tk ⟨hce, hcl⟩ F₁ N₁
            simp only [List.cons_append, List.nil_append] at N₁
            dsimp only at hce hcl ⊢
            rw [List.take_of_length_le (l := pickS xs (st : Int) ((st : Int) + PI)) (by show _ ≤ (kms_pick vs (some (st : Int)) (some ((st : Int) + PI))).length; exact Nat.le_of_eq hp8.symm)] at hce
            k_steps
            exact TEnd.next (c' := (_, _)) (by k_asm) (by k_asm) (by walk_at "led") (by walk_at "held") (by walk_at "kept") ⟨by
              have h99 := strsAre_snoc (t := tc) (y := cur) hus2
              rw [hce] at h99
              rw [hce]
              exact (by rw [List.append_assoc] at h99; exact h99), by simp only [List.length_append, List.length_cons, List.length_nil]; lia⟩
      · rintro ⟨us2, k8⟩ u v h tk ⟨hus2, hul2⟩ F₁ N₁
        simp only [List.cons_append, List.nil_append] at N₁
        dsimp only at hus2 hul2 ⊢
        k_steps
        exact TEnd.next (c' := (_, _)) (by k_asm) (by k_asm) (by walk_at "led") (by walk_at "held") (by walk_at "kept") ⟨by rw [lnTo_succ, hst]; exact hus2, by simp only [List.length_cons, List.length_nil] at hul2; lia⟩
    · rintro ⟨us, k9⟩ u v h tk ⟨hus, hul⟩ F₁ N₁
      simp only [List.cons_append, List.nil_append] at N₁
      dsimp only at hus hul ⊢
      k_steps
      refine closeL ret (by k_asm) (by k_asm) (by walk_at "led") (by walk_at "offD") ⟨?_, ?_⟩
      · rw [lawNamed, lnPer, ← hvl, hPI]; exact hus
      · have := turns_le (n := vs.length) (per := PI.toNat) (by lia)
        lia
theorem words_B29 : True := by
  k_with_none
  k_with "call builtin:list.pop" => (k_here; k_dflt (refine' kl_pop ?zqF ?zqN (kl_last_snoc _ _) ?zqU ?zqZ ?_; (case zqF => k_asm); (case zqN => k_asm); (case zqU => k_upd); (case zqZ => (simp only [sizeLine_eq]; simp only [List.length_append, List.length_singleton]; omega)); k_whole; intro h' F' N'))
  k_with "CompSrc" => (refine Stop.mk ?_)
  k_with "eval ListComp" => (k_here; k_dflt (refine LCg.ListComp_U (F₀ := by k_asm) (by with_unfolding_all rfl) (by decide) (by rfl) (by decide) (by rfl) ?_))
  k_with "sel" => first | exact Sel.nil | (refine' Sel.cons ?zqsl1 ?zqsl2; (case zqsl1 => walk_at "rem"); (case zqsl2 => walk_at "sel"))
  k_with "rem" => first | exact Rem.head | (refine' Rem.tail ?zqrm1; (case zqrm1 => walk_at "rem"))
  k_with "apart" => first | exact List.forall_mem_nil _ | (refine List.forall_mem_cons.mpr ⟨by k_all, ?_⟩; walk_at "apart")
  k_with "CompEnd" => (refine Stop.mk ?_)
  k_with "call builtin:str.join" => (k_here; k_dflt (refine join_led (by k_asm) (by k_mem) (by first | assumption | walk_at "strs") (by first | assumption | decide +kernel) (by first | assumption | walk_at "joinsum") ?_); intro _ _)
  k_with "led" => ((try dsimp only); (try simp only [List.cons_append, List.nil_append]); kcf_all)
  k_with "pyIter ref" => (k_here; refine Stop.mk ?_)
  k_with "exec For" => (k_here; k_dflt (refine For_invVF (by k_asm) (by rfl) (by rfl) ?_))
  k_with "kept" => (intro z9 h91 h92 h93; (try simp only [List.contains_cons, List.contains_nil, Bool.or_false, Bool.or_eq_false_iff, beq_eq_false_iff_ne, ne_eq] at h93); simp [lmap, kstB, h91, h93])
  k_with "held" => first | exact List.forall_mem_nil _ | (refine List.forall_mem_cons.mpr ⟨rfl, ?_⟩; walk_at "held")
  k_with "call builtin:list.append" => (k_here; k_dflt (refine' append_K ?zqk1 ?zqk2 ?zqk3 ?_ ?zqz; (case zqk1 => k_asm); (case zqk2 => k_asm); (case zqk3 => k_upd); (case zqz => first | (simp only [List.size_toArray, sizeLine_eq, List.length_append, List.length_singleton]; omega) | (simp only [List.size_toArray, sizeLine_eq, List.length_append, List.length_singleton]; refine Nat.le_trans (Nat.add_le_add_right (kpick_len _ _ _) _) ?_; omega)); k_whole); intro h' F' N'; (try simp only [List.push_toArray] at N'); (try k_sweep))
  k_with "call builtin:list.reverse" => (k_here; k_dflt (refine' kl_reverse ?zqF ?zqN ?zqe ?zqU ?zqz ?_; (case zqF => k_asm); (case zqN => k_asm); (case zqU => k_upd); (case zqe => exact (rfl : _ = List.reverse _)); (case zqz => (show List.length _ ≤ _; rw [IntsAre.length (by assumption)]; simp only [sizeLine_eq]; omega)); k_whole); intro h' F' N')
  k_with "below" => ((try simp only [List.cons_append, List.nil_append, AllLt, and_true]); first | assumption | exact allLt_iff.mpr (by assumption) | exact And.right (by assumption) | exact And.right (And.right (by assumption)) | exact And.right (And.right (And.right (by assumption))) | exact And.right (And.right (And.right (And.right (by assumption)))))
  k_with "exec For Name Name cons nil" => (k_here; k_dflt (refine For_invVF (by k_asm) (by rfl) (by rfl) ?_))
  k_with "exec For Name Name" => (k_here; k_dflt (refine For_invVF (by k_asm) (by rfl) (by rfl) ?_))
  k_with "exec For Name Call cons nil" => (k_here; k_dflt (refine For_invVF (by k_asm) (by rfl) (by rfl) ?_))
  k_with "exec For Name Call" => (k_here; k_dflt (refine For_invVF (by k_asm) (by rfl) (by rfl) ?_))
  k_with "exec For Name Attribute cons nil" => (k_here; k_dflt (refine For_invVF (by k_asm) (by rfl) (by rfl) ?_))
  k_with "exec For Name Attribute" => (k_here; k_dflt (refine For_invVF (by k_asm) (by rfl) (by rfl) ?_))
  k_with "exec For Name Subscript cons nil" => (k_here; k_dflt (refine For_invVF (by k_asm) (by rfl) (by rfl) ?_))
  k_with "exec For Name Subscript" => (k_here; k_dflt (refine For_invVF (by k_asm) (by rfl) (by rfl) ?_))
  k_with "exec For Name List cons nil" => (k_here; k_dflt (refine For_invVF (by k_asm) (by rfl) (by rfl) ?_))
  k_with "exec For Name List" => (k_here; k_dflt (refine For_invVF (by k_asm) (by rfl) (by rfl) ?_))
  k_with "call builtin:len" => (k_here; k_dflt (first | (refine P.len_str (by omega) ?_) | (refine len_led (by k_asm) (by k_mem) (by omega) ?_)))
  k_with "call builtin:str.rjust" => (k_here; k_dflt (refine SC.rjust (padOk_of (by omega) (by omega)) ?_); intro _ _)
  k_with "call builtin:str.ljust" => (k_here; k_dflt (refine SC.ljust (padOk_of (by omega) (by omega)) ?_); intro _ _)
  k_with "srcat" => exact Or.inr ⟨_, by k_mem, rfl, _, rfl⟩
  k_with "FinE" => ((unfold LCg.FinE); intro D' h' tk' F' N' o1'; (replace o1' := offD_of o1'); (try simp only [OffD, and_true] at o1'); (repeat (obtain ⟨o2', o1'⟩ := o1')); (try simp only [List.nil_append, List.cons_append] at N'); (try dsimp only))
  k_with "fresh" => ((simp only [FreshOver, OffD, List.nil_append, List.cons_append, and_true]); (repeat' (refine And.intro ?_ ?_)); all_goals first | assumption | exact Dist.symm (by assumption) | exact lt_off (by assumption) | exact allLt_off (by assumption) | exact allLt_off (And.right (by assumption)) | exact allLt_off (And.right (And.right (by assumption))) | exact allLt_off (And.right (And.right (And.right (by assumption)))) | exact Dist.of (by omega))
  k_with "subscriptTail" => (k_here; (with_reducible show wpAny _ _ (subscriptTail _ _ (Value.ref _) (Value.int _ _)) _ _ _); k_dflt (refine item_led (by k_asm) (by k_mem) (by omega) (by omega) (by assumption) ?_))
  k_with "binaryOp Add str str" => (k_here; (with_reducible show wpAny _ _ (binaryOp Operator.Add (Value.str _ _) (Value.str _ _)) _ _ _); (refine PyProof.Rows.add_str (hsz := ?zqhz9) ?_); (case zqhz9 => first | (simp only [Str.length_append, sizeLine_eq]; omega) | walk_at "addlen"); intro _ _)
  k_with "subscriptTail Name Name ref int" => (k_here; k_dflt (refine item_led (by k_asm) (by k_mem) (by omega) (by omega) (by assumption) ?_))
  k_with "call builtin:max" => (k_here; k_dflt (refine max_ints rfl (by k_asm) (by k_asm) ?_); intro h' tk' t' F' N'; (try k_sweep))
  k_with "call type:range" => (k_here; (with_reducible show wpAny _ _ (call _ [_, _, _]) _ _ _); k_dflt (refine range3_rows (by k_asm) (by k_asm) (by omega) ?_ (Or.inl (PyProof.noPylong_small (by omega)))); intro h' tk' t₁ u₁ v₁ r' F' N' k')
  k_with "FinA" => ((unfold LCg.FinA); intro D' h' tk' F' N' o1'; (replace o1' := offD_of o1'); (try simp only [OffD, and_true] at o1'); (repeat (obtain ⟨o2', o1'⟩ := o1')); (try simp only [List.nil_append, List.cons_append] at N'); (try dsimp only))
  k_with "exec Assign cons ListComp" => (k_here; k_dflt (refine LCg.Assign_ListComp_U (F₀ := by k_asm) (by rfl) (by with_unfolding_all rfl) (by with_unfolding_all rfl) (by decide) (by rfl) (by decide) (by rfl) (by rfl) (by rfl) ?_))
  k_with "ite" => (refine ite_strs ?_)
  k_with "units_room" => (((try simp only [units_under_make, units_in1, units_deeper, Around.mark_units, units_caller]); (try dsimp only [ktrTop]); (try simp only [units_under_make, units_in1, units_deeper, Around.mark_units, units_caller]); omega))
  k_with "k_room" => (((try simp only [depth_under_make, depth_under_kw, depth_in1, depth_deeper, depth_caller]); (try dsimp only [ktrTop]); omega))
  k_with "k_units" => (units_room)
  k_with "k_all" => (first | assumption | exact off1_ne (by assumption) | exact off1_ne (off3_I (by assumption)) | exact off1_ne (off3_C (by assumption)) | exact off1_ne (off3_D (by assumption)) | exact lt_ne (by assumption) | exact allLt_ne (by assumption) | exact allLt_ne (And.right (by assumption)) | exact allLt_ne (And.right (And.right (by assumption))) | exact allLt_ne (And.right (And.right (And.right (by assumption)))))
  k_with "k_ne" => (first | exact Dist.ne (by assumption) | exact Dist.ne (Dist.symm (by assumption)))
  k_with "led" => ((try dsimp only [vecL, vecD, ent]); (try simp only [List.cons_append, List.nil_append, List.append_nil]); kcf_all)
  k_with "fresh" => first | exact freshL (by assumption) | exact freshL (offD_tail (by assumption)) | exact freshL (offD_sub (by assumption) (by walk_at "led")) | exact freshL (allLt_off (allLt_sub (by assumption) (by walk_at "led")))
  k_with "backL" => (k_whole; intro D' ys' k' h' tk' hys' hof' F' N'; (try dsimp only))
  k_with "backT" => (k_whole; intro t' h' tk' F' N'; (try dsimp only))
  k_with "backV" => (k_whole; intro h' tk' F' N'; (try dsimp only))
  k_with "offD" => first | assumption | exact offD_sub (by assumption) (by walk_at "led") | exact allLt_off (allLt_sub (by assumption) (by walk_at "led"))
  k_with "k_lt" => skip
  k_with "k_all" => (first | exact allLt_ne (by assumption) | exact off1_ne (by assumption) | exact lt_ne (by assumption) | assumption | exact off1_ne (offD_tail (by assumption)) | exact off1_ne (offD_tail (offD_tail (by assumption))))
  k_with "k_ne" => (first | exact Dist.ne (by assumption) | exact Dist.ne (Dist.symm (by assumption)) | exact ne_lt (by assumption) | exact ne_gt (by assumption) | exact ne_gt (And.left (by assumption)) | exact ne_lt (And.left (by assumption)) | exact Dist.ne (And.left (by assumption)) | exact Dist.ne (Dist.symm (And.left (by assumption))) | exact ne_gt (And.left (And.right (by assumption))) | exact ne_lt (And.left (And.right (by assumption))) | (refine neN ?_; (try dsimp only); omega))
  trivial
theorem Calls.mono {w : World} {f : Addr} {args : List Value} {D U : Nat} {pre : Led} {mu : List Addr} {post post' : Value → Led → Led → Prop} (C : Calls w f args D U pre mu post) (h : ∀ v new pre', post v new pre' → post' v new pre') : Calls w f args D U pre mu post' :=
  fun dp un gd cn cs a ccd cl outer A₀ base h₀ L m s loose mean mg mb news Q E B F X N T hk hd hu hm ret =>
    C dp un gd cn cs a ccd cl outer A₀ base h₀ L m s loose mean mg mb news Q E B F X N T hk hd hu hm fun v new pre' h' tk' hp => ret v new pre' h' tk' (h v new pre' hp)
noncomputable def RowIs (vs : List Value) : Prop := ∃ q : List Int, IntsAre vs q.reverse ∧ q.length ≤ 1000
theorem nextA_calls (w : World) {r : Addr} {vs : List Value} {n : Nat} (h : RowIs vs) :
    Calls w 307 [.ref r] 1 80 [(r, listOf vs.toArray n)] [r] (fun v new pre' => new = [] ∧ ∃ x t vs' n', v = .int x t ∧ pre' = [(r, listOf vs'.toArray n')] ∧ RowIs vs') := by
  obtain ⟨q, hi, hl⟩ := h
  refine (next_calls w hi hl).mono ?_
  rintro v new pre' ⟨e, vs', n', t, hv, hp, hi'⟩
  exact ⟨e, _, t, vs', n', hv, hp, q.tail, hi', by rw [List.length_tail]; omega⟩
theorem letters_word (q : List Int) : Letters (wordOf q) := by
  intro c hc
  unfold wordOf at hc
  rw [join_empty] at hc
  obtain ⟨l, hl, hcl⟩ := List.mem_flatten.mp hc
  obtain ⟨y, hy, rfl⟩ := List.mem_map.mp hl
  obtain ⟨j, _, rfl⟩ := List.mem_map.mp hy
  have h := fmod26 ((q.tail.drop j).headD 0)
  have hc' : c = (97 + Int.fmod ((q.tail.drop j).headD 0) 26).toNat := by simpa [ltr] using hcl
  omega
theorem word_len (q : List Int) : (wordOf q).length ≤ 7 := by
  have h : (wordOf q).cps.toList.length = ((letters (wlen q) q.tail).map (·.length)).sum := by
    unfold wordOf
    rw [join_empty, List.length_flatten, List.map_map]
    congr 1
  rw [letters_sum] at h
  have := wlen_le q
  have e : (wordOf q).cps.toList.length = (wordOf q).length := by simp [Str.length]
  omega
theorem wordA_calls (w : World) {r : Addr} {vs : List Value} {n : Nat} (h : RowIs vs) :
    Calls w 317 [.ref r] 2 100 [(r, listOf vs.toArray n)] [r] (fun v new pre' => new = [] ∧ ∃ y t vs' n', v = .str y t ∧ pre' = [(r, listOf vs'.toArray n')] ∧ RowIs vs' ∧ Letters y ∧ y.length ≤ 7) := by
  obtain ⟨q, hi, hl⟩ := h
  refine (word_calls w hi hl).mono ?_
  rintro v new pre' ⟨e, vs', n', t, hv, hp, hi'⟩
  exact ⟨e, _, t, vs', n', hv, hp, ⟨_, hi', by unfold wordRest; simp; omega⟩, letters_word q, word_len q⟩
theorem words_B31 : True := by
  k_with_none
  k_with "call builtin:list.pop" => (k_here; k_dflt (refine' kl_pop ?zqF ?zqN (kl_last_snoc _ _) ?zqU ?zqZ ?_; (case zqF => k_asm); (case zqN => k_asm); (case zqU => k_upd); (case zqZ => (simp only [sizeLine_eq]; simp only [List.length_append, List.length_singleton]; lia)); k_whole; intro h' F' N'))
  k_with "CompSrc" => (refine Stop.mk ?_)
  k_with "eval ListComp" => (k_here; k_dflt (refine LCg.ListComp_U (F₀ := by k_asm) (by with_unfolding_all rfl) (by decide) (by rfl) (by decide) (by rfl) ?_))
  k_with "sel" => first | exact Sel.nil | (refine' Sel.cons ?zqsl1 ?zqsl2; (case zqsl1 => walk_at "rem"); (case zqsl2 => walk_at "sel"))
  k_with "rem" => first | exact Rem.head | (refine' Rem.tail ?zqrm1; (case zqrm1 => walk_at "rem"))
  k_with "apart" => first | exact List.forall_mem_nil _ | (refine List.forall_mem_cons.mpr ⟨by k_all, ?_⟩; walk_at "apart")
  k_with "CompEnd" => (refine Stop.mk ?_)
  k_with "call builtin:str.join" => (k_here; k_dflt (refine join_led (by k_asm) (by k_mem) (by first | assumption | walk_at "strs") (by first | assumption | decide +kernel) (by first | assumption | walk_at "joinsum") ?_); intro _ _)
  k_with "led" => ((try dsimp only); (try simp only [List.cons_append, List.nil_append]); kcf_all)
  k_with "pyIter ref" => (k_here; refine Stop.mk ?_)
  k_with "exec For" => (k_here; k_dflt (refine For_invVF (by k_asm) (by rfl) (by rfl) ?_))
  k_with "kept" => (intro z9 h91 h92 h93; (try simp only [List.contains_cons, List.contains_nil, Bool.or_false, Bool.or_eq_false_iff, beq_eq_false_iff_ne, ne_eq] at h93); simp [lmap, kstB, h91, h93])
  k_with "held" => first | exact List.forall_mem_nil _ | (refine List.forall_mem_cons.mpr ⟨rfl, ?_⟩; walk_at "held")
  k_with "call builtin:list.append" => (k_here; k_dflt (refine' append_K ?zqk1 ?zqk2 ?zqk3 ?_ ?zqz; (case zqk1 => k_asm); (case zqk2 => k_asm); (case zqk3 => k_upd); (case zqz => first | (simp only [List.size_toArray, sizeLine_eq, List.length_append, List.length_singleton]; lia) | (simp only [List.size_toArray, sizeLine_eq, List.length_append, List.length_singleton]; refine Nat.le_trans (Nat.add_le_add_right (kpick_len _ _ _) _) ?_; lia)); k_whole); intro h' F' N'; (try simp only [List.push_toArray] at N'); (try k_sweep))
  k_with "call builtin:list.reverse" => (k_here; k_dflt (refine' kl_reverse ?zqF ?zqN ?zqe ?zqU ?zqz ?_; (case zqF => k_asm); (case zqN => k_asm); (case zqU => k_upd); (case zqe => exact (rfl : _ = List.reverse _)); (case zqz => (show List.length _ ≤ _; rw [IntsAre.length (by assumption)]; simp only [sizeLine_eq]; lia)); k_whole); intro h' F' N')
  k_with "below" => ((try simp only [List.cons_append, List.nil_append, AllLt, and_true]); first | assumption | exact allLt_iff.mpr (by assumption) | exact And.right (by assumption) | exact And.right (And.right (by assumption)) | exact And.right (And.right (And.right (by assumption))) | exact And.right (And.right (And.right (And.right (by assumption)))))
  k_with "exec For Name Name cons nil" => (k_here; k_dflt (refine For_invVF (by k_asm) (by rfl) (by rfl) ?_))
  k_with "exec For Name Name" => (k_here; k_dflt (refine For_invVF (by k_asm) (by rfl) (by rfl) ?_))
  k_with "exec For Name Call cons nil" => (k_here; k_dflt (refine For_invVF (by k_asm) (by rfl) (by rfl) ?_))
  k_with "exec For Name Call" => (k_here; k_dflt (refine For_invVF (by k_asm) (by rfl) (by rfl) ?_))
  k_with "exec For Name Attribute cons nil" => (k_here; k_dflt (refine For_invVF (by k_asm) (by rfl) (by rfl) ?_))
  k_with "exec For Name Attribute" => (k_here; k_dflt (refine For_invVF (by k_asm) (by rfl) (by rfl) ?_))
  k_with "exec For Name Subscript cons nil" => (k_here; k_dflt (refine For_invVF (by k_asm) (by rfl) (by rfl) ?_))
  k_with "exec For Name Subscript" => (k_here; k_dflt (refine For_invVF (by k_asm) (by rfl) (by rfl) ?_))
  k_with "exec For Name List cons nil" => (k_here; k_dflt (refine For_invVF (by k_asm) (by rfl) (by rfl) ?_))
  k_with "exec For Name List" => (k_here; k_dflt (refine For_invVF (by k_asm) (by rfl) (by rfl) ?_))
  k_with "call builtin:len" => (k_here; k_dflt (first | (refine P.len_str (by lia) ?_) | (refine len_led (by k_asm) (by k_mem) (by lia) ?_)))
  k_with "call builtin:str.rjust" => (k_here; k_dflt (refine SC.rjust (padOk_of (by lia) (by lia)) ?_); intro _ _)
  k_with "call builtin:str.ljust" => (k_here; k_dflt (refine SC.ljust (padOk_of (by lia) (by lia)) ?_); intro _ _)
  k_with "srcat" => exact Or.inr ⟨_, by k_mem, rfl, _, rfl⟩
  k_with "FinE" => ((unfold LCg.FinE); intro D' h' tk' F' N' o1'; (replace o1' := offD_of o1'); (try simp only [OffD, and_true] at o1'); (repeat (obtain ⟨o2', o1'⟩ := o1')); (try simp only [List.nil_append, List.cons_append] at N'); (try dsimp only))
  k_with "fresh" => ((simp only [FreshOver, OffD, List.nil_append, List.cons_append, and_true]); (repeat' (refine And.intro ?_ ?_)); all_goals first | assumption | exact Dist.symm (by assumption) | exact lt_off (by assumption) | exact allLt_off (by assumption) | exact allLt_off (And.right (by assumption)) | exact allLt_off (And.right (And.right (by assumption))) | exact allLt_off (And.right (And.right (And.right (by assumption)))) | exact Dist.of (by lia))
  k_with "subscriptTail" => (k_here; (with_reducible show wpAny _ _ (subscriptTail _ _ (Value.ref _) (Value.int _ _)) _ _ _); k_dflt (refine item_led (by k_asm) (by k_mem) (by lia) (by lia) (by assumption) ?_))
  k_with "binaryOp Add str str" => (k_here; (with_reducible show wpAny _ _ (binaryOp Operator.Add (Value.str _ _) (Value.str _ _)) _ _ _); (refine PyProof.Rows.add_str (hsz := ?zqhz9) ?_); (case zqhz9 => first | (simp only [Str.length_append, sizeLine_eq]; lia) | walk_at "addlen"); intro _ _)
  k_with "subscriptTail Name Name ref int" => (k_here; k_dflt (refine item_led (by k_asm) (by k_mem) (by lia) (by lia) (by assumption) ?_))
  k_with "call builtin:max" => (k_here; k_dflt (refine max_ints rfl (by k_asm) (by k_asm) ?_); intro h' tk' t' F' N'; (try k_sweep))
  k_with "call type:range" => (k_here; (with_reducible show wpAny _ _ (call _ [_, _, _]) _ _ _); k_dflt (refine range3_rows (by k_asm) (by k_asm) (by lia) ?_ (Or.inl (PyProof.noPylong_small (by lia)))); intro h' tk' t₁ u₁ v₁ r' F' N' k')
  k_with "FinA" => ((unfold LCg.FinA); intro D' h' tk' F' N' o1'; (replace o1' := offD_of o1'); (try simp only [OffD, and_true] at o1'); (repeat (obtain ⟨o2', o1'⟩ := o1')); (try simp only [List.nil_append, List.cons_append] at N'); (try dsimp only))
  k_with "exec Assign cons ListComp" => (k_here; k_dflt (refine LCg.Assign_ListComp_U (F₀ := by k_asm) (by rfl) (by with_unfolding_all rfl) (by with_unfolding_all rfl) (by decide) (by rfl) (by decide) (by rfl) (by rfl) (by rfl) ?_))
  k_with "ite" => (refine ite_strs ?_)
  k_with "units_room" => (((try simp only [units_under_make, units_in1, units_deeper, Around.mark_units, units_caller]); (try dsimp only [ktrTop]); (try simp only [units_under_make, units_in1, units_deeper, Around.mark_units, units_caller]); lia))
  k_with "k_room" => (((try simp only [depth_under_make, depth_under_kw, depth_in1, depth_deeper, depth_caller]); (try dsimp only [ktrTop]); lia))
  k_with "k_units" => (units_room)
  k_with "k_all" => (first | assumption | exact off1_ne (by assumption) | exact off1_ne (off3_I (by assumption)) | exact off1_ne (off3_C (by assumption)) | exact off1_ne (off3_D (by assumption)) | exact lt_ne (by assumption) | exact allLt_ne (by assumption) | exact allLt_ne (And.right (by assumption)) | exact allLt_ne (And.right (And.right (by assumption))) | exact allLt_ne (And.right (And.right (And.right (by assumption)))))
  k_with "k_ne" => (first | exact Dist.ne (by assumption) | exact Dist.ne (Dist.symm (by assumption)))
  k_with "led" => ((try dsimp only [vecL, vecD, ent]); (try simp only [List.cons_append, List.nil_append, List.append_nil]); kcf_all)
  k_with "fresh" => first | exact freshL (by assumption) | exact freshL (offD_tail (by assumption)) | exact freshL (offD_sub (by assumption) (by walk_at "led")) | exact freshL (allLt_off (allLt_sub (by assumption) (by walk_at "led")))
  k_with "backL" => (k_whole; intro D' ys' k' h' tk' hys' hof' F' N'; (try dsimp only))
  k_with "backT" => (k_whole; intro t' h' tk' F' N'; (try dsimp only))
  k_with "backV" => (k_whole; intro h' tk' F' N'; (try dsimp only))
  k_with "offD" => first | assumption | exact offD_sub (by assumption) (by walk_at "led") | exact allLt_off (allLt_sub (by assumption) (by walk_at "led"))
  k_with "k_lt" => skip
  k_with "k_all" => (first | exact allLt_ne (by assumption) | exact off1_ne (by assumption) | exact lt_ne (by assumption) | assumption | exact off1_ne (offD_tail (by assumption)) | exact off1_ne (offD_tail (offD_tail (by assumption))))
  k_with "k_ne" => (first | exact Dist.ne (by assumption) | exact Dist.ne (Dist.symm (by assumption)) | exact ne_lt (by assumption) | exact ne_gt (by assumption) | exact ne_gt (And.left (by assumption)) | exact ne_lt (And.left (by assumption)) | exact Dist.ne (And.left (by assumption)) | exact Dist.ne (Dist.symm (And.left (by assumption))) | exact ne_gt (And.left (And.right (by assumption))) | exact ne_lt (And.left (And.right (by assumption))) | (refine neN ?_; (try dsimp only); lia))
  trivial
theorem ite_cut {M : Model} {A : Around} {E : Value → Shared → Prop} {s : Shared} {o : Bool} {t1 t2 : Sem Value} {Q : Value → Shared → Prop} (P : Bool → Shared → Value → Shared → Prop) (h1 : o = true → wpAny M A t1 (P o s) E s) (h2 : o = false → wpAny M A t2 (P o s) E s) (h : ∀ v s', P o s v s' → Q v s') :
    if o = true then wpAny M A t1 Q E s else wpAny M A t2 Q E s := by
  by_cases ho : o = true
  · rw [if_pos ho]; exact wpAny_mono (h1 ho) h fun _ _ e => e
  · rw [if_neg ho]; exact wpAny_mono (h2 (by simpa using ho)) h fun _ _ e => e
noncomputable def ClsEnd (h₀ : Heap) (L : Addr) (m : Str → Option Value) (news : Led) (o : Bool) (s₁ : Shared) (v : Value) (s₂ : Shared) : Prop :=
  ∃ D cls k h' tk, v = .ref D ∧ ClsIs o cls ∧ s₂ = { s₁ with heap := h', toks := tk } ∧ Fr h₀ L h' m ∧ News h₀ L h' ((D, listOf cls.toArray k) :: news) ∧ AllLt D news
set_option maxRecDepth 100000 in
set_option maxHeartbeats 2000000 in
theorem vec_calls (w : World) {k : Str} {t : Tok} {l : Addr} :
    Calls w 236 [.str k t, .ref l] 2 100 [] [] (fun v new pre' => ∃ x d t1 t2 t3 t4 t5, v = .ref x ∧ new = vecL w x d k t t1 t2 t3 t4 t5 5 (.ref l) .none ∧ pre' = []) := by
  unfold Calls
  intro dp un gd cn cs a ccd cl outer A₀ base h₀ L m s loose mean mg mb news Q E B F X N T hk hd hu hm ret
  cases cs; cases hk
  simp only [List.nil_append] at N
  k_steps
  rename AllLt _ news => l1
  rename _ < _ => l2
  exact ret _ (vecL w _ _ k t _ _ _ _ _ 5 (.ref l) .none) _ _ _ ⟨_, _, _, _, _, _, _, rfl, rfl, rfl⟩ ⟨⟨ne_lt l2, lt_off fun p hp => Nat.lt_trans (allLt_iff.mp l1 p hp) l2⟩, allLt_off l1, trivial⟩ (by k_asm) (news_iff (by k_asm) (by walk_at "led"))
theorem reps_list (c : Array Nat) : ∀ (k : Nat) (acc : Array Nat), ((List.replicate k c).foldl (· ++ ·) acc).toList = acc.toList ++ (List.replicate k c.toList).flatten
  | 0, acc => by simp
  | k + 1, acc => by
    rw [List.replicate_succ, List.foldl_cons, reps_list c k, List.replicate_succ, List.flatten_cons]
    simp
theorem sp_eq : (Str.ofString " ").cps = #[32] := by decide +kernel
theorem mul_sp (n : Int) : (Txt.mul (Str.ofString " ") n).cps.toList = List.replicate n.toNat 32 := by
  unfold Txt.mul
  by_cases h1 : n < 1
  · rw [if_pos h1, show n.toNat = 0 by omega]; rfl
  · rw [if_neg h1, len_sp]
    by_cases h2 : n = 1
    · subst h2; rw [if_pos (by decide), sp_eq]; rfl
    · rw [if_neg (by simp; omega)]
      rw [reps_list, sp_eq]
      have key : ∀ k : Nat, (List.replicate k [32]).flatten = List.replicate k 32 := by
        intro k
        induction k with
        | zero => rfl
        | succ k ih => rw [List.replicate_succ, List.flatten_cons, ih, List.replicate_succ]; rfl
      simp [key n.toNat]
theorem len_list (x : Str) : x.cps.toList.length = x.length := by simp [Str.length]
theorem len_of_list {x : Str} {l : List Nat} (h : x.cps.toList = l) : x.length = l.length := by rw [← h, len_list]
theorem mul_sp_len (n : Int) : (Txt.mul (Str.ofString " ") n).length = n.toNat := by rw [len_of_list (mul_sp n), List.length_replicate]
theorem toNat_sub' (i : Int) (n : Nat) : i.toNat - n = (i - (n : Int)).toNat := by
  cases i with
  | ofNat a => exact (Int.toNat_sub a n).symm
  | negSucc a => rw [Int.toNat_of_nonpos (Int.le_of_lt (Int.negSucc_lt_zero a)), Nat.zero_sub, Int.toNat_of_nonpos (Int.sub_nonpos_of_le (Int.le_trans (Int.le_of_lt (Int.negSucc_lt_zero a)) (Int.natCast_nonneg n)))]
theorem ljust_eq (x : Str) (i : Int) : Txt.ljust x i = x ++ Txt.mul (Str.ofString " ") (i - (x.length : Int)) := by
  apply str_ext
  rw [toList_append, mul_sp]
  refine (ljustF_list x i 32).trans ?_
  rw [toNat_sub']
theorem rjust_eq (x : Str) (i : Int) : Txt.rjust x i = Txt.mul (Str.ofString " ") (i - (x.length : Int)) ++ x := by
  apply str_ext
  rw [toList_append, mul_sp]
  refine (rjustF_list x i 32).trans ?_
  rw [toNat_sub']
theorem app_assoc (a b c : Str) : a ++ b ++ c = a ++ (b ++ c) := str_ext (by simp only [toList_append, List.append_assoc])
theorem pick_at {xs : List Str} {st : Nat} {PI : Int} (h0 : 0 ≤ PI) (h : st ≤ xs.length) : pickS xs (st : Int) ((st : Int) + PI) = (xs.drop st).take PI.toNat := by
  unfold pickS
  have hp : (st : Int) + PI = ((st + PI.toNat : Nat) : Int) := by rw [Int.natCast_add, Int.toNat_of_nonneg h0]
  have lo : ∀ a : Nat, kms_lo (some (a : Int)) xs.length = min a xs.length := fun a => by
    unfold kms_lo; dsimp only; rw [if_neg (Int.not_lt.mpr (Int.natCast_nonneg a)), Int.toNat_natCast]
  have hi : ∀ a : Nat, kms_hi (some (a : Int)) xs.length = min a xs.length := fun a => by
    unfold kms_hi; dsimp only; rw [if_neg (Int.not_lt.mpr (Int.natCast_nonneg a)), Int.toNat_natCast]
  rw [hp, lo, hi, Nat.min_eq_left h]
  have e : min (st + PI.toNat) xs.length - st = min PI.toNat (xs.length - st) := by rw [← Nat.sub_min_sub_right, Nat.add_sub_cancel_left]
  rw [e]
  have e2 := List.length_drop (l := xs) (i := st)
  rw [← e2, ← List.take_eq_take_min]
/-- a row of items begun at st, with j of them -/
noncomputable def rowA (xs : List Str) (n W st j : Nat) : Str := ((xs.drop st).take j).foldl (lpStep W) (lpStart n st)
theorem lpRow_eq {xs : List Str} {n st : Nat} {PI : Int} (h0 : 0 ≤ PI) (h : st ≤ xs.length) : lpRow xs n PI st = rowA xs n (wid xs) st PI.toNat := by
  unfold lpRow rowA; rw [pick_at h0 h]
theorem rowA_succ {xs : List Str} {n W st j : Nat} {y : Str} (h : xs[st + j]? = some y) : rowA xs n W st (j + 1) = lpStep W (rowA xs n W st j) y := by
  unfold rowA
  exact foldl_take _ _ (by rw [List.getElem?_drop]; exact h)
theorem lpStep_eq (W : Nat) (cur y : Str) : lpStep W cur y = cur ++ Str.ofString " " ++ Txt.ljust y (W : Int) := by
  unfold lpStep; rw [ljust_eq]; simp only [app_assoc]
theorem ljust_len9 {y : Str} {W : Nat} (h : y.length ≤ W) : (Txt.ljust y (W : Int)).length = W := by
  rw [ljust_eq, Str.length_append, mul_sp_len]; omega
theorem lpStep_len {W : Nat} {cur y : Str} (h : y.length ≤ W) : (lpStep W cur y).length = cur.length + (W + 1) := by
  rw [lpStep_eq, Str.length_append, Str.length_append, ljust_len9 h, len_sp]; omega
theorem str_mono : ∀ n : Nat, n < 13 → ∀ st : Nat, st < n → (strI ((st + 1 : Nat) : Int)).length ≤ (strI (n : Int)).length := by decide +kernel
theorem nlab_eq (n i : Nat) : nlab (((strI (n : Int)).length : Int) + 2) i = lpStart n i := by
  unfold nlab lpStart
  rw [rjust_eq]
  simp only [Str.length_append]
  rfl
theorem lpStart_len {n i : Nat} (hn : n < 13) (hi : i < n) : (lpStart n i).length = (strI (n : Int)).length + 2 := by
  have h := str_mono n hn i hi
  rw [← nlab_eq, nlab, rjust_eq]
  simp only [Str.length_append, mul_sp_len, len_lb, len_rb]
  have h2 : Str.length (Str.ofString (toString ((i : Int) + 1))) = (strI ((i + 1 : Nat) : Int)).length := rfl
  rw [h2]
  omega
theorem rowA_len {xs : List Str} {n W st : Nat} (hs : ∀ y ∈ xs, y.length ≤ W) (hn : n < 13) (hst : st < n) : ∀ {j : Nat}, st + j ≤ xs.length → (rowA xs n W st j).length = (strI (n : Int)).length + 2 + j * (W + 1)
  | 0, _ => by rw [Nat.zero_mul]; exact lpStart_len hn hst
  | j + 1, h => by
    obtain ⟨y, hy⟩ : ∃ y, xs[st + j]? = some y := ⟨xs[st + j]'(by omega), by simp⟩
    rw [rowA_succ hy, lpStep_len (hs y (List.mem_of_getElem? hy)), rowA_len hs hn hst (by omega), Nat.succ_mul]
    omega
theorem nst_eq {xs : List Str} {P : Int} {n W per : Nat} (hn : n = xs.length) (hn12 : n < 13) (hW : W = wid xs) (hp1 : 1 ≤ per)
    (hper : ∀ j : Nat, 1 ≤ j → ((((strI (n : Int)).length + 2 + (j + 1) * (W + 1) : Nat) : Int) ≤ P ↔ j + 1 ≤ per)) : ∀ i : Nat, i + 1 ≤ n →
      nState (xs.map (Txt.ljust · (W : Int))) P (((strI (n : Int)).length : Int) + 2) (i + 1) = ((List.range (i / per)).map fun k => rowA xs n W (k * per) per, rowA xs n W (i / per * per) (i + 1 - i / per * per))
  | 0, h => by
    obtain ⟨y, hy⟩ : ∃ y, xs[0]? = some y := ⟨xs[0]'(by omega), by simp⟩
    rw [nState_zero (y := Txt.ljust y (W : Int)) (by rw [List.getElem?_map, hy]; rfl) rfl, nlab_eq, ← lpStep_eq, Nat.zero_div, Nat.zero_mul, rowA_succ (j := 0) hy]
    rfl
  | i + 1, h => by
    have hs : ∀ y ∈ xs, y.length ≤ W := by rw [hW]; exact wid_ge
    have ih := nst_eq hn hn12 hW hp1 hper i (by omega)
    obtain ⟨y, hy⟩ : ∃ y, xs[i + 1]? = some y := ⟨xs[i + 1]'(by omega), by simp⟩
    have hyl := hs y (List.mem_of_getElem? hy)
    have hym : (xs.map (Txt.ljust · (W : Int)))[i + 1]? = some (Txt.ljust y (W : Int)) := by rw [List.getElem?_map, hy]; rfl
    have hd := Nat.div_mul_le_self i per
    have hd2 := Nat.lt_div_mul_add (a := i) (b := per) (by omega)
    have hlen := rowA_len (n := n) (W := W) (st := i / per * per) (xs := xs) hs hn12 (by omega) (j := i + 1 - i / per * per) (by omega)
    have hp := hper (i + 1 - i / per * per) (by omega)
    rw [Nat.succ_mul] at hp
    by_cases hfull : i + 1 - i / per * per + 1 ≤ per
    · have hq : (i + 1) / per = i / per := by
        refine Nat.div_eq_of_lt_le ?_ ?_
        · omega
        · rw [Nat.succ_mul]; omega
      have hP := hp.mpr hfull
      rw [nState_same hym (by omega) (by rw [ih, ljust_len9 hyl]; dsimp only; omega), ih, hq]
      dsimp only
      rw [← lpStep_eq, show i + 1 + 1 - i / per * per = (i + 1 - i / per * per) + 1 by omega, rowA_succ (by rw [show i / per * per + (i + 1 - i / per * per) = i + 1 by omega]; exact hy)]
    · have hP : ¬ _ := fun h => hfull (hp.mp h)
      have hj : i + 1 = (i / per + 1) * per := by rw [Nat.succ_mul]; omega
      have hq : (i + 1) / per = i / per + 1 := by rw [hj]; exact Nat.mul_div_cancel _ (by omega)
      rw [nState_new hym (by omega) (by rw [ih, ljust_len9 hyl]; dsimp only; omega), ih, hq, nlab_eq, ← lpStep_eq]
      dsimp only
      rw [List.range_succ, List.map_append, ← hj, show i + 1 + 1 - (i + 1) = 0 + 1 by omega, rowA_succ (j := 0) hy]
      refine Prod.ext ?_ rfl
      dsimp only [List.map_cons, List.map_nil]
      rw [show i + 1 - i / per * per = per by rw [Nat.succ_mul] at hj; omega]
      rfl
theorem plain_eq {xs : List Str} {P : Int} (hn : xs.length ≤ 12) (hn1 : 1 ≤ xs.length) : numberedRows (xs.map (Txt.ljust · (wid xs : Int))) P = lawPlain xs P := by
  unfold numberedRows lawPlain
  simp only [List.length_map]
  have hPI : 1 ≤ lawPer xs xs.length P := by unfold lawPer; omega
  generalize hper : (lawPer xs xs.length P).toNat = per
  have hp1 : 1 ≤ per := by omega
  have hpi : lawPer xs xs.length P = (per : Int) := by omega
  obtain ⟨i, hi⟩ : ∃ i, xs.length = i + 1 := ⟨xs.length - 1, by omega⟩
  have h := nst_eq (xs := xs) (P := P) (n := xs.length) (W := wid xs) (per := per) rfl (by omega) rfl hp1 (by
    intro j hj
    have e : ((per : Int) = max 1 (Int.fdiv (P - (((strI (xs.length : Int)).length : Int) + 2)) ((wid xs : Int) + 1))) := by rw [← hpi]; rfl
    rw [Int.fdiv_eq_ediv_of_nonneg _ (by omega)] at e
    have h2 := Int.le_ediv_iff_mul_le (a := (j : Int) + 1) (b := P - (((strI (xs.length : Int)).length : Int) + 2)) (c := (wid xs : Int) + 1) (by omega)
    have e3 : (((strI (xs.length : Int)).length + 2 + (j + 1) * (wid xs + 1) : Nat) : Int) = ((strI (xs.length : Int)).length : Int) + 2 + ((j : Int) + 1) * ((wid xs : Int) + 1) := by
      simp only [Int.natCast_add, Int.natCast_mul]; rfl
    rw [e3]
    omega) i (by omega)
  rw [← hi] at h
  rw [h]
  dsimp only
  have ht : turns xs.length per = i / per + 1 := by
    unfold turns
    rw [show xs.length + per - 1 = i + per by omega, Nat.add_div_right _ (by omega)]
  have hd := Nat.div_mul_le_self i per
  have hd2 := Nat.lt_div_mul_add (a := i) (b := per) (by omega)
  rw [ht, lpTo, List.range_succ, List.map_append, hpi]
  have hmul : ∀ k, k < i / per + 1 → k * per ≤ xs.length := by
    intro k hk
    have := Nat.mul_le_mul_right per (Nat.le_of_lt_succ hk)
    omega
  congr 1
  · refine List.map_congr_left fun k hk => ?_
    rw [List.mem_range] at hk
    rw [Int.toNat_natCast, lpRow_eq (by omega) (hmul k (by omega))]; rfl
  · simp only [List.map_cons, List.map_nil]
    rw [Int.toNat_natCast, lpRow_eq (by omega) (hmul _ (by omega)), Int.toNat_natCast]
    congr 1
    unfold rowA
    congr 1
    refine List.take_eq_take_iff.mpr ?_
    rw [List.length_drop]
    omega
/-- a text of a named row -/
theorem ln_fold {W : Nat} : ∀ (l : List Str) (cur : Str), l ≠ [] → l.foldl (lnStep W) cur = cur ++ (Txt.join (Str.ofString " ") (l.map (Txt.rjust · (W : Int))) ++ Str.ofString " ") := by
  intro l
  induction l with
  | nil => intro cur h; exact absurd rfl h
  | cons x r ih =>
    intro cur _
    have e : lnStep W cur x = cur ++ (Txt.rjust x (W : Int) ++ Str.ofString " ") := by
      unfold lnStep; rw [rjust_eq]
    have hj : ∀ l, Txt.join (Str.ofString " ") l = Str.join (Str.ofString " ") l := fun l => StrLaws.glued_eq_join _ l
    cases r with
    | nil =>
      rw [List.foldl_cons, List.foldl_nil, e, hj]; rfl
    | cons y r =>
      rw [List.foldl_cons, ih _ (by simp), e, hj, hj]
      show _ = cur ++ ((Txt.rjust x (W : Int) ++ Str.ofString " " ++ Str.join (Str.ofString " ") _) ++ Str.ofString " ")
      simp only [app_assoc]
theorem wid_app (xs ns : List Str) : (wid (xs ++ ns) : Int) = max (wid xs : Int) (wid ns : Int) := by
  have h1 : wid (xs ++ ns) ≤ max (wid xs) (wid ns) := wid_le fun z hz => by
    rcases List.mem_append.mp hz with hz | hz
    · exact Nat.le_trans (wid_ge z hz) (Nat.le_max_left _ _)
    · exact Nat.le_trans (wid_ge z hz) (Nat.le_max_right _ _)
  have h2 : wid xs ≤ wid (xs ++ ns) := wid_le fun z hz => wid_ge z (List.mem_append_left _ hz)
  have h3 : wid ns ≤ wid (xs ++ ns) := wid_le fun z hz => wid_ge z (List.mem_append_right _ hz)
  omega
theorem named_row_eq {xs : List Str} {W i : Nat} {PI : Int} (h0 : 1 ≤ PI) (h : i * PI.toNat < xs.length) : namedRow xs (W : Int) PI i = lnRow xs W PI (i * PI.toNat) := by
  unfold namedRow lnRow
  rw [ln_fold _ _ (by
    rw [pick_at (by omega) (by omega)]
    intro e
    have := congrArg List.length e
    rw [List.length_take, List.length_drop] at this
    simp at this
    omega)]
  apply str_ext
  rw [toList_append (Str.ofString ""), toList_empty]
  rfl
theorem named_eq {xs ns : List Str} {P : Int} (hl : ns.length = xs.length) : namedRows xs ns P = lawNamed xs ns P := by
  unfold namedRows lawNamed namedTo lnTo
  have e : namedPer xs ns P = lnPer xs ns P := by
    unfold namedPer lnPer namedCol
    rw [wid_app]; omega
  have hP : 1 ≤ lnPer xs ns P := by unfold lnPer; omega
  rw [e]
  have e2 : namedCol xs ns = (wid (xs ++ ns) : Int) := by rw [wid_app]; rfl
  rw [e2, List.flatMap_def, List.flatMap_def]
  congr 1
  refine List.map_congr_left fun k hk => ?_
  have hk := turns_lt (by omega) (List.mem_range.mp hk)
  rw [named_row_eq hP (by omega), named_row_eq hP hk]
theorem levels_eq {xs : List Str} {o : Bool} {P : Int} : levelsRow xs o P = lawLevG xs o (lvState xs (P - 15)).2 := by
  unfold levelsRow
  have hb := lv_bounds xs (P - 15)
  generalize (lvState xs (P - 15)).2 = g at *
  have hj : ∀ l, Txt.join (lvSep o) l = Str.join (lvSep o) l := fun l => StrLaws.glued_eq_join _ l
  have he : ∀ x : Str, Str.empty ++ x = x := fun x => str_ext (by rw [toList_append]; rfl)
  unfold levelsRowG lawLevG
  by_cases h1 : (xs.length : Int) ≤ 1 ∨ g = (xs.length : Int)
  · have h1' : ((xs.length : Int) < 2 ∨ g = (xs.length : Int)) := by omega
    rw [if_pos h1, if_pos h1']
  · have h1' : ¬ ((xs.length : Int) < 2 ∨ g = (xs.length : Int)) := by omega
    rw [if_neg h1, if_neg h1']
    by_cases h2 : g < 2
    · have h3 : ¬ (1 < max 1 g) := by omega
      rw [if_neg h3, if_pos h2, he]
      have e : lvCut xs g = [xs.getD 0 Str.empty, Str.ofString "..."] := by
        unfold lvCut
        rw [pick_to (by omega) (by omega), show (max 1 (max 1 g - 1)).toNat = 1 by omega]
        cases xs with
        | nil => simp at h1
        | cons x r => rfl
      rw [e, hj]
      show _ ++ (_ ++ lvSep o ++ _) = _
      simp only [app_assoc]
      rfl
    · have h3 : 1 < max 1 g := by omega
      rw [if_pos h3, if_neg h2, he]
      unfold lvCut
      rw [show max 1 (max 1 g - 1) = g - 1 by omega, List.append_assoc, show ((xs.length : Int) - 1) = -1 + (xs.length : Int) by omega]
      rfl
section
open PySem.SeqAt
theorem all_true (n : Nat) : ((List.range n).all fun _ => true) = true := by simp
section
variable {prog : Program} {w : World} {A : Around} {E : Value → Shared → Prop} {s : Shared} {h₀ : Heap} {L : Addr} {m : Str → Option Value} {news : Led}
theorem eqAt_refs {a b : Addr} (h : RcAt A s (.ref a) (.ref b) true) : EqAt A s (.ref a) (.ref b) true := by
  by_cases e : a = b
  · subst e; exact EqAt.same _
  · exact EqAt.of_refs e h
theorem strs_items {v1 v2 : List Value} {ys : List Str} (h1 : StrsAre v1 ys) (h2 : StrsAre v2 ys) : ∀ j (j1 : j < v1.toArray.size) (j2 : j < v2.toArray.size), EqAt A s v1.toArray[j] v2.toArray[j] ((fun _ => true) j) := by
  intro j j1 j2
  obtain ⟨y, t, e1, hy⟩ := h1.item j (v1.toArray[j]) (by simp)
  obtain ⟨y', t', e2, hy'⟩ := h2.item j (v2.toArray[j]) (by simp)
  rw [hy] at hy'
  cases hy'
  rw [e1, e2]
  have x := EqAt.str_str (A := A) (s := s) y t y t'
  rwa [beq_self_eq_true] at x
theorem eqAt_strs {D1 D2 : Addr} {v1 v2 : List Value} {n1 n2 : Nat} {ys : List Str} (N : News h₀ L s.heap news) (m1 : (D1, listOf v1.toArray n1) ∈ news) (m2 : (D2, listOf v2.toArray n2) ∈ news) (h1 : StrsAre v1 ys) (h2 : StrsAre v2 ys) (hu : A.units < cLine) :
    EqAt A s (.ref D1) (.ref D2) true := by
  have x := RcAt.lists (A := A) (e := fun _ => true) (News.isList N m1) (News.isList N m2) (by simp [h1.len_eq, h2.len_eq]) hu (strs_items h1 h2)
  rw [all_true] at x
  exact eqAt_refs x
theorem eqAt_same_list {D1 D2 : Addr} {vs : List Value} {n1 n2 : Nat} (N : News h₀ L s.heap news) (m1 : (D1, listOf vs.toArray n1) ∈ news) (m2 : (D2, listOf vs.toArray n2) ∈ news) (hu : A.units < cLine) :
    EqAt A s (.ref D1) (.ref D2) true := by
  have x := RcAt.lists (A := A) (e := fun _ => true) (News.isList N m1) (News.isList N m2) rfl hu (fun j _ _ => EqAt.same _)
  rw [all_true] at x
  exact eqAt_refs x
/-- two lists of the same strs are not unlike -/
theorem ne_strs {D1 D2 : Addr} {v1 v2 : List Value} {n1 n2 : Nat} {ys : List Str} {Q : Value → Shared → Prop} (N : News h₀ L s.heap news) (m1 : (D1, listOf v1.toArray n1) ∈ news) (m2 : (D2, listOf v2.toArray n2) ∈ news) (h1 : StrsAre v1 ys) (h2 : StrsAre v2 ys)
    (hu : A.units < cLine) (h : Q (.bool false) s) : wpAny (model prog w) A (compareOp .NotEq (.ref D1) (.ref D2)) Q E s := by
  have x := RcNeAt.lists (A := A) (e := fun _ => true) (News.isList N m1) (News.isList N m2) (by simp [h1.len_eq, h2.len_eq]) hu (strs_items h1 h2)
  rw [all_true] at x
  exact x prog w E Q h
theorem tup_isTuple {a : Addr} {k : Value} {q : Addr} (N : News h₀ L s.heap news) (hm : (a, tupO k q) ∈ news) : s.heap.IsTuple a #[k, .ref q] := ⟨_, (N _ hm).1, rfl, _, rfl⟩
theorem eqAt_seen {u1 u2 q1 q2 : Addr} {x : Str} {t1 t2 : Tok} {n1 n2 : Nat} {v1 v2 : List Value} {ys : List Str} (N : News h₀ L s.heap news) (a1 : (u1, tupO (.str x t1) q1) ∈ news) (a2 : (u2, tupO (.str x t2) q2) ∈ news)
    (m1 : (q1, listOf v1.toArray n1) ∈ news) (m2 : (q2, listOf v2.toArray n2) ∈ news) (h1 : StrsAre v1 ys) (h2 : StrsAre v2 ys) (hu : A.units + 1 < cLine) : EqAt A s (.ref u1) (.ref u2) true := by
  have y := RcAt.tuples (A := A) (e := fun _ => true) (tup_isTuple N a1) (tup_isTuple N a2) (Nat.lt_of_succ_lt hu) (fun j j1 j2 => by
    match j, j1 with
    | 0, _ =>
      have z := EqAt.str_str (A := A.in1) (s := s) x t1 x t2
      rwa [beq_self_eq_true] at z
    | 1, _ => exact eqAt_strs N m1 m2 h1 h2 (by rw [units_in1]; exact hu))
  exact eqAt_refs y
inductive SeenRows (led : Led) : List (Str × Value) → List (Str × List Str) → Prop
  | nil : SeenRows led [] []
  | cons {k : Str} {u q : Addr} {t : Tok} {n : Nat} {vs : List Value} {ys : List Str} {kvs : List (Str × Value)} {data : List (Str × List Str)} : (u, tupO (.str (Str.ofString "character") t) q) ∈ led → (q, listOf vs.toArray n) ∈ led → StrsAre vs ys →
      SeenRows led kvs data → SeenRows led ((k, .ref u) :: kvs) ((k, ys) :: data)
theorem SeenRows.mono {led led' : Led} (hs : ∀ p ∈ led, p ∈ led') {kvs : List (Str × Value)} {data : List (Str × List Str)} (h : SeenRows led kvs data) : SeenRows led' kvs data := by
  induction h with
  | nil => exact .nil
  | cons h1 h2 h3 _ ih => exact .cons (hs _ h1) (hs _ h2) h3 ih
theorem SeenRows.keys {led : Led} {kvs : List (Str × Value)} {data : List (Str × List Str)} (h : SeenRows led kvs data) : kvs.map (·.1) = data.map (·.1) := by
  induction h with
  | nil => rfl
  | cons _ _ _ _ ih => simp [ih]
theorem seen_hits (N : News h₀ L s.heap news) (hu : A.units + 2 < cLine) {kb ka : List (Str × Value)} {data : List (Str × List Str)} (hk : (data.map (·.1)).Nodup) (ha : SeenRows news ka data) (hb : SeenRows news kb data) : KeqHits A.in1 s kb ka true := by
  have key : ∀ {kb2 : List (Str × Value)} {data2 : List (Str × List Str)} {ka2 : List (Str × Value)}, SeenRows news ka2 data2 → SeenRows news kb2 data2 → (data2.map (·.1)).Nodup → (∀ k v, k ∈ data2.map (·.1) → valueAt kb2 k = some v → valueAt kb k = some v) → KeqHits A.in1 s kb ka2 true := by
    intro kb2 data2 ka2 h1
    induction h1 generalizing kb2 with
    | nil => intro _ _ _; exact .nil
    | @cons k u q t n vs ys kvs data hu1 hq1 hs1 hr1 ih =>
      intro h2 hn hl
      cases h2 with
      | @cons _ u' q' t' n' vs' _ kvs' _ hu2 hq2 hs2 hr2 =>
        simp only [List.map_cons, List.nodup_cons] at hn
        refine KeqHits.hit (y := .ref u') (e := true) (b := true) (hl _ _ (by simp) (by simp [valueAt])) (eqAt_seen N hu1 hu2 hq1 hq2 hs1 hs2 (by rw [units_in1]; exact hu)) (ih hr2 hn.2 fun k2 v hk hv => hl k2 v (by simp only [List.map_cons, List.mem_cons]; exact .inr hk) ?_)
        have hne : ¬ k = k2 := fun e => hn.1 (e ▸ hk)
        unfold valueAt at hv ⊢
        rw [List.find?_cons_of_neg (by simpa using hne)]
        exact hv
  exact key ha hb hk fun _ _ _ h => h
/-- what a dict of what was seen holds -/
noncomputable def SeenIs (w : World) (D : Addr) (data : List (Str × List Str)) (led : Led) : Prop := ∃ oD kvs, (D, oD) ∈ led ∧ oD.IsDictOf (strKind prg w) kvs ∧ (D == sysModules) = false ∧ SeenRows led kvs data
theorem SeenIs.mono {w : World} {D : Addr} {data : List (Str × List Str)} {led led' : Led} (hs : ∀ p ∈ led, p ∈ led') (h : SeenIs w D data led) : SeenIs w D data led' :=
  let ⟨oD, kvs, h1, h2, h3, h4⟩ := h; ⟨oD, kvs, hs _ h1, h2, h3, h4.mono hs⟩
theorem seen_eq {D1 D2 : Addr} {data : List (Str × List Str)} {Q : Value → Shared → Prop} (N : News h₀ L s.heap news) (hk : (data.map (·.1)).Nodup) (h1 : SeenIs w D1 data news) (h2 : SeenIs w D2 data news) (hu : A.units + 2 < cLine) (h : Q (.bool true) s) :
    wpAny (model prg w) A (richCompare .Eq (.ref D1) (.ref D2)) Q E s := by
  obtain ⟨o1, k1, m1, d1, s1, r1⟩ := h1
  obtain ⟨o2, k2, m2, d2, s2, r2⟩ := h2
  have hl : k1.length = k2.length := by
    have e := congrArg List.length (r1.keys.trans r2.keys.symm)
    simpa using e
  exact keq_pairs N m1 m2 d1 d2 s1 s2 hl (Nat.lt_of_succ_lt (Nat.lt_of_succ_lt hu)) (seen_hits N hu hk r1 r2) h
theorem eqBool_refs {a b : Addr} {Q : Bool → Shared → Prop} (hc : ∀ Q : Value → Shared → Prop, Q (.bool true) s → wpAny (model prog w) A (richCompare .Eq (.ref a) (.ref b)) Q E s) (h : Q true s) : wpAny (model prog w) A (eqBool (.ref a) (.ref b)) Q E s := by
  unfold eqBool
  refine wpAny_holding ?_
  refine wpAny_ite_split (fun _ => ?_) (fun _ => ?_)
  · exact wpAny_bind (wpAny_rule (wpAny_pure h))
  · exact wpAny_bind (hc _ (wpAny_truthy_bool h))
/-- two tuples of two are alike if their items are -/
theorem tup_eq2 {a b : Addr} {x1 x2 y1 y2 : Value} {Q : Value → Shared → Prop} (ha : s.heap.IsTuple a #[x1, x2]) (hb : s.heap.IsTuple b #[y1, y2]) (hu : A.units < cLine)
    (h1 : ∀ (E : Value → Shared → Prop) (Q : Bool → Shared → Prop), Q true s → wpAny (model prog w) A.in1 (eqBool x1 y1) Q E s)
    (h2 : ∀ (E : Value → Shared → Prop) (Q : Bool → Shared → Prop), Q true s → wpAny (model prog w) A.in1 (eqBool x2 y2) Q E s) (h : Q (.bool true) s) :
    wpAny (model prog w) A (compareOp .Eq (.ref a) (.ref b)) Q E s := by
  obtain ⟨⟨cls, dd, data, sl⟩, ho, hc, n, hd⟩ := id ha
  obtain ⟨⟨cls2, dd2, data2, sl2⟩, ho2, hc2, n2, hd2⟩ := id hb
  simp only at hc hd hc2 hd2
  subst hc hd hc2 hd2
  refine wpAny_richCompare_same_room (op := .Eq) ⟨_, ho, rfl⟩ ⟨_, ho2, rfl⟩ PySem.F.slot_tuple_eq (wpAny_call_entry PySem.F.slot_tuple_eq ⟨_, ho, rfl⟩ PySem.F.entry_tuple_eq ?_ (PySem.F.args_tuple_eq_2 _ _)) hu
  obtain ⟨hp, g, d, tk, os⟩ := s
  have f2 := AutoSeq1.sub_tuple_tuple
  wp_walk using AutoSeq1.wpAny_loadPart' ho, AutoSeq1.wpAny_loadPart' ho2, wpAny_forIn_list _ (fun rest b s' => b.1 = none ∧ s' = ⟨hp, g, d, tk, os⟩ ∧ (rest = [(x1, y1), (x2, y2)] ∨ rest = [(x2, y2)] ∨ rest = [])) _
  case turn =>
    rintro ⟨y, x⟩ rest b s' ⟨hb', rfl, hr⟩
    rcases hr with hr | hr | hr
    · cases hr
      refine wpAny_bind (h1 _ _ ?_)
      wp_walk
      exact ⟨rfl, rfl, .inr (.inl rfl)⟩
    · cases hr
      refine wpAny_bind (h2 _ _ ?_)
      wp_walk
      exact ⟨rfl, rfl, .inr (.inr rfl)⟩
    · cases hr
  case fin =>
    rintro ⟨b1, b2⟩ s' ⟨hb', rfl, _⟩
    simp only at hb'
    subst hb'
    wp_walk
    exact ⟨_, rfl, show Value.bool true ≠ Value.notImplemented ∧ Q (.bool true) _ from ⟨(fun x => nomatch x), h⟩⟩
  case h =>
    exact ⟨rfl, rfl, .inl rfl⟩
end
end
/-- a made Vector, somewhere in the ledger -/
noncomputable def VecAt (w : World) (x : Addr) (k : Str) (i : Value) (all : Led) : Prop := ∃ d t t1 t2 t3 t4 t5 n, (x, instObj 236 d) ∈ all ∧ (d, dictOf (vecD w (.str k t) i .none t1 t2 t3 t4 t5) n) ∈ all
theorem VecAt.mono {w : World} {x : Addr} {k : Str} {i : Value} {l l' : Led} (hs : ∀ p ∈ l, p ∈ l') (h : VecAt w x k i l) : VecAt w x k i l' :=
  let ⟨d, t, t1, t2, t3, t4, t5, n, h1, h2⟩ := h; ⟨d, t, t1, t2, t3, t4, t5, n, hs _ h1, hs _ h2⟩
section
variable {w : World} {dp un : Nat} {gd : Option (List Code)} {cn : Str} {cs : Scope} {a : Addr} {ccd : Value} {cl : List (Str × Addr)} {outer : List Env} {A₀ : Around} {base h₀ : Heap} {L : Addr} {m : Str → Option Value} {s : Shared}
    {loose : List Str} {mean : ExcName → Option Value} {mg mb : Str → Option Value} {full rest : Led} {Q E : Value → Shared → Prop}
theorem useNext {r : Addr} {vs : List Value} {n : Nat} (F : Fr h₀ L s.heap m) (B : Below A₀ base outer h₀) (X : (Mine.hd.heap_39 w.params).In h₀) (N : News h₀ L s.heap full) (T : Top Mine.hd.view_39 loose mean mg mb h₀) (hk : cs.kind = .function)
    (S : Rem (r, listOf vs.toArray n) full rest) (hrow : RowIs vs) (hd : dp + 1 < recursionLimit) (hu : un + 80 < cLine) (hm : ∀ p ∈ rest, p.1 ≠ r)
    (h : ∀ x t vs' n' h' tk', RowIs vs' → Fr h₀ L h' m → News h₀ L h' ((r, listOf vs'.toArray n') :: rest) → Q (.int x t) { s with heap := h', toks := tk' }) :
    wpAny (model prg w) (ktrTop dp un gd cn cs L a ccd cl outer) (call (.ref 307) [.ref r]) Q E s := by
  refine Calls.use F B X N T hk (Sel.cons S .nil) (nextA_calls w hrow) hd hu (fun b hb => by rw [List.mem_singleton.mp hb]; exact hm) ?_
  rintro v new pre' h' tk' ⟨rfl, x, t, vs', n', rfl, rfl, hr⟩ _ F' N'
  exact h x t vs' n' h' tk' hr F' N'
theorem useWord {r : Addr} {vs : List Value} {n : Nat} (F : Fr h₀ L s.heap m) (B : Below A₀ base outer h₀) (X : (Mine.hd.heap_39 w.params).In h₀) (N : News h₀ L s.heap full) (T : Top Mine.hd.view_39 loose mean mg mb h₀) (hk : cs.kind = .function)
    (S : Rem (r, listOf vs.toArray n) full rest) (hrow : RowIs vs) (hd : dp + 2 < recursionLimit) (hu : un + 100 < cLine) (hm : ∀ p ∈ rest, p.1 ≠ r)
    (h : ∀ y t vs' n' h' tk', RowIs vs' → Letters y → y.length ≤ 7 → Fr h₀ L h' m → News h₀ L h' ((r, listOf vs'.toArray n') :: rest) → Q (.str y t) { s with heap := h', toks := tk' }) :
    wpAny (model prg w) (ktrTop dp un gd cn cs L a ccd cl outer) (call (.ref 317) [.ref r]) Q E s := by
  refine Calls.use F B X N T hk (Sel.cons S .nil) (wordA_calls w hrow) hd hu (fun b hb => by rw [List.mem_singleton.mp hb]; exact hm) ?_
  rintro v new pre' h' tk' ⟨rfl, y, t, vs', n', rfl, rfl, hr, hl, hn⟩ _ F' N'
  exact h y t vs' n' h' tk' hr hl hn F' N'
theorem useVecF {k : Str} {t : Tok} {l : Addr} (F : Fr h₀ L s.heap m) (B : Below A₀ base outer h₀) (X : (Mine.hd.heap_39 w.params).In h₀) (N : News h₀ L s.heap full) (T : Top Mine.hd.view_39 loose mean mg mb h₀) (hk : cs.kind = .function)
    (hd : dp + 2 < recursionLimit) (hu : un + 100 < cLine)
    (h : ∀ x d t1 t2 t3 t4 t5 h' tk', Dist d x → OffD x full → OffD d full → Fr h₀ L h' m → News h₀ L h' ((x, instObj 236 d) :: (d, dictOf [{ hash := PyData.keyHash w.params (Str.ofString "kind"), key := .str (Str.ofString "kind") t1, val := .str k t }, { hash := PyData.keyHash w.params (Str.ofString "items"), key := .str (Str.ofString "items") t2, val := .ref l },
  { hash := PyData.keyHash w.params (Str.ofString "attrs"), key := .str (Str.ofString "attrs") t3, val := .none }, { hash := PyData.keyHash w.params (Str.ofString "shared"), key := .str (Str.ofString "shared") t4, val := .bool false }, { hash := PyData.keyHash w.params (Str.ofString "loose"), key := .str (Str.ofString "loose") t5, val := .bool false }] 5) :: full) → Q (.ref x) { s with heap := h', toks := tk' }) :
    wpAny (model prg w) (ktrTop dp un gd cn cs L a ccd cl outer) (call (.ref 236) [.str k t, .ref l]) Q E s := by
  refine Calls.use F B X N T hk .nil (vec_calls w) hd hu (fun b hb => nomatch hb) ?_
  rintro v new pre' h' tk' ⟨x, d, t1, t2, t3, t4, t5, rfl, rfl, rfl⟩ hf F' N'
  exact h x d t1 t2 t3 t4 t5 h' tk' hf.1.1 hf.1.2 hf.2.1 F' N'
theorem useVecO {k : Str} {t : Tok} {l : Addr} (F : Fr h₀ L s.heap m) (B : Below A₀ base outer h₀) (X : (Mine.hd.heap_39 w.params).In h₀) (N : News h₀ L s.heap full) (T : Top Mine.hd.view_39 loose mean mg mb h₀) (hk : cs.kind = .function)
    (hd : dp + 2 < recursionLimit) (hu : un + 100 < cLine)
    (h : ∀ x d ox od h' tk', VecAt w x k (.ref l) [(x, ox), (d, od)] → Dist d x → OffD x full → OffD d full → Fr h₀ L h' m → News h₀ L h' ((x, ox) :: (d, od) :: full) → Q (.ref x) { s with heap := h', toks := tk' }) :
    wpAny (model prg w) (ktrTop dp un gd cn cs L a ccd cl outer) (call (.ref 236) [.str k t, .ref l]) Q E s :=
  useVecF F B X N T hk hd hu fun x d t1 t2 t3 t4 t5 h' tk' h1 h2 h3 F' N' => h x d _ _ h' tk' ⟨d, t, t1, t2, t3, t4, t5, 5, m0, m1⟩ h1 h2 h3 F' N'
end
theorem cls_cut {M : Model} {A : Around} {E : Value → Shared → Prop} {s : Shared} {o : Bool} {t1 t2 : Sem Value} {Q : Value → Shared → Prop} {h₀ : Heap} {L : Addr} {m : Str → Option Value} {news : Led} (h1 : o = true → wpAny M A t1 (ClsEnd h₀ L m news o s) E s) (h2 : o = false → wpAny M A t2 (ClsEnd h₀ L m news o s) E s)
    (h : ∀ D cls k h' tk, ClsIs o cls → Fr h₀ L h' m → News h₀ L h' ((D, listOf cls.toArray k) :: news) → AllLt D news → Q (.ref D) { s with heap := h', toks := tk }) : if o = true then wpAny M A t1 Q E s else wpAny M A t2 Q E s :=
  ite_cut (ClsEnd h₀ L m news) h1 h2 fun v s' ⟨D, cls, k, h', tk, e1, hc, e2, F, N, hl⟩ => by subst e1; subst e2; exact h D cls k h' tk hc F N hl
theorem clsEnd1 {h₀ : Heap} {L : Addr} {m : Str → Option Value} {news : Led} {o : Bool} {s : Shared} {D : Addr} {u1 u2 : Tok} {k : Nat} {h' : Heap} {tk : Nat} (ho : o = true) (F : Fr h₀ L h' m) (N : News h₀ L h' ((D, listOf [Value.str (Str.ofString "ordered") u1, Value.str (Str.ofString "factor") u2].toArray k) :: news)) (hl : AllLt D news) :
    ClsEnd h₀ L m news o s (.ref D) { s with heap := h', toks := tk } := ⟨D, _, k, h', tk, rfl, .inl ⟨ho, u1, u2, rfl⟩, rfl, F, N, hl⟩
theorem clsEnd2 {h₀ : Heap} {L : Addr} {m : Str → Option Value} {news : Led} {o : Bool} {s : Shared} {D : Addr} {u2 : Tok} {k : Nat} {h' : Heap} {tk : Nat} (ho : o = false) (F : Fr h₀ L h' m) (N : News h₀ L h' ((D, listOf [Value.str (Str.ofString "factor") u2].toArray k) :: news)) (hl : AllLt D news) :
    ClsEnd h₀ L m news o s (.ref D) { s with heap := h', toks := tk } := ⟨D, _, k, h', tk, rfl, .inr ⟨ho, u2, rfl⟩, rfl, F, N, hl⟩
theorem words_SG : True := by
  k_with_none
  k_with "call builtin:list.pop" => (k_here; k_dflt (refine' kl_pop ?zqF ?zqN (kl_last_snoc _ _) ?zqU ?zqZ ?_; (case zqF => k_asm); (case zqN => k_asm); (case zqU => k_upd); (case zqZ => (simp only [sizeLine_eq]; simp only [List.length_append, List.length_singleton]; lia)); k_whole; intro h' F' N'))
  k_with "CompSrc" => (refine Stop.mk ?_)
  k_with "eval ListComp" => (k_here; k_dflt (refine LCg.ListComp_U (F₀ := by k_asm) (by with_unfolding_all rfl) (by decide) (by rfl) (by decide) (by rfl) ?_))
  k_with "sel" => first | exact Sel.nil | (refine' Sel.cons ?zqsl1 ?zqsl2; (case zqsl1 => walk_at "rem"); (case zqsl2 => walk_at "sel"))
  k_with "rem" => first | exact Rem.head | (refine' Rem.tail ?zqrm1; (case zqrm1 => walk_at "rem"))
  k_with "apart" => first | exact List.forall_mem_nil _ | (refine List.forall_mem_cons.mpr ⟨by k_all, ?_⟩; walk_at "apart")
  k_with "CompEnd" => (refine Stop.mk ?_)
  k_with "call builtin:str.join" => (k_here; k_dflt (refine join_led (by k_asm) (by k_mem) (by first | assumption | walk_at "strs") (by first | assumption | decide +kernel) (by first | assumption | walk_at "joinsum") ?_); intro _ _)
  k_with "led" => ((try dsimp only); (try simp only [List.cons_append, List.nil_append]); kcf_all)
  k_with "pyIter ref" => (k_here; refine Stop.mk ?_)
  k_with "exec For" => (k_here; k_dflt (refine For_invVF (by k_asm) (by rfl) (by rfl) ?_))
  k_with "kept" => (intro z9 h91 h92 h93; (try simp only [List.contains_cons, List.contains_nil, Bool.or_false, Bool.or_eq_false_iff, beq_eq_false_iff_ne, ne_eq] at h93); simp [lmap, kstB, h91, h93])
  k_with "held" => first | exact List.forall_mem_nil _ | (refine List.forall_mem_cons.mpr ⟨rfl, ?_⟩; walk_at "held")
  k_with "call builtin:list.append" => (k_here; k_dflt (refine' append_K ?zqk1 ?zqk2 ?zqk3 ?_ ?zqz; (case zqk1 => k_asm); (case zqk2 => k_asm); (case zqk3 => k_upd); (case zqz => first | (simp only [List.size_toArray, sizeLine_eq, List.length_append, List.length_singleton]; lia) | (simp only [List.size_toArray, sizeLine_eq, List.length_append, List.length_singleton]; refine Nat.le_trans (Nat.add_le_add_right (kpick_len _ _ _) _) ?_; lia)); k_whole); intro h' F' N'; (try simp only [List.push_toArray] at N'); (try k_sweep))
  k_with "call builtin:list.reverse" => (k_here; k_dflt (refine' kl_reverse ?zqF ?zqN ?zqe ?zqU ?zqz ?_; (case zqF => k_asm); (case zqN => k_asm); (case zqU => k_upd); (case zqe => exact (rfl : _ = List.reverse _)); (case zqz => (show List.length _ ≤ _; rw [IntsAre.length (by assumption)]; simp only [sizeLine_eq]; lia)); k_whole); intro h' F' N')
  k_with "below" => ((try simp only [List.cons_append, List.nil_append, AllLt, and_true]); first | assumption | exact allLt_iff.mpr (by assumption) | exact And.right (by assumption) | exact And.right (And.right (by assumption)) | exact And.right (And.right (And.right (by assumption))) | exact And.right (And.right (And.right (And.right (by assumption)))))
  k_with "exec For Name Name cons nil" => (k_here; k_dflt (refine For_invVF (by k_asm) (by rfl) (by rfl) ?_))
  k_with "exec For Name Name" => (k_here; k_dflt (refine For_invVF (by k_asm) (by rfl) (by rfl) ?_))
  k_with "exec For Name Call cons nil" => (k_here; k_dflt (refine For_invVF (by k_asm) (by rfl) (by rfl) ?_))
  k_with "exec For Name Call" => (k_here; k_dflt (refine For_invVF (by k_asm) (by rfl) (by rfl) ?_))
  k_with "exec For Name Attribute cons nil" => (k_here; k_dflt (refine For_invVF (by k_asm) (by rfl) (by rfl) ?_))
  k_with "exec For Name Attribute" => (k_here; k_dflt (refine For_invVF (by k_asm) (by rfl) (by rfl) ?_))
  k_with "exec For Name Subscript cons nil" => (k_here; k_dflt (refine For_invVF (by k_asm) (by rfl) (by rfl) ?_))
  k_with "exec For Name Subscript" => (k_here; k_dflt (refine For_invVF (by k_asm) (by rfl) (by rfl) ?_))
  k_with "exec For Name List cons nil" => (k_here; k_dflt (refine For_invVF (by k_asm) (by rfl) (by rfl) ?_))
  k_with "exec For Name List" => (k_here; k_dflt (refine For_invVF (by k_asm) (by rfl) (by rfl) ?_))
  k_with "call builtin:len" => (k_here; k_dflt (first | (refine P.len_str (by lia) ?_) | (refine len_led (by k_asm) (by k_mem) (by lia) ?_)))
  k_with "call builtin:str.rjust" => (k_here; k_dflt (refine SC.rjust (padOk_of (by lia) (by lia)) ?_); intro _ _)
  k_with "call builtin:str.ljust" => (k_here; k_dflt (refine SC.ljust (padOk_of (by lia) (by lia)) ?_); intro _ _)
  k_with "srcat" => exact Or.inr ⟨_, by k_mem, rfl, _, rfl⟩
  k_with "FinE" => ((unfold LCg.FinE); intro D' h' tk' F' N' o1'; (replace o1' := offD_of o1'); (try simp only [OffD, and_true] at o1'); (repeat (obtain ⟨o2', o1'⟩ := o1')); (try simp only [List.nil_append, List.cons_append] at N'); (try dsimp only))
  k_with "fresh" => ((simp only [FreshOver, OffD, List.nil_append, List.cons_append, and_true]); (repeat' (refine And.intro ?_ ?_)); all_goals first | assumption | exact Dist.symm (by assumption) | exact lt_off (by assumption) | exact allLt_off (by assumption) | exact allLt_off (And.right (by assumption)) | exact allLt_off (And.right (And.right (by assumption))) | exact allLt_off (And.right (And.right (And.right (by assumption)))) | exact Dist.of (by lia))
  k_with "subscriptTail" => (k_here; (with_reducible show wpAny _ _ (subscriptTail _ _ (Value.ref _) (Value.int _ _)) _ _ _); k_dflt (refine item_led (by k_asm) (by k_mem) (by lia) (by lia) (by assumption) ?_))
  k_with "binaryOp Add str str" => (k_here; (with_reducible show wpAny _ _ (binaryOp Operator.Add (Value.str _ _) (Value.str _ _)) _ _ _); (refine PyProof.Rows.add_str (hsz := ?zqhz9) ?_); (case zqhz9 => first | (simp only [Str.length_append, sizeLine_eq]; lia) | walk_at "addlen"); intro _ _)
  k_with "subscriptTail Name Name ref int" => (k_here; k_dflt (refine item_led (by k_asm) (by k_mem) (by lia) (by lia) (by assumption) ?_))
  k_with "call builtin:max" => (k_here; k_dflt (refine max_ints rfl (by k_asm) (by k_asm) ?_); intro h' tk' t' F' N'; (try k_sweep))
  k_with "call type:range" => (k_here; (with_reducible show wpAny _ _ (call _ [_, _, _]) _ _ _); k_dflt (refine range3_rows (by k_asm) (by k_asm) (by lia) ?_ (Or.inl (PyProof.noPylong_small (by lia)))); intro h' tk' t₁ u₁ v₁ r' F' N' k')
  k_with "FinA" => ((unfold LCg.FinA); intro D' h' tk' F' N' o1'; (replace o1' := offD_of o1'); (try simp only [OffD, and_true] at o1'); (repeat (obtain ⟨o2', o1'⟩ := o1')); (try simp only [List.nil_append, List.cons_append] at N'); (try dsimp only))
  k_with "exec Assign cons ListComp" => (k_here; k_dflt (refine LCg.Assign_ListComp_U (F₀ := by k_asm) (by rfl) (by with_unfolding_all rfl) (by with_unfolding_all rfl) (by decide) (by rfl) (by decide) (by rfl) (by rfl) (by rfl) ?_))
  k_with "ite" => (refine ite_strs ?_)
  k_with "units_room" => (((try simp only [units_under_make, units_in1, units_deeper, Around.mark_units, units_caller]); (try dsimp only [ktrTop]); (try simp only [units_under_make, units_in1, units_deeper, Around.mark_units, units_caller]); lia))
  k_with "k_room" => (((try simp only [depth_under_make, depth_under_kw, depth_in1, depth_deeper, depth_caller]); (try dsimp only [ktrTop]); lia))
  k_with "k_units" => (units_room)
  k_with "k_all" => (first | assumption | exact off1_ne (by assumption) | exact off1_ne (off3_I (by assumption)) | exact off1_ne (off3_C (by assumption)) | exact off1_ne (off3_D (by assumption)) | exact lt_ne (by assumption) | exact allLt_ne (by assumption) | exact allLt_ne (And.right (by assumption)) | exact allLt_ne (And.right (And.right (by assumption))) | exact allLt_ne (And.right (And.right (And.right (by assumption)))))
  k_with "k_ne" => (first | exact Dist.ne (by assumption) | exact Dist.ne (Dist.symm (by assumption)))
  k_with "led" => ((try dsimp only [vecL, vecD, ent]); (try simp only [List.cons_append, List.nil_append, List.append_nil]); kcf_all)
  k_with "fresh" => first | exact freshL (by assumption) | exact freshL (offD_tail (by assumption)) | exact freshL (offD_sub (by assumption) (by walk_at "led")) | exact freshL (allLt_off (allLt_sub (by assumption) (by walk_at "led")))
  k_with "backL" => (k_whole; intro D' ys' k' h' tk' hys' hof' F' N'; (try dsimp only))
  k_with "backT" => (k_whole; intro t' h' tk' F' N'; (try dsimp only))
  k_with "backV" => (k_whole; intro h' tk' F' N'; (try dsimp only))
  k_with "offD" => first | assumption | exact offD_sub (by assumption) (by walk_at "led") | exact allLt_off (allLt_sub (by assumption) (by walk_at "led"))
  k_with "k_lt" => skip
  k_with "k_all" => (first | exact allLt_ne (by assumption) | exact off1_ne (by assumption) | exact lt_ne (by assumption) | assumption | exact off1_ne (offD_tail (by assumption)) | exact off1_ne (offD_tail (offD_tail (by assumption))))
  k_with "k_ne" => (first | exact Dist.ne (by assumption) | exact Dist.ne (Dist.symm (by assumption)) | exact ne_lt (by assumption) | exact ne_gt (by assumption) | exact ne_gt (And.left (by assumption)) | exact ne_lt (And.left (by assumption)) | exact Dist.ne (And.left (by assumption)) | exact Dist.ne (Dist.symm (And.left (by assumption))) | exact ne_gt (And.left (And.right (by assumption))) | exact ne_lt (And.left (And.right (by assumption))) | (refine neN ?_; (try dsimp only); lia))
  k_with "newTuple" => (k_here; k_dflt (refine' kup_newTuple ?zqF ?zqN ?_ ?zqz; (case zqF => k_asm); (case zqN => k_asm); (case zqz => kmk_size)); intro u9 h' F' N' hu9; (try (replace hu9 := allLt_of hu9)); (try k_sweep))
  k_with "call type:list" => (k_here; (with_reducible show wpAny _ _ (call (Value.type _) [Value.ref _]) _ _ _); k_dflt (refine list_copyK (by k_asm) (by k_asm) (News.isList (by k_asm) (by k_mem)) ?_ (size_ok (by simp only [List.size_toArray]; lia))); k_whole; intro q9 c' h' F' N' hq9; (try (replace hq9 := allLt_of hq9)); (try k_sweep))
  k_with "eval DictComp" => (k_here; k_dflt (refine DictComp_U (F₀ := by k_asm) (by with_unfolding_all rfl) (by decide) (by rfl) (by decide) (by rfl) ?_))
  k_with "DSrc" => (refine Stop.mk ?_)
  k_with "getItem ref str" => (k_here; k_dflt (refine kdt_getItem (knd := PySem.strKind _ _) (by k_asm) (by k_mem) hA (strKind_is _ _ _ _) hval ?_))
  k_with "subscriptTail" => (k_here; (with_reducible show wpAny _ _ (subscriptTail _ _ (Value.ref _) (Value.str _ _)) _ _ _); k_dflt (refine kdt_tail (knd := PySem.strKind _ _) (by k_asm) (by k_mem) hA ?_))
  trivial
theorem nmAll9 {h₀ h : Heap} {L : Addr} {l : Led} {G : Prop} (_ : News h₀ L h l) (k : ∀ l', l' = l → G) : G := k l rfl
theorem mem_of_eq {l l' : Led} {x : Addr × Obj} (e : l = l') (h : x ∈ l') : x ∈ l := e ▸ h
noncomputable def CallsR (w : World) (f : Addr) (args : List Value) (D U : Nat) (pre : Led) (post : Value → Led → Prop) : Prop :=
  ∀ (dp un : Nat) (gd : Option (List Code)) (cn : Str) (cs : Scope) (a : Addr) (ccd : Value) (cl : List (Str × Addr)) (outer : List Env) (A₀ : Around) (base h₀ : Heap) (L : Addr) (m : Str → Option Value) (s : Shared)
    (loose : List Str) (mean : ExcName → Option Value) (mg mb : Str → Option Value) (full : Led) (Q E : Value → Shared → Prop),
    Below A₀ base outer h₀ → Fr h₀ L s.heap m → (Mine.hd.heap_39 w.params).In h₀ → News h₀ L s.heap full → Top Mine.hd.view_39 loose mean mg mb h₀ → cs.kind = .function → (∀ p ∈ pre, p ∈ full) →
    dp + D < recursionLimit → un + U < cLine → (∀ v new h' tk', post v new → Fr h₀ L h' m → News h₀ L h' (new ++ full) → Q v { s with heap := h', toks := tk' }) →
    wpAny (model prg w) (ktrTop dp un gd cn cs L a ccd cl outer) (call (.ref f) args) Q E s
/-- what a dict of Vectors holds -/
inductive VecRows (w : World) (all : Led) : List (Str × Value) → List (Str × List Str) → Prop
  | nil : VecRows w all [] []
  | cons {k : Str} {x l : Addr} {n : Nat} {vs : List Value} {ys : List Str} {kvs : List (Str × Value)} {data : List (Str × List Str)} : VecAt w x (Str.ofString "character") (.ref l) all → (l, listOf vs.toArray n) ∈ all → StrsAre vs ys → vs.length ≤ 12 →
      VecRows w all kvs data → VecRows w all ((k, .ref x) :: kvs) ((k, ys) :: data)
theorem VecRows.keys {w : World} {all : Led} {kvs : List (Str × Value)} {data : List (Str × List Str)} (h : VecRows w all kvs data) : kvs.map (·.1) = data.map (·.1) := by
  induction h with
  | nil => rfl
  | cons _ _ _ _ _ ih => simp [ih]
theorem VecRows.at {w : World} {all : Led} {kvs : List (Str × Value)} {data : List (Str × List Str)} (h : VecRows w all kvs data) : ∀ (i : Nat) (k : Str) (z : Value), kvs[i]? = some (k, z) →
    ∃ x l n vs ys, z = .ref x ∧ VecAt w x (Str.ofString "character") (.ref l) all ∧ (l, listOf vs.toArray n) ∈ all ∧ StrsAre vs ys ∧ vs.length ≤ 12 ∧ data[i]? = some (k, ys) := by
  induction h with
  | nil => intro i k z h; simp at h
  | cons h1 h2 h3 h4 _ ih =>
    intro i k z h
    cases i with
    | zero => simp at h; obtain ⟨rfl, rfl⟩ := h; exact ⟨_, _, _, _, _, rfl, h1, h2, h3, h4, rfl⟩
    | succ i => exact ih i k z (by simpa using h)
theorem valueAt_at : ∀ {kvs : List (Str × Value)} {i : Nat} {k : Str} {z : Value}, (kvs.map (·.1)).Nodup → kvs[i]? = some (k, z) → valueAt kvs k = some z
  | (k', z') :: r, 0, k, z, _, h => by simp at h; obtain ⟨rfl, rfl⟩ := h; simp [valueAt]
  | (k', z') :: r, i + 1, k, z, hn, h => by
    simp only [List.map_cons, List.nodup_cons] at hn
    have h' : r[i]? = some (k, z) := by simpa using h
    have hne : ¬ k' = k := fun e => hn.1 (e ▸ List.mem_map_of_mem (f := (·.1)) (List.mem_of_getElem? h'))
    have ih := valueAt_at hn.2 h'
    unfold valueAt at ih ⊢
    rw [List.find?_cons_of_neg (by simpa using hne)]
    exact ih
theorem SeenRows.snoc {led : Led} {kvs : List (Str × Value)} {data : List (Str × List Str)} (h : SeenRows led kvs data) {k : Str} {u q : Addr} {t : Tok} {n : Nat} {vs : List Value} {ys : List Str} (h1 : (u, tupO (.str (Str.ofString "character") t) q) ∈ led) (h2 : (q, listOf vs.toArray n) ∈ led) (h3 : StrsAre vs ys) :
    SeenRows led (kvs ++ [(k, .ref u)]) (data ++ [(k, ys)]) := by
  induction h with
  | nil => exact .cons h1 h2 h3 .nil
  | cons a b c _ ih => exact .cons a b c ih
theorem stored_new {kvs : List (Str × Value)} {k : Str} {v : Value} (h : k ∉ kvs.map (·.1)) : stored kvs k v = kvs ++ [(k, v)] := by
  unfold stored
  rw [if_neg]
  simp only [List.any_eq_true, decide_eq_true_eq, not_exists, not_and]
  exact fun p hp e => h (e ▸ List.mem_map_of_mem (f := (·.1)) hp)
theorem key_new {data : List (Str × List Str)} (hn : (data.map (·.1)).Nodup) {i : Nat} {k : Str} {ys : List Str} (h : data[i]? = some (k, ys)) : k ∉ (data.take i).map (·.1) := by
  intro hk
  rw [List.map_take] at hk
  obtain ⟨j, hj⟩ := List.mem_iff_getElem?.mp hk
  have hlt : j < i := by
    rcases Nat.lt_or_ge j i with h9 | h9
    · exact h9
    · rw [List.getElem?_take, if_neg (by lia)] at hj; cases hj
  rw [List.getElem?_take, if_pos hlt] at hj
  have h' : (data.map (·.1))[i]? = some k := by rw [List.getElem?_map, h]; rfl
  have hil : i < (data.map (·.1)).length := (List.getElem?_eq_some_iff.mp h').1
  have := (List.getElem?_inj hil hn).mp (h'.trans hj.symm)
  lia
theorem dcomp_inv {prog : Program} {w : World} {A : Around} {h₀ : Heap} {L : Addr} {m : Str → Option Value} {env : Env} {kx vx : Expr} {x : Str} {scope : Scope} {cl : List (Str × Addr)} {s : Shared} {S : Led → Prop} {P : Nat → Value → Prop} {Fin : List (Str × Value) → Led → Prop} {n : Nat} {news : Led}
    (J : Nat → List (Str × Value) → Led → Prop) (h0 : J 0 [] news) (hsz : ∀ i kvs nw, J i kvs nw → kvs.length ≤ 1000)
    (turn : ∀ i kvs nw v I oI C oC D oD m₂ h tk (E' : Value → Shared → Prop), i < n → J i kvs nw → P i v → LCg.NsObj oC m₂ → m₂ x = some v → Fr h₀ L h m → oD.IsDictOf (strKind prog w) kvs → News h₀ L h ((I, oI) :: (C, oC) :: (D, oD) :: nw) → LCg.Off3 I C D nw → ((@Ne Nat I C) ∧ (@Ne Nat I D) ∧ (@Ne Nat C D)) →
      wpAny (model prog w) A (eval kx (compEnvC scope cl C env)) (fun kv s₄ => wpAny (model prog w) A (eval vx (compEnvC scope cl C env)) (DEnd h₀ L m { s with heap := h, toks := tk } I oI C oC D oD S (fun y vv nw' => J (i + 1) (stored kvs y vv) nw') kv) E' s₄) E' { s with heap := h, toks := tk })
    (fin : ∀ kvs nw, J n kvs nw → Fin kvs nw) : DRest prog w A h₀ L m env kx vx x scope cl s S P Fin n 0 [] news := by
  have key : ∀ (j i : Nat) (kvs : List (Str × Value)) (nw : Led), i + j = n → J i kvs nw → DRest prog w A h₀ L m env kx vx x scope cl s S P Fin j i kvs nw := by
    intro j
    induction j with
    | zero => intro i kvs nw hi hj; obtain rfl : i = n := by lia
              exact fin kvs nw hj
    | succ j ih =>
      intro i kvs nw hi hj
      refine ⟨hsz i kvs nw hj, fun v I oI C oC D oD m₂ h tk E' hP hC hx F hd N off ne => ?_⟩
      refine wpAny_mono (turn i kvs nw v I oI C oC D oD m₂ h tk E' (by lia) hj hP hC hx F hd N off ne) (fun kv s₄ h₄ => ?_) fun _ _ e => e
      refine wpAny_mono h₄ (fun vv s₅ h₅ => ?_) fun _ _ e => e
      obtain ⟨h', tk', nw', y, t, e1, e2, F', N', off', hS, hn⟩ := h₅
      exact ⟨h', tk', nw', y, t, e1, e2, F', N', off', hS, ih (i + 1) _ _ (by lia) hn⟩
  exact key n 0 [] news (by lia) h0
set_option maxRecDepth 100000 in
set_option maxHeartbeats 4000000 in
theorem seenG_calls (w : World) {f fd A c : Addr} {tk t1 t2 t3 t4 t5 : Tok} {n : Nat} {ao : Obj} {all : Led} {kvs : List (Str × Value)} {data : List (Str × List Str)}
    (hf : (f, instObj 236 fd) ∈ all) (hfd : (fd, dictOf (vecD w (.str (Str.ofString "integer") tk) (.ref c) (.ref A) t1 t2 t3 t4 t5) n) ∈ all) (hAl : (A, ao) ∈ all) (hA : ao.IsDictOf (strKind prg w) kvs) (hAm : (A == sysModules) = false)
    (hv : VecRows w all kvs data) (hn : (data.map (·.1)).Nodup) (hk : kvs.length ≤ 100) :
    CallsR w 312 [.ref f] 3 100 all (fun v new => ∃ D, v = .ref D ∧ SeenIs w D data new) := by
  intro dp un gd cn' cs a ccd cl' outer A₀ base h₀ L m s loose mean mg mb full Q E B F X N T hkd S hd hu ret
  cases cs; cases hkd
  have hnk : (kvs.map (·.1)).Nodup := by rw [hv.keys]; exact hn
  have hkl : kvs.length = data.length := by have e := congrArg List.length hv.keys; simpa using e
  have N0 := one_more (one_more (one_more N (S _ hAl)) (.tail _ (S _ hfd))) (.tail _ (.tail _ (S _ hf)))
  rw [vecD_lit w _ (.ref c)] at N0
  clear N
  refine wpAny_call ?_
  k_dflt k_enter
  k_steps
  unfold Stop
  rename News _ _ _ (_ :: _ :: _ :: _ :: full) => hN9
  refine nmAll9 hN9 ?_
  intro full9 hfull9
  have hsub : ∀ p ∈ full, p ∈ full9 := by rw [hfull9]; intro p hp; exact .tail _ (m3s hp)
  refine DSrc.intro rfl (by k_asm) (by k_asm) hA (by k_mem) hAm ?_
  intro g
  rw [← hfull9]
  refine dcomp_inv (fun i kvs' nw => (∀ p ∈ full9, p ∈ nw) ∧ SeenRows nw kvs' (data.take i)) ⟨fun p hp => hp, .nil⟩ (fun i kvs' nw h => by have e := congrArg List.length h.2.keys; simp only [List.length_map, List.length_take] at e; lia) ?_ ?_
  · intro i kvs' nw v I oI C oC D oD m₂ h tk E' hi hJ hP hoC hx F₁ hdD N₁ hoff hne
    obtain ⟨k, z, hkz, hkey⟩ := hP
    obtain ⟨t, rfl⟩ := Value.isStrOf_shape hkey
    obtain ⟨x, l, ln, vs, ys, rfl, ⟨xd, xt, q1, q2, q3, q4, q5, xn, ha1, ha2⟩, hl, hys, hvl, hdi⟩ := hv.at i k z hkz
    have hval := valueAt_at hnk hkz
    have hcell := hJ.1 _ (mem_of_eq hfull9 m0)
    have N2 := one_more N₁ (m3s hcell)
    replace N2 := one_more N2 (.tail _ (m3s (hJ.1 _ (hsub _ (S _ hAl)))))
    replace N2 := one_more N2 (.tail _ (.tail _ (m3s (hJ.1 _ (hsub _ (S _ hfd))))))
    replace N2 := one_more N2 (m3s (m3s (hJ.1 _ (hsub _ (S _ hf)))))
    replace N2 := one_more N2 (m3s (.tail _ (m3s (hJ.1 _ (hsub _ (S _ hl))))))
    replace N2 := one_more N2 (m3s (.tail _ (.tail _ (m3s (hJ.1 _ (hsub _ (S _ ha2)))))))
    replace N2 := one_more N2 (m6s (m3s (hJ.1 _ (hsub _ (S _ ha1)))))
    rw [vecD_lit w _ (.ref c)] at N2
    clear N₁
    k_steps
    refine seen_end (u := u9) (q := q9) (news := nw) (by k_asm) (news_iff (by k_asm) (by walk_at "led")) (allLt_sub hu9 (by walk_at "led")) (allLt_sub hq9 (by walk_at "led")) hoff (.tail _ (.tail _ (hJ.1 _ (hsub _ (S _ hAl))))) ⟨fun p hp => .tail _ (.tail _ (hJ.1 p hp)), ?_⟩
    rw [stored_new (by rw [hJ.2.keys]; exact key_new hn hdi), List.take_add_one, hdi]
    exact SeenRows.snoc (hJ.2.mono fun p hp => .tail _ (.tail _ hp)) m0 m1 hys
  · intro kvs' nw hJ D oD h tk F' hdD N' off' hmod
    k_steps
    exact ret _ ((D, oD) :: nw) _ _ ⟨D, rfl, oD, kvs', m0, hdD, hmod (modules_low (Top.nolimit (by k_asm))), SeenRows.mono (fun p hp => .tail _ hp) (by have e := hJ.2; rw [List.take_of_length_le (Nat.le_of_eq hkl.symm)] at e; exact e)⟩ (by k_asm) (news_iff (by k_asm) fun p hp => by
      rcases List.mem_append.mp hp with hp | hp
      · exact hp
      · exact .tail _ (hJ.1 _ (hsub _ hp)))
noncomputable def emptyRow (o : Bool) : Str := if o = true then Str.ofString "ordered(0)" else Str.ofString "factor(0)"
theorem short_shown {xs : List Str} {ks : List (Option Int)} (h : Short 100 xs) : Short 100 (ks.map (shownOf xs)) := by
  intro z hz
  obtain ⟨c, _, rfl⟩ := List.mem_map.mp hz
  have hna : (Str.ofString "<NA>").length ≤ 100 := by decide +kernel
  unfold shownOf shown
  cases hl : labOf xs c with
  | none => exact hna
  | some y => exact h y (lab_mem (ks := [c]) (by simp [hl]))
theorem Calls.wide {w : World} {f : Addr} {args : List Value} {D U : Nat} {pre all : Led} {post post' : Value → Led → Led → Prop} (hs : ∀ p ∈ pre, p ∈ all) (C : Calls w f args D U pre [] post) (h : ∀ v new pre', post v new pre' → post' v new all) : Calls w f args D U all [] post' :=
  fun dp un gd cn cs a ccd cl outer A₀ base h₀ L m s loose mean mg mb news Q E B F X N T hk hd hu hm ret =>
    C dp un gd cn cs a ccd cl outer A₀ base h₀ L m s loose mean mg mb (all ++ news) Q E B F X (news_iff N fun p hp => by
      rcases List.mem_append.mp hp with hp | hp
      · exact List.mem_append_left _ (hs p hp)
      · exact hp) T hk hd hu (fun b hb => (nomatch hb)) fun v new pre' h' tk' hp hf F' N' =>
        ret v new all h' tk' (h v new pre' hp) (freshOver_congr (fun p => ⟨fun hq => by
          rcases List.mem_append.mp hq with hq | hq
          · exact List.mem_append_left _ (hs p hq)
          · exact hq, fun hq => List.mem_append_right _ hq⟩) hf) F' (news_iff N' fun p hp => by
            rcases List.mem_append.mp hp with hp | hp
            · exact List.mem_append_left _ hp
            · exact List.mem_append_right _ (List.mem_append_right _ hp))
/-- a call that changes nothing of what it reads -/
theorem Calls.useM {w : World} {f : Addr} {args : List Value} {D U : Nat} {pre : Led} {post : Value → Led → Led → Prop}
    {dp un : Nat} {gd : Option (List Code)} {cn : Str} {cs : Scope} {a : Addr} {ccd : Value} {cl : List (Str × Addr)} {outer : List Env} {A₀ : Around} {base h₀ : Heap} {L : Addr} {m : Str → Option Value} {s : Shared}
    {loose : List Str} {mean : ExcName → Option Value} {mg mb : Str → Option Value} {full : Led} {Q E : Value → Shared → Prop}
    (F : Fr h₀ L s.heap m) (B : Below A₀ base outer h₀) (X : (Mine.hd.heap_39 w.params).In h₀) (N : News h₀ L s.heap full) (T : Top Mine.hd.view_39 loose mean mg mb h₀) (hk : cs.kind = .function)
    (S : ∀ p ∈ pre, p ∈ full) (C : Calls w f args D U pre [] post)
    (hd : dp + D < recursionLimit) (hu : un + U < cLine)
    (h : ∀ v new pre' h' tk', post v new pre' → FreshOver new full → Fr h₀ L h' m → News h₀ L h' (new ++ full) → Q v { s with heap := h', toks := tk' }) :
    wpAny (model prg w) (ktrTop dp un gd cn cs L a ccd cl outer) (call (.ref f) args) Q E s :=
  C dp un gd cn cs a ccd cl outer A₀ base h₀ L m s loose mean mg mb full Q E B F X (news_iff N fun p hp => by
      rcases List.mem_append.mp hp with hp | hp
      · exact S p hp
      · exact hp) T hk hd hu (fun b hb => (nomatch hb))
    fun v new pre' h' tk' hp hf F' N' => h v new pre' h' tk' hp (freshOver_congr (fun p => ⟨fun hq => by
          rcases List.mem_append.mp hq with hq | hq
          · exact S p hq
          · exact hq, fun hq => List.mem_append_right _ hq⟩) hf) F' (news_iff N' fun p hp => by
            rcases List.mem_append.mp hp with hp | hp
            · exact List.mem_append_left _ hp
            · exact List.mem_append_right _ (List.mem_append_right _ hp))
theorem sub_skip {A B all : Led} {x : Addr × Obj} (h : ∀ p ∈ A ++ x :: B, p ∈ all) : ∀ p ∈ A ++ B, p ∈ all := fun p hp => by
  rcases List.mem_append.mp hp with hp | hp
  · exact h p (List.mem_append_left _ hp)
  · exact h p (List.mem_append_right _ (List.mem_cons_of_mem _ hp))
theorem sub_app {A B all : Led} (h : ∀ p ∈ A, p ∈ all) (h' : ∀ p ∈ B, p ∈ all) : ∀ p ∈ A ++ B, p ∈ all := fun p hp => by
  rcases List.mem_append.mp hp with hp | hp
  · exact h p hp
  · exact h' p hp
/-- the law's rows -/
noncomputable def dueOf (xs : List Str) (ks : List (Option Int)) (o : Bool) (nm : Option (List Str)) (P : Int) : List Str :=
  if ks = [] then [emptyRow o] else match nm with
    | none => lawPlain (ks.map (shownOf xs)) P
    | some ns => lawNamed (ks.map (shownOf xs)) ns P
noncomputable def rowsOf (xs : List Str) (ks : List (Option Int)) (o : Bool) (nm : Option (List Str)) (P : Int) : List Str := dueOf xs ks o nm P ++ [lawLevG xs o (lvState xs (P - 15)).2]
noncomputable def NmIs (v : Value) (n : Nat) (all : Led) (nm : Option (List Str)) : Prop :=
  (nm = none ∧ v = .none) ∨ ∃ q qn nvs ns, nm = some ns ∧ v = .ref q ∧ (q, listOf nvs.toArray qn) ∈ all ∧ StrsAre nvs ns ∧ ns.length = n ∧ Short 100 ns
/-- what the rest of the law needs of the ledger behind it -/
noncomputable def TailIs (w : World) (f : Addr) (xs : List Str) (ks : List (Option Int)) (o : Bool) (nm : Option (List Str)) (v : Value) (all : Led) : Prop :=
  NmIs v ks.length all nm ∧ (∃ data : List (Str × List Str), (data.map (·.1)).Nodup ∧ CallsR w 312 [.ref f] 3 100 all (fun v nw => ∃ D, v = .ref D ∧ SeenIs w D data nw)) ∧
  (∀ P tP, 16 ≤ P → P ≤ 100 → CallsR w 286 [.ref f, .int P tP] 6 150 all (fun v new => ∃ D ys k, v = .ref D ∧ new = [(D, listOf ys.toArray k)] ∧ StrsAre ys (rowsOf xs ks o nm P)))
noncomputable def clsOf (o : Bool) : List Str := if o = true then [Str.ofString "ordered", Str.ofString "factor"] else [Str.ofString "factor"]
theorem cls_strs {o : Bool} {cls : List Value} (h : ClsIs o cls) : StrsAre cls (clsOf o) ∧ cls.length ≤ 12 := by
  rcases h with ⟨rfl, u1, u2, rfl⟩ | ⟨rfl, u2, rfl⟩
  · exact ⟨.cons _ _ (.cons _ _ .nil), by simp⟩
  · exact ⟨.cons _ _ .nil, by simp⟩
/-- a statement as a step of its own: it changes one name -/
noncomputable def StEnd (h₀ : Heap) (L : Addr) (m₀ : Str → Option Value) (x : Str) (J : Value → Led → Prop) (s₁ : Shared) : Flow → Shared → Prop
  | .next, s₂ => ∃ h' tk m' v all, s₂ = { s₁ with heap := h', toks := tk } ∧ Fr h₀ L h' m' ∧ News h₀ L h' all ∧ m' x = some v ∧ (∀ z, z ≠ x → m' z = m₀ z) ∧ J v all
  | _, _ => False
theorem st_cut {M : Model} {A : Around} {E : Value → Shared → Prop} {s : Shared} {t : Sem Flow} {Q : Flow → Shared → Prop} {h₀ : Heap} {L : Addr} {m₀ : Str → Option Value} (x : Str) (J : Value → Led → Prop) (F : Fr h₀ L s.heap m₀) (h1 : wpAny M A t (StEnd h₀ L m₀ x J s) E s)
    (h : ∀ h' tk u v all, Fr h₀ L h' (lmap m₀ [] [(x, v)] u) → News h₀ L h' all → J v all → Q .next { s with heap := h', toks := tk }) : wpAny M A t Q E s := by
  refine wpAny_mono h1 (fun f s₂ hp => ?_) fun _ _ e => e
  cases f with
  | next =>
    obtain ⟨h', tk, m', v, all, rfl, F', N', e1, e2, hj⟩ := hp
    have e := lmap_all (m₀ := m₀) (m' := m') (stored := []) (ps := [(x, v)]) (by intro p hp; rw [List.mem_singleton.mp hp]; exact e1) (fun z hz _ => e2 z (hz (x, v) (by simp)))
    rw [e] at F'
    exact h h' tk m' v all F' N' hj
  | ret v => exact hp.elim
  | brk => exact hp.elim
  | cont => exact hp.elim
theorem StEnd.mk {h₀ : Heap} {L : Addr} {m₀ : Str → Option Value} {x : Str} {J : Value → Led → Prop} {s₁ : Shared} {h' : Heap} {tk : Nat} {m' : Str → Option Value} {v : Value} {all : Led}
    (F : Fr h₀ L h' m') (N : News h₀ L h' all) (e1 : m' x = some v) (e2 : ∀ z, z ≠ x → m' z = m₀ z) (hj : J v all) : StEnd h₀ L m₀ x J s₁ .next { s₁ with heap := h', toks := tk } := ⟨h', tk, m', v, all, rfl, F, N, e1, e2, hj⟩
theorem two_more {h₀ h : Heap} {L : Addr} {l : Led} {p q : Addr × Obj} (N : News h₀ L h l) (hp : p ∈ l) (hq : q ∈ l) : News h₀ L h (p :: q :: l) := fun r hr => by
  rcases List.mem_cons.mp hr with rfl | hr
  · exact N _ hp
  · rcases List.mem_cons.mp hr with rfl | hr
    · exact N _ hq
    · exact N _ hr
theorem swap3 {h₀ h : Heap} {L : Addr} {nw l : Led} {a b c : Addr × Obj} (N : News h₀ L h (nw ++ a :: b :: c :: l)) : News h₀ L h (a :: b :: c :: (nw ++ l)) := news_iff N fun p hp => by
  simp only [List.mem_cons, List.mem_append] at hp ⊢
  rcases hp with h | h | h | h | h <;> simp [h]
theorem tup_is2 {s : Shared} {h₀ : Heap} {L : Addr} {news : Led} {a : Addr} {x1 x2 : Value} (N : News h₀ L s.heap news) (hm : (a, ({ cls := .type "tuple", data := .seq #[x1, x2] 0 } : Obj)) ∈ news) : s.heap.IsTuple a #[x1, x2] := ⟨_, (N _ hm).1, rfl, _, rfl⟩
theorem swap8 {h₀ h : Heap} {L : Addr} {nw l : Led} {a b c d e f g i : Addr × Obj} (N : News h₀ L h (nw ++ a :: b :: c :: d :: e :: f :: g :: i :: l)) : News h₀ L h (a :: b :: c :: d :: e :: f :: g :: i :: (nw ++ l)) := news_iff N fun p hp => by
  have e2 : a :: b :: c :: d :: e :: f :: g :: i :: (nw ++ l) = [a, b, c, d, e, f, g, i] ++ (nw ++ l) := rfl
  have e3 : nw ++ a :: b :: c :: d :: e :: f :: g :: i :: l = nw ++ ([a, b, c, d, e, f, g, i] ++ l) := rfl
  rw [e2, List.mem_append, List.mem_append] at hp
  rw [e3, List.mem_append, List.mem_append]
  rcases hp with h | h | h
  · exact .inr (.inl h)
  · exact .inl h
  · exact .inr (.inr h)
theorem shown_snoc {us : List Value} {xs : List Str} {ks : List (Option Int)} {i : Nat} {c : Option Int} {y : Str} {t : Tok} (h : StrsAre us ((ks.take i).map (shownOf xs))) (hc : ks[i]? = some c) (hv : shownOf xs c = y) : StrsAre (us ++ [.str y t]) ((ks.take (i + 1)).map (shownOf xs)) := by
  rw [List.take_add_one, hc, List.map_append, ← hv]
  exact strsAre_snoc h
theorem shown_in {xs : List Str} {k : Int} (h : 1 ≤ k ∧ k ≤ (xs.length : Int)) : shownOf xs (some k) = xs.getD (k - 1).toNat Str.empty := by
  unfold shownOf; rw [labOf_in h]; rfl
theorem shown_out {xs : List Str} {k : Int} (h : ¬ (1 ≤ k ∧ k ≤ (xs.length : Int))) : shownOf xs (some k) = Str.ofString "<NA>" := by
  unfold shownOf; rw [labOf_out h]; rfl
theorem item_strs {prog : Program} {w : World} {A : Around} {E : Value → Shared → Prop} {s : Shared} {h₀ : Heap} {L D : Addr} {news : Led} {vs : List Value} {xs : List Str} {n : Nat} {value slice : PySem.Expr} {k : Int} {u : Tok} {Q : Value → Shared → Prop} (N : News h₀ L s.heap news) (hm : (D, listOf vs.toArray n) ∈ news) (hx : StrsAre vs xs)
    (h0 : 0 ≤ k) (h1 : k < (xs.length : Int)) (h2 : xs.length ≤ 12) (h : ∀ t, Q (.str (xs.getD k.toNat Str.empty) t) s)
    (hs : subscripted slice false (.ref D) (.int k u) = operate [.ref D, .int k u] (getItem (.ref D) (.int k u)) := by with_unfolding_all rfl) :
    wpAny (model prog w) A (subscriptTail value slice (.ref D) (.int k u)) Q E s := by
  have hlt : k.toNat < xs.length := by lia
  have hy : xs[k.toNat]? = some (xs.getD k.toNat Str.empty) := by rw [List.getD_eq_getElem?_getD, List.getElem?_eq_getElem hlt]; rfl
  obtain ⟨t, ht⟩ := hx.at hy
  exact item_led N hm h0 (by lia) ht (h t) hs
theorem dueOf_nil {xs : List Str} {ks : List (Option Int)} {o : Bool} {nm : Option (List Str)} {P : Int} (h : ks = []) : dueOf xs ks o nm P = [emptyRow o] := if_pos h
theorem nmAll {h₀ h : Heap} {L : Addr} {l : Led} {G : Prop} (_ : News h₀ L h l) (k : ∀ l', l' = l → G) : G := k l rfl
section
variable {w : World} {dp un : Nat} {gd : Option (List Code)} {cn : Str} {cs : Scope} {a : Addr} {ccd : Value} {cl : List (Str × Addr)} {outer : List Env} {A₀ : Around} {base h₀ : Heap} {L : Addr} {m : Str → Option Value} {s : Shared}
    {loose : List Str} {mean : ExcName → Option Value} {mg mb : Str → Option Value} {full : Led} {Q E : Value → Shared → Prop} {f : Addr} {args : List Value} {D U : Nat} {pre : Led}
theorem useML {P : List Value → Prop} (F : Fr h₀ L s.heap m) (B : Below A₀ base outer h₀) (X : (Mine.hd.heap_39 w.params).In h₀) (N : News h₀ L s.heap full) (T : Top Mine.hd.view_39 loose mean mg mb h₀) (hk : cs.kind = .function)
    (S : ∀ p ∈ pre, p ∈ full) (C : Calls w f args D U pre [] (fun v new pre' => ∃ D ys k, v = .ref D ∧ new = [(D, listOf ys.toArray k)] ∧ pre' = pre ∧ P ys)) (hd : dp + D < recursionLimit) (hu : un + U < cLine)
    (h : ∀ D ys k h' tk', P ys → OffD D full → Fr h₀ L h' m → News h₀ L h' ((D, listOf ys.toArray k) :: full) → Q (.ref D) { s with heap := h', toks := tk' }) :
    wpAny (model prg w) (ktrTop dp un gd cn cs L a ccd cl outer) (call (.ref f) args) Q E s := by
  refine Calls.useM F B X N T hk S C hd hu ?_
  rintro v new pre' h' tk' ⟨D, ys, k, rfl, rfl, rfl, hp⟩ hf F' N'
  exact h D ys k h' tk' hp hf.1 F' N'
theorem useMT {V : Tok → Value} (F : Fr h₀ L s.heap m) (B : Below A₀ base outer h₀) (X : (Mine.hd.heap_39 w.params).In h₀) (N : News h₀ L s.heap full) (T : Top Mine.hd.view_39 loose mean mg mb h₀) (hk : cs.kind = .function)
    (S : ∀ p ∈ pre, p ∈ full) (C : Calls w f args D U pre [] (fun v new pre' => new = [] ∧ pre' = pre ∧ ∃ t', v = V t')) (hd : dp + D < recursionLimit) (hu : un + U < cLine)
    (h : ∀ t' h' tk', Fr h₀ L h' m → News h₀ L h' full → Q (V t') { s with heap := h', toks := tk' }) :
    wpAny (model prg w) (ktrTop dp un gd cn cs L a ccd cl outer) (call (.ref f) args) Q E s := by
  refine Calls.useM F B X N T hk S C hd hu ?_
  rintro v new pre' h' tk' ⟨rfl, rfl, t', rfl⟩ hf F' N'
  exact h t' h' tk' F' N'
theorem useMV {V : Value} (F : Fr h₀ L s.heap m) (B : Below A₀ base outer h₀) (X : (Mine.hd.heap_39 w.params).In h₀) (N : News h₀ L s.heap full) (T : Top Mine.hd.view_39 loose mean mg mb h₀) (hk : cs.kind = .function)
    (S : ∀ p ∈ pre, p ∈ full) (C : Calls w f args D U pre [] (fun v new pre' => v = V ∧ new = [] ∧ pre' = pre)) (hd : dp + D < recursionLimit) (hu : un + U < cLine)
    (h : ∀ h' tk', Fr h₀ L h' m → News h₀ L h' full → Q V { s with heap := h', toks := tk' }) :
    wpAny (model prg w) (ktrTop dp un gd cn cs L a ccd cl outer) (call (.ref f) args) Q E s := by
  refine Calls.useM F B X N T hk S C hd hu ?_
  rintro v new pre' h' tk' ⟨rfl, rfl, rfl⟩ hf F' N'
  exact h h' tk' F' N'
theorem usePrint {all : Led} {args : List Value} {P : List Value → Prop} (F : Fr h₀ L s.heap m) (B : Below A₀ base outer h₀) (X : (Mine.hd.heap_39 w.params).In h₀) (N : News h₀ L s.heap full) (T : Top Mine.hd.view_39 loose mean mg mb h₀) (hk : cs.kind = .function)
    (S : ∀ p ∈ all, p ∈ full) (C : CallsR w 286 args 6 150 all (fun v new => ∃ D ys k, v = .ref D ∧ new = [(D, listOf ys.toArray k)] ∧ P ys)) (hd : dp + 6 < recursionLimit) (hu : un + 150 < cLine)
    (h : ∀ D ys k h' tk', P ys → Fr h₀ L h' m → News h₀ L h' ((D, listOf ys.toArray k) :: full) → Q (.ref D) { s with heap := h', toks := tk' }) :
    wpAny (model prg w) (ktrTop dp un gd cn cs L a ccd cl outer) (call (.ref 286) args) Q E s := by
  refine C dp un gd cn cs a ccd cl outer A₀ base h₀ L m s loose mean mg mb full Q E B F X N T hk S hd hu ?_
  rintro v new h' tk' ⟨D, ys, k, rfl, rfl, hp⟩ F' N'
  exact h D ys k h' tk' hp F' N'
theorem useSeen {all : Led} {data : List (Str × List Str)} (F : Fr h₀ L s.heap m) (B : Below A₀ base outer h₀) (X : (Mine.hd.heap_39 w.params).In h₀) (N : News h₀ L s.heap full) (T : Top Mine.hd.view_39 loose mean mg mb h₀) (hk : cs.kind = .function)
    (S : ∀ p ∈ all, p ∈ full) (C : CallsR w 312 [.ref f] 3 100 all (fun v nw => ∃ D, v = .ref D ∧ SeenIs w D data nw)) (hd : dp + 3 < recursionLimit) (hu : un + 100 < cLine)
    (h : ∀ D nw h' tk', SeenIs w D data nw → Fr h₀ L h' m → News h₀ L h' (nw ++ full) → Q (.ref D) { s with heap := h', toks := tk' }) :
    wpAny (model prg w) (ktrTop dp un gd cn cs L a ccd cl outer) (call (.ref 312) [.ref f]) Q E s := by
  refine C dp un gd cn cs a ccd cl outer A₀ base h₀ L m s loose mean mg mb full Q E B F X N T hk S hd hu ?_
  rintro v new h' tk' ⟨D, rfl, hp⟩ F' N'
  exact h D new h' tk' hp F' N'
theorem useSeen3 {all B : Led} {x y z : Addr × Obj} {data : List (Str × List Str)} (F : Fr h₀ L s.heap m) (B9 : Below A₀ base outer h₀) (X : (Mine.hd.heap_39 w.params).In h₀) (N : News h₀ L s.heap (x :: y :: z :: B)) (T : Top Mine.hd.view_39 loose mean mg mb h₀) (hk : cs.kind = .function)
    (S : ∀ p ∈ all, p ∈ B) (C : CallsR w 312 [.ref f] 3 100 all (fun v nw => ∃ D, v = .ref D ∧ SeenIs w D data nw)) (hd : dp + 3 < recursionLimit) (hu : un + 100 < cLine)
    (h : ∀ D B' h' tk', (∀ p ∈ all, p ∈ B') → SeenIs w D data B' → Fr h₀ L h' m → News h₀ L h' (x :: y :: z :: B') → Q (.ref D) { s with heap := h', toks := tk' }) :
    wpAny (model prg w) (ktrTop dp un gd cn cs L a ccd cl outer) (call (.ref 312) [.ref f]) Q E s :=
  useSeen F B9 X N T hk (fun p hp => m3s (S p hp)) C hd hu fun D nw h' tk' hp F' N' =>
    h D (nw ++ B) h' tk' (fun p hp => List.mem_append_right _ (S p hp)) (hp.mono fun p hp => List.mem_append_left _ hp) F' (swap3 N')
theorem useSeen8 {all B : Led} {x1 x2 x3 x4 x5 x6 x7 x8 : Addr × Obj} {data : List (Str × List Str)} {D1 : Addr} (F : Fr h₀ L s.heap m) (B9 : Below A₀ base outer h₀) (X : (Mine.hd.heap_39 w.params).In h₀) (N : News h₀ L s.heap (x1 :: x2 :: x3 :: x4 :: x5 :: x6 :: x7 :: x8 :: B)) (T : Top Mine.hd.view_39 loose mean mg mb h₀) (hk : cs.kind = .function)
    (S : ∀ p ∈ all, p ∈ B) (h1 : SeenIs w D1 data B) (C : CallsR w 312 [.ref f] 3 100 all (fun v nw => ∃ D, v = .ref D ∧ SeenIs w D data nw)) (hd : dp + 3 < recursionLimit) (hu : un + 100 < cLine)
    (h : ∀ D B' h' tk', SeenIs w D data B' → SeenIs w D1 data B' → Fr h₀ L h' m → News h₀ L h' (x1 :: x2 :: x3 :: x4 :: x5 :: x6 :: x7 :: x8 :: B') → Q (.ref D) { s with heap := h', toks := tk' }) :
    wpAny (model prg w) (ktrTop dp un gd cn cs L a ccd cl outer) (call (.ref 312) [.ref f]) Q E s :=
  useSeen F B9 X N T hk (fun p hp => .tail _ (.tail _ (m6s (S p hp)))) C hd hu fun D nw h' tk' hp F' N' =>
    h D (nw ++ B) h' tk' (hp.mono fun p hp => List.mem_append_left _ hp) (h1.mono fun p hp => List.mem_append_right _ hp) F' (swap8 N')
end
@[elab_as_elim]
theorem codes_elim {vs : List Value} {ks : List (Option Int)} (h : CodesAre vs ks) {i : Nat} {v : Value} (hv : vs[i]? = some v) {P : Value → Prop} (h1 : ks[i]? = some none → P .none) (h2 : ∀ k t, ks[i]? = some (some k) → P (.int k t)) : P v := by
  rcases h.item i v hv with ⟨rfl, e⟩ | ⟨k, t, rfl, e⟩
  · exact h1 e
  · exact h2 k t e
theorem due_cut {M : Model} {A : Around} {E : Value → Shared → Prop} {s : Shared} {t : Sem Flow} {Q : Flow → Shared → Prop} {h₀ : Heap} {L : Addr} {m₀ : Str → Option Value} {full : Led} {R : List Str} (x : Str) (F : Fr h₀ L s.heap m₀) (N : News h₀ L s.heap full)
    (h1 : ∀ full', full' = full → wpAny M A t (StEnd h₀ L m₀ x (fun v all => ∃ D ys k, v = .ref D ∧ (∀ p ∈ (D, listOf ys.toArray k) :: full', p ∈ all) ∧ OffD D full' ∧ StrsAre ys R ∧ ys.length ≤ 30) s) E s)
    (h : ∀ D ys k h' tk u, OffD D full → StrsAre ys R → ys.length ≤ 30 → Fr h₀ L h' (lmap m₀ [] [(x, .ref D)] u) → News h₀ L h' ((D, listOf ys.toArray k) :: full) → Q .next { s with heap := h', toks := tk }) : wpAny M A t Q E s := by
  refine st_cut x _ F (h1 full rfl) ?_
  rintro h' tk u v all F' N' ⟨D, ys, k, rfl, hs, h1, h2, h3⟩
  exact h D ys k h' tk u h1 h2 h3 F' (news_iff N' hs)
/-- what names_of gives for f -/
noncomputable def NmCall (w : World) (f : Addr) (all : Led) (nm : Option (List Str)) : Prop := match nm with
  | none => Calls w 33 [.ref f] 3 90 all [] (fun v new pre' => v = .none ∧ new = [] ∧ pre' = all)
  | some ns => Calls w 33 [.ref f] 3 90 all [] (fun v new pre' => ∃ D ys k, v = .ref D ∧ new = [(D, listOf ys.toArray k)] ∧ pre' = all ∧ StrsAre ys ns)
theorem words_PG : True := by
  k_with_none
  k_with "call builtin:list.pop" => (k_here; k_dflt (refine' kl_pop ?zqF ?zqN (kl_last_snoc _ _) ?zqU ?zqZ ?_; (case zqF => k_asm); (case zqN => k_asm); (case zqU => k_upd); (case zqZ => (simp only [sizeLine_eq]; simp only [List.length_append, List.length_singleton]; lia)); k_whole; intro h' F' N'))
  k_with "CompSrc" => (refine Stop.mk ?_)
  k_with "eval ListComp" => (k_here; k_dflt (refine LCg.ListComp_U (F₀ := by k_asm) (by with_unfolding_all rfl) (by decide) (by rfl) (by decide) (by rfl) ?_))
  k_with "sel" => first | exact Sel.nil | (refine' Sel.cons ?zqsl1 ?zqsl2; (case zqsl1 => walk_at "rem"); (case zqsl2 => walk_at "sel"))
  k_with "rem" => first | exact Rem.head | (refine' Rem.tail ?zqrm1; (case zqrm1 => walk_at "rem"))
  k_with "apart" => first | exact List.forall_mem_nil _ | (refine List.forall_mem_cons.mpr ⟨by k_all, ?_⟩; walk_at "apart")
  k_with "CompEnd" => (refine Stop.mk ?_)
  k_with "call builtin:str.join" => (k_here; k_dflt (refine join_led (by k_asm) (by k_mem) (by first | assumption | walk_at "strs") (by first | assumption | decide +kernel) (by first | assumption | walk_at "joinsum") ?_); intro _ _)
  k_with "led" => ((try dsimp only); (try simp only [List.cons_append, List.nil_append]); kcf_all)
  k_with "pyIter ref" => (k_here; refine Stop.mk ?_)
  k_with "exec For" => (k_here; k_dflt (refine For_invVF (by k_asm) (by rfl) (by rfl) ?_))
  k_with "kept" => (intro z9 h91 h92 h93; (try simp only [List.contains_cons, List.contains_nil, Bool.or_false, Bool.or_eq_false_iff, beq_eq_false_iff_ne, ne_eq] at h93); simp [lmap, kstB, h91, h93])
  k_with "held" => first | exact List.forall_mem_nil _ | (refine List.forall_mem_cons.mpr ⟨rfl, ?_⟩; walk_at "held")
  k_with "call builtin:list.append" => (k_here; k_dflt (refine' append_K ?zqk1 ?zqk2 ?zqk3 ?_ ?zqz; (case zqk1 => k_asm); (case zqk2 => k_asm); (case zqk3 => k_upd); (case zqz => first | (simp only [List.size_toArray, sizeLine_eq, List.length_append, List.length_singleton]; lia) | (simp only [List.size_toArray, sizeLine_eq, List.length_append, List.length_singleton]; refine Nat.le_trans (Nat.add_le_add_right (kpick_len _ _ _) _) ?_; lia)); k_whole); intro h' F' N'; (try simp only [List.push_toArray] at N'); (try k_sweep))
  k_with "call builtin:list.reverse" => (k_here; k_dflt (refine' kl_reverse ?zqF ?zqN ?zqe ?zqU ?zqz ?_; (case zqF => k_asm); (case zqN => k_asm); (case zqU => k_upd); (case zqe => exact (rfl : _ = List.reverse _)); (case zqz => (show List.length _ ≤ _; rw [IntsAre.length (by assumption)]; simp only [sizeLine_eq]; lia)); k_whole); intro h' F' N')
  k_with "below" => ((try simp only [List.cons_append, List.nil_append, AllLt, and_true]); first | assumption | exact allLt_iff.mpr (by assumption) | exact And.right (by assumption) | exact And.right (And.right (by assumption)) | exact And.right (And.right (And.right (by assumption))) | exact And.right (And.right (And.right (And.right (by assumption)))))
  k_with "exec For Name Name cons nil" => (k_here; k_dflt (refine For_invVF (by k_asm) (by rfl) (by rfl) ?_))
  k_with "exec For Name Name" => (k_here; k_dflt (refine For_invVF (by k_asm) (by rfl) (by rfl) ?_))
  k_with "exec For Name Call cons nil" => (k_here; k_dflt (refine For_invVF (by k_asm) (by rfl) (by rfl) ?_))
  k_with "exec For Name Call" => (k_here; k_dflt (refine For_invVF (by k_asm) (by rfl) (by rfl) ?_))
  k_with "exec For Name Attribute cons nil" => (k_here; k_dflt (refine For_invVF (by k_asm) (by rfl) (by rfl) ?_))
  k_with "exec For Name Attribute" => (k_here; k_dflt (refine For_invVF (by k_asm) (by rfl) (by rfl) ?_))
  k_with "exec For Name Subscript cons nil" => (k_here; k_dflt (refine For_invVF (by k_asm) (by rfl) (by rfl) ?_))
  k_with "exec For Name Subscript" => (k_here; k_dflt (refine For_invVF (by k_asm) (by rfl) (by rfl) ?_))
  k_with "exec For Name List cons nil" => (k_here; k_dflt (refine For_invVF (by k_asm) (by rfl) (by rfl) ?_))
  k_with "exec For Name List" => (k_here; k_dflt (refine For_invVF (by k_asm) (by rfl) (by rfl) ?_))
  k_with "call builtin:len" => (k_here; k_dflt (first | (refine P.len_str (by lia) ?_) | (refine len_led (by k_asm) (by k_mem) (by lia) ?_)))
  k_with "call builtin:str.rjust" => (k_here; k_dflt (refine SC.rjust (padOk_of (by lia) (by lia)) ?_); intro _ _)
  k_with "call builtin:str.ljust" => (k_here; k_dflt (refine SC.ljust (padOk_of (by lia) (by lia)) ?_); intro _ _)
  k_with "srcat" => exact Or.inr ⟨_, by k_mem, rfl, _, rfl⟩
  k_with "FinE" => ((unfold LCg.FinE); intro D' h' tk' F' N' o1'; (replace o1' := offD_of o1'); (try simp only [OffD, and_true] at o1'); (repeat (obtain ⟨o2', o1'⟩ := o1')); (try simp only [List.nil_append, List.cons_append] at N'); (try dsimp only))
  k_with "fresh" => ((simp only [FreshOver, OffD, List.nil_append, List.cons_append, and_true]); (repeat' (refine And.intro ?_ ?_)); all_goals first | assumption | exact Dist.symm (by assumption) | exact lt_off (by assumption) | exact allLt_off (by assumption) | exact allLt_off (And.right (by assumption)) | exact allLt_off (And.right (And.right (by assumption))) | exact allLt_off (And.right (And.right (And.right (by assumption)))) | exact Dist.of (by lia))
  k_with "subscriptTail" => (k_here; (with_reducible show wpAny _ _ (subscriptTail _ _ (Value.ref _) (Value.int _ _)) _ _ _); k_dflt (refine item_led (by k_asm) (by k_mem) (by lia) (by lia) (by assumption) ?_))
  k_with "binaryOp Add str str" => (k_here; (with_reducible show wpAny _ _ (binaryOp Operator.Add (Value.str _ _) (Value.str _ _)) _ _ _); (refine PyProof.Rows.add_str (hsz := ?zqhz9) ?_); (case zqhz9 => first | (simp only [Str.length_append, sizeLine_eq]; lia) | walk_at "addlen"); intro _ _)
  k_with "subscriptTail Name Name ref int" => (k_here; k_dflt (refine item_led (by k_asm) (by k_mem) (by lia) (by lia) (by assumption) ?_))
  k_with "call builtin:max" => (k_here; k_dflt (refine max_ints rfl (by k_asm) (by k_asm) ?_); intro h' tk' t' F' N'; (try k_sweep))
  k_with "call type:range" => (k_here; (with_reducible show wpAny _ _ (call _ [_, _, _]) _ _ _); k_dflt (refine range3_rows (by k_asm) (by k_asm) (by lia) ?_ (Or.inl (PyProof.noPylong_small (by lia)))); intro h' tk' t₁ u₁ v₁ r' F' N' k')
  k_with "FinA" => ((unfold LCg.FinA); intro D' h' tk' F' N' o1'; (replace o1' := offD_of o1'); (try simp only [OffD, and_true] at o1'); (repeat (obtain ⟨o2', o1'⟩ := o1')); (try simp only [List.nil_append, List.cons_append] at N'); (try dsimp only))
  k_with "exec Assign cons ListComp" => (k_here; k_dflt (refine LCg.Assign_ListComp_U (F₀ := by k_asm) (by rfl) (by with_unfolding_all rfl) (by with_unfolding_all rfl) (by decide) (by rfl) (by decide) (by rfl) (by rfl) (by rfl) ?_))
  k_with "ite" => (refine ite_strs ?_)
  k_with "units_room" => (((try simp only [units_under_make, units_in1, units_deeper, Around.mark_units, units_caller]); (try dsimp only [ktrTop]); (try simp only [units_under_make, units_in1, units_deeper, Around.mark_units, units_caller]); lia))
  k_with "k_room" => (((try simp only [depth_under_make, depth_under_kw, depth_in1, depth_deeper, depth_caller]); (try dsimp only [ktrTop]); lia))
  k_with "k_units" => (units_room)
  k_with "k_all" => (first | assumption | exact off1_ne (by assumption) | exact off1_ne (off3_I (by assumption)) | exact off1_ne (off3_C (by assumption)) | exact off1_ne (off3_D (by assumption)) | exact lt_ne (by assumption) | exact allLt_ne (by assumption) | exact allLt_ne (And.right (by assumption)) | exact allLt_ne (And.right (And.right (by assumption))) | exact allLt_ne (And.right (And.right (And.right (by assumption)))))
  k_with "k_ne" => (first | exact Dist.ne (by assumption) | exact Dist.ne (Dist.symm (by assumption)))
  k_with "led" => ((try dsimp only [vecL, vecD, ent]); (try simp only [List.cons_append, List.nil_append, List.append_nil]); kcf_all)
  k_with "fresh" => first | exact freshL (by assumption) | exact freshL (offD_tail (by assumption)) | exact freshL (offD_sub (by assumption) (by walk_at "led")) | exact freshL (allLt_off (allLt_sub (by assumption) (by walk_at "led")))
  k_with "backL" => (k_whole; intro D' ys' k' h' tk' hys' hof' F' N'; (try dsimp only))
  k_with "backT" => (k_whole; intro t' h' tk' F' N'; (try dsimp only))
  k_with "backV" => (k_whole; intro h' tk' F' N'; (try dsimp only))
  k_with "offD" => first | assumption | exact offD_sub (by assumption) (by walk_at "led") | exact allLt_off (allLt_sub (by assumption) (by walk_at "led"))
  k_with "k_lt" => skip
  k_with "k_all" => (first | exact allLt_ne (by assumption) | exact off1_ne (by assumption) | exact lt_ne (by assumption) | assumption | exact off1_ne (offD_tail (by assumption)) | exact off1_ne (offD_tail (offD_tail (by assumption))))
  k_with "k_ne" => (first | exact Dist.ne (by assumption) | exact Dist.ne (Dist.symm (by assumption)) | exact ne_lt (by assumption) | exact ne_gt (by assumption) | exact ne_gt (And.left (by assumption)) | exact ne_lt (And.left (by assumption)) | exact Dist.ne (And.left (by assumption)) | exact Dist.ne (Dist.symm (And.left (by assumption))) | exact ne_gt (And.left (And.right (by assumption))) | exact ne_lt (And.left (And.right (by assumption))) | (refine neN ?_; (try dsimp only); lia))
  k_with "led" => ((try dsimp only); (try simp only [List.cons_append, List.nil_append, List.append_nil]); (repeat (refine sb_cons (by k_mem) ?_)); first | exact sb_nil | exact sb_refl | ((repeat (first | exact sb_refl | refine sb_tail ?_)); done))
  k_with "exec If" => (k_here; (fail_if_success (have := once9)); refine Stop.mk ?_)
  k_with "exec If Attribute cons cons" => (k_here; (fail_if_success (have := once9)); refine Stop.mk ?_)
  k_with "eval Call" => (k_here; refine Call_ ?_)
  k_with "call ref" => (k_here; (with_reducible show wpAny _ _ (call (.ref 204) _) _ _ _); k_dflt (refine useML (by k_asm) (by k_asm) (by k_asm) (by k_asm) (by k_asm) rfl (by intro p hp; (repeat (refine List.Mem.tail _ ?_)); exact S _ hp) hLT (by k_room) (by units_room) ?_); walk_at "backL")
  k_with "call ref" => (k_here; (with_reducible show wpAny _ _ (call (.ref 293) _) _ _ _); k_dflt (refine useML (by k_asm) (by k_asm) (by k_asm) (by k_asm) (by k_asm) rfl (by intro p hp; (repeat (refine List.Mem.tail _ ?_)); exact S _ hp) hSh (by k_room) (by units_room) ?_); walk_at "backL")
  k_with "call ref" => (k_here; (with_reducible show wpAny _ _ (call (.ref 278) _) _ _ _); k_dflt (refine useMV (by k_asm) (by k_asm) (by k_asm) (by k_asm) (by k_asm) rfl (by intro p hp; (repeat (refine List.Mem.tail _ ?_)); exact S _ hp) hOr (by k_room) (by units_room) ?_); walk_at "backV")
  k_with "call ref" => (k_here; (with_reducible show wpAny _ _ (call (.ref 33) _) _ _ _); refine Stop.mk ?_)
  k_with "call ref" => (k_here; (with_reducible show wpAny _ _ (call (.ref 266) _) _ _ _); refine Stop.mk ?_)
  k_with "call ref" => (k_here; (with_reducible show wpAny _ _ (call (.ref 271) _) _ _ _); k_dflt (refine useMT (by k_asm) (by k_asm) (by k_asm) (by k_asm) (by k_asm) rfl (sb_cons (by k_mem) sb_nil) (levels_calls _ (by assumption) (by lia) h9 hn hs hl) (by k_room) (by units_room) ?_); walk_at "backT")
  k_with "truthy ref" => (k_here; (with_reducible show wpAny _ _ (truthy (Value.ref _)) _ _ _); k_dflt (refine truthy_led (by k_asm) (by k_mem) (by lia) hcne ?_))
  trivial
theorem rows_eq {ys : List Value} {xs : List Str} {ks : List (Option Int)} {o : Bool} {nm : Option (List Str)} {P : Int} {t : Tok} (h : StrsAre ys (dueOf xs ks o nm P)) : StrsAre (ys ++ [.str (levelsRow xs o P) t]) (rowsOf xs ks o nm P) := by
  rw [rowsOf, ← levels_eq]; exact strsAre_snoc h
theorem truthy_led {prog : Program} {w : World} {A : Around} {E : Value → Shared → Prop} {s : Shared} {h₀ : Heap} {L D : Addr} {news : Led} {vs : List Value} {n : Nat} {Q : Bool → Shared → Prop} (N : News h₀ L s.heap news) (hm : (D, listOf vs.toArray n) ∈ news) (hz : vs.length ≤ 12) (hne : vs ≠ []) (h : Q true { s with toks := s.toks + 1 + 1 }) :
    wpAny (model prog w) A (truthy (.ref D)) Q E s := by
  refine wpAny_truthy_list (News.isList N hm) (by rw [List.size_toArray]; lia) ?_
  cases vs with
  | nil => exact absurd rfl hne
  | cons v r => exact h
set_option maxRecDepth 100000 in
set_option maxHeartbeats 4000000 in
theorem printG_calls (w : World) {f fd A c : Addr} {tk t1 t2 t3 t4 t5 : Tok} {n cn : Nat} {cvs : List Value} {xs : List Str} {ks : List (Option Int)} {o : Bool} {nm : Option (List Str)} {all : Led} {P : Int} {tP : Tok}
    (hf : (f, instObj 236 fd) ∈ all) (hfd : (fd, dictOf (vecD w (.str (Str.ofString "integer") tk) (.ref c) (.ref A) t1 t2 t3 t4 t5) n) ∈ all) (hcc : (c, listOf cvs.toArray cn) ∈ all)
    (hLT : Calls w 204 [.ref f] 1 80 all [] (fun v new pre' => ∃ D ys k, v = .ref D ∧ new = [(D, listOf ys.toArray k)] ∧ pre' = all ∧ StrsAre ys xs))
    (hSh : Calls w 293 [.ref f] 5 130 all [] (fun v new pre' => ∃ D ys k, v = .ref D ∧ new = [(D, listOf ys.toArray k)] ∧ pre' = all ∧ StrsAre ys (ks.map (shownOf xs))))
    (hNm : NmCall w f all nm)
    (hOr : Calls w 278 [.ref f] 1 80 all [] (fun v new pre' => v = .bool o ∧ new = [] ∧ pre' = all))
    (hn : xs.length ≤ 12) (hl : ∀ y ∈ xs, Letters y) (hs : Short 100 xs) (hc : CodesAre cvs ks) (hn2 : ks.length ≤ 12) (h0 : 16 ≤ P) (h9 : P ≤ 100)
    (hnm : ∀ ns, nm = some ns → ns.length = ks.length ∧ Short 100 ns ∧ ∀ y ∈ ns, Letters y) :
    CallsR w 286 [.ref f, .int P tP] 6 150 all (fun v new => ∃ D ys k, v = .ref D ∧ new = [(D, listOf ys.toArray k)] ∧ StrsAre ys (rowsOf xs ks o nm P)) := by
  intro dp un gd cn' cs a ccd cl' outer A₀ base h₀ L m s loose mean mg mb full Q E B F X N T hkd S hd hu ret
  cases cs; cases hkd
  have hcl := hc.len_eq
  have hsS := short_shown (ks := ks) hs
  have hlS : (ks.map (shownOf xs)).length ≤ 12 := by rw [List.length_map]; exact hn2
  have N0 := one_more (one_more (one_more N (S _ hcc)) (.tail _ (S _ hfd))) (.tail _ (.tail _ (S _ hf)))
  rw [vecD_lit w _ (.ref c)] at N0
  clear N
  refine wpAny_call ?_
  k_dflt k_enter
  k_steps
  unfold Stop
  refine due_cut (Str.ofString "rows") (R := dueOf xs ks o nm P) (by k_asm) (by k_asm) ?d1 ?d2
  case d1 =>
    intro full9 hfull9
    have once9 : True := trivial
    refine wpAny_If ?_
    by_cases hk0 : ks = []
    · have hcv : cvs = [] := List.eq_nil_of_length_eq_zero (by rw [hcl, hk0]; rfl)
      subst hcv
      k_steps
      all_goals refine StEnd.mk (by k_asm) (by k_asm) rfl (fun z hz => if_neg hz) ⟨_, _, _, rfl, by rw [hfull9]; exact sb_refl, by rw [hfull9]; exact allLt_off (by assumption), ?_, by simp⟩
      all_goals rw [dueOf_nil hk0]
      · rw [show emptyRow o = Str.ofString "ordered(0)" from if_pos (by assumption)]
        exact .cons _ _ .nil
      · rw [show emptyRow o = Str.ofString "factor(0)" from if_neg (by simp_all)]
        exact .cons _ _ .nil
    · have hcne : cvs ≠ [] := fun e => hk0 (List.eq_nil_of_length_eq_zero (by rw [← hcl, e]; rfl))
      have hcvl : cvs.length ≤ 12 := by lia
      k_steps
      unfold Stop
      cases nm with
      | none =>
        replace hNm : Calls w 33 [.ref f] 3 90 all [] (fun v new pre' => v = .none ∧ new = [] ∧ pre' = all) := hNm
        k_dflt (refine useMV (by k_asm) (by k_asm) (by k_asm) (by k_asm) (by k_asm) rfl (by intro p hp; (repeat (refine List.Mem.tail _ ?_)); exact S _ hp) hNm (by k_room) (by units_room) ?_)
        intro h' tk' F' N'
        k_steps
        unfold Stop
        k_dflt (refine useML (by k_asm) (by k_asm) (by k_asm) (by k_asm) (by k_asm) rfl (sb_cons (by k_mem) sb_nil) (textP_calls _ (by assumption) (by lia) h9 hlS hsS) (by k_room) (by units_room) ?_)
        intro D9 ys9 k9 h' tk' hr9 hof9 F' N'
        k_steps
        exact StEnd.mk (by k_asm) (by k_asm) rfl (fun z hz => if_neg hz) ⟨_, _, _, rfl, by rw [hfull9]; exact sb_cons m0 (sb_tail (sb_tail sb_refl)), by rw [hfull9]; exact offD_tail hof9, by rw [dueOf, if_neg hk0, ← plain_eq hlS (by rw [List.length_map]; exact List.length_pos_iff.mpr hk0)]; exact hr9.1, hr9.2⟩
      | some ns =>
        have hns := hnm ns rfl
        replace hNm : Calls w 33 [.ref f] 3 90 all [] (fun v new pre' => ∃ D ys k, v = .ref D ∧ new = [(D, listOf ys.toArray k)] ∧ pre' = all ∧ StrsAre ys ns) := hNm
        k_dflt (refine useML (by k_asm) (by k_asm) (by k_asm) (by k_asm) (by k_asm) rfl (by intro p hp; (repeat (refine List.Mem.tail _ ?_)); exact S _ hp) hNm (by k_room) (by units_room) ?_)
        intro D8 ys8 k8 h' tk' hr8 hof8 F' N'
        k_steps
        unfold Stop
        k_dflt (refine useML (by k_asm) (by k_asm) (by k_asm) (by k_asm) (by k_asm) rfl (sb_cons (by k_mem) (sb_cons (by k_mem) sb_nil)) (textN_calls _ (by assumption) hr8 (by lia) h9 hlS (by rw [List.length_map]; exact hns.1) hsS hns.2.1 hns.2.2) (by k_room) (by units_room) ?_)
        intro D9 ys9 k9 h' tk' hr9 hof9 F' N'
        k_steps
        exact StEnd.mk (by k_asm) (by k_asm) rfl (fun z hz => if_neg hz) ⟨_, _, _, rfl, by rw [hfull9]; exact sb_cons m0 (sb_tail (sb_tail (sb_tail sb_refl))), by rw [hfull9]; exact offD_tail (offD_tail hof9), by rw [dueOf, if_neg hk0, ← named_eq (by rw [List.length_map]; exact hns.1)]; exact hr9.1, hr9.2⟩
  case d2 =>
    intro D2 ys2 kk2 h' tk u3 hoff2 hys2 hyl2 F' N'
    have once9 : True := trivial
    try dsimp only
    k_steps
    exact ret _ [(D2, listOf (ys2 ++ [_]).toArray _)] _ _ ⟨_, _, _, rfl, rfl, rows_eq hys2⟩ (by k_asm) (news_iff (by k_asm) (by walk_at "led"))
section
variable {w : World} {f fd A lv l c cv kl : Addr} {tk t1 t2 t3 t4 t5 : Tok} {n ln cn kn : Nat} {ao : Obj} {ls cvs cls : List Value} {xs : List Str} {ks : List (Option Int)} {o : Bool} {all : Led}
theorem printV {nm : Option (List Str)} {rest : List (Str × Value)} (hf : (f, instObj 236 fd) ∈ all) (hfd : (fd, dictOf (vecD w (.str (Str.ofString "integer") tk) (.ref c) (.ref A) t1 t2 t3 t4 t5) n) ∈ all) (hAl : (A, ao) ∈ all) (hlv : VecAt w lv (Str.ofString "character") (.ref l) all) (hll : (l, listOf ls.toArray ln) ∈ all) (hcc : (c, listOf cvs.toArray cn) ∈ all) (hcv : VecAt w cv (Str.ofString "character") (.ref kl) all) (hkl : (kl, listOf cls.toArray kn) ∈ all)
    (hA : ao.IsDictOf (strKind prg w) ((Str.ofString "levels", .ref lv) :: (Str.ofString "class", .ref cv) :: rest)) (hAm : (A == sysModules) = false) (hx : StrsAre ls xs) (hn : xs.length ≤ 12) (hl : ∀ y ∈ xs, Letters y) (hs : Short 100 xs) (hc : CodesAre cvs ks) (hn2 : ks.length ≤ 12) (ho : ClsIs o cls)
    (hNm : NmCall w f all nm)
    (hnm : ∀ ns, nm = some ns → ns.length = ks.length ∧ Short 100 ns ∧ ∀ y ∈ ns, Letters y) (P : Int) (tP : Tok) (h0 : 16 ≤ P) (h9 : P ≤ 100) :
    CallsR w 286 [.ref f, .int P tP] 6 150 all (fun v new => ∃ D ys k, v = .ref D ∧ new = [(D, listOf ys.toArray k)] ∧ StrsAre ys (rowsOf xs ks o nm P)) := by
  obtain ⟨ld, tk2, s1, s2, s3, s4, s5, n2, a1, a2⟩ := hlv
  obtain ⟨cd, tk3, r1, r2, r3, r4, r5, n3, b1, b2⟩ := hcv
  refine printG_calls w hf hfd hcc (Calls.wide (sb_cons hf (sb_cons hfd (sb_cons hAl (sb_cons a1 (sb_cons a2 (sb_cons hll sb_nil)))))) (leveltexts_calls w hA hAm hx hn) ?_)
    (Calls.wide (sb_cons hf (sb_cons hfd (sb_cons hAl (sb_cons a1 (sb_cons a2 (sb_cons hll (sb_cons hcc sb_nil))))))) (shownlabels_calls w hA hAm hx hn (fun y hy => ⟨hl y hy, Nat.le_trans (hs y hy) (by decide)⟩) hc hn2) ?_) hNm
    (Calls.wide (sb_cons hf (sb_cons hfd (sb_cons hAl (sb_cons b1 (sb_cons b2 (sb_cons hkl sb_nil)))))) (isord_calls w hA hAm ho) ?_) hn hl hs hc hn2 h0 h9 hnm
  · rintro v new pre' ⟨D, ys, k, h1, h2, _, h3⟩; exact ⟨D, ys, k, h1, h2, rfl, h3⟩
  · rintro v new pre' ⟨D, ys, k, h1, h2, _, h3⟩; exact ⟨D, ys, k, h1, h2, rfl, h3⟩
  · rintro v new pre' ⟨h1, h2, _⟩; exact ⟨h1, h2, rfl⟩
theorem tail_noneV (hf : (f, instObj 236 fd) ∈ all) (hfd : (fd, dictOf (vecD w (.str (Str.ofString "integer") tk) (.ref c) (.ref A) t1 t2 t3 t4 t5) n) ∈ all) (hAl : (A, ao) ∈ all) (hlv : VecAt w lv (Str.ofString "character") (.ref l) all) (hll : (l, listOf ls.toArray ln) ∈ all) (hcc : (c, listOf cvs.toArray cn) ∈ all) (hcv : VecAt w cv (Str.ofString "character") (.ref kl) all) (hkl : (kl, listOf cls.toArray kn) ∈ all)
    (hA : ao.IsDictOf (strKind prg w) [(Str.ofString "levels", .ref lv), (Str.ofString "class", .ref cv)]) (hAm : (A == sysModules) = false) (hx : StrsAre ls xs) (hn : xs.length ≤ 12) (hl : ∀ y ∈ xs, Letters y) (hs : Short 100 xs) (hc : CodesAre cvs ks) (hn2 : ks.length ≤ 12) (ho : ClsIs o cls) : TailIs w f xs ks o none .none all := by
  refine ⟨.inl ⟨rfl, rfl⟩, ⟨[(Str.ofString "levels", xs), (Str.ofString "class", clsOf o)], ?_, seenG_calls w hf hfd hAl hA hAm (.cons hlv hll hx (by rw [hx.len_eq]; exact hn) (.cons hcv hkl (cls_strs ho).1 (cls_strs ho).2 .nil)) ?_ (by simp)⟩, ?_⟩
  · show [Str.ofString "levels", Str.ofString "class"].Nodup
    decide +kernel
  · show [Str.ofString "levels", Str.ofString "class"].Nodup
    decide +kernel
  · exact fun P tP h0 h9 => printV (nm := none) hf hfd hAl hlv hll hcc hcv hkl hA hAm hx hn hl hs hc hn2 ho (Calls.wide (sb_cons hf (sb_cons hfd (sb_cons hAl sb_nil))) (namesNone_calls w hA hAm) fun v new pre' h => ⟨h.1, h.2.1, rfl⟩) (fun ns e => nomatch e) P tP h0 h9
theorem tail_someV {nv nl q : Addr} {nn qn : Nat} {nvs : List Value} {nms : List Str} (hf : (f, instObj 236 fd) ∈ all) (hfd : (fd, dictOf (vecD w (.str (Str.ofString "integer") tk) (.ref c) (.ref A) t1 t2 t3 t4 t5) n) ∈ all) (hAl : (A, ao) ∈ all) (hlv : VecAt w lv (Str.ofString "character") (.ref l) all) (hll : (l, listOf ls.toArray ln) ∈ all) (hcc : (c, listOf cvs.toArray cn) ∈ all) (hcv : VecAt w cv (Str.ofString "character") (.ref kl) all) (hkl : (kl, listOf cls.toArray kn) ∈ all)
    (hnv : VecAt w nv (Str.ofString "character") (.ref nl) all) (hnl' : (nl, listOf nvs.toArray nn) ∈ all) (hq : (q, listOf nvs.toArray qn) ∈ all)
    (hA : ao.IsDictOf (strKind prg w) [(Str.ofString "levels", .ref lv), (Str.ofString "class", .ref cv), (Str.ofString "names", .ref nv)]) (hAm : (A == sysModules) = false) (hx : StrsAre ls xs) (hn : xs.length ≤ 12) (hl : ∀ y ∈ xs, Letters y) (hs : Short 100 xs) (hc : CodesAre cvs ks) (hn2 : ks.length ≤ 12) (ho : ClsIs o cls)
    (hnm : StrsAre nvs nms) (hnl : nms.length = ks.length) (hns : Short 100 nms) (hnL : ∀ y ∈ nms, Letters y) : TailIs w f xs ks o (some nms) (.ref q) all := by
  refine ⟨.inr ⟨q, qn, nvs, nms, rfl, rfl, hq, hnm, hnl, hns⟩, ⟨[(Str.ofString "levels", xs), (Str.ofString "class", clsOf o), (Str.ofString "names", nms)], ?_, seenG_calls w hf hfd hAl hA hAm (.cons hlv hll hx (by rw [hx.len_eq]; exact hn) (.cons hcv hkl (cls_strs ho).1 (cls_strs ho).2 (.cons hnv hnl' hnm (by rw [hnm.len_eq, hnl]; exact hn2) .nil))) ?_ (by simp)⟩, ?_⟩
  · show [Str.ofString "levels", Str.ofString "class", Str.ofString "names"].Nodup
    decide +kernel
  · show [Str.ofString "levels", Str.ofString "class", Str.ofString "names"].Nodup
    decide +kernel
  · refine fun P tP h0 h9 => printV (nm := some nms) hf hfd hAl hlv hll hcc hcv hkl hA hAm hx hn hl hs hc hn2 ho ?_ (fun ns e => by cases e; exact ⟨hnl, hns, hnL⟩) P tP h0 h9
    obtain ⟨nd, tk4, q1, q2, q3, q4, q5, n4, c1, c2⟩ := hnv
    refine Calls.wide (sb_cons hf (sb_cons hfd (sb_cons hAl (sb_cons c1 (sb_cons c2 (sb_cons hnl' sb_nil)))))) (namesSome_calls w hA hAm hnm (by lia)) ?_
    rintro v new pre' ⟨D, ys, k, h1, h2, _, h3⟩
    exact ⟨D, ys, k, h1, h2, rfl, h3⟩
end
theorem lets_snoc {xs : List Str} {y : Str} (h : ∀ z ∈ xs, Letters z) (hy : Letters y) : ∀ z ∈ xs ++ [y], Letters z := fun z hz => by
  rcases List.mem_append.mp hz with hz | hz
  · exact h z hz
  · rw [List.mem_singleton.mp hz]; exact hy
theorem fmodN (x : Int) {k : Int} (hk : 0 < k) : 0 ≤ Int.fmod x k ∧ Int.fmod x k < k := ⟨Int.fmod_nonneg_of_pos _ hk, Int.fmod_lt_of_pos _ hk⟩
theorem len_succ {vs : List Value} {v : Value} {i : Nat} (h : vs.length ≤ i) : (vs ++ [v]).length ≤ i + 1 := by simp only [List.length_append, List.length_cons, List.length_nil]; exact Nat.succ_le_succ h
theorem len_succ' {vs : List Value} {v : Value} {i : Nat} (h : vs.length = i) : (vs ++ [v]).length = i + 1 := by simp [h]
theorem short_up {xs : List Str} (h : Short 7 xs) : Short 100 xs := fun z hz => Nat.le_trans (h z hz) (by decide)
theorem nmI {G : Prop} (a : Int) (k : ∀ x, x = a → G) : G := k a rfl
theorem nm6 {h₀ h : Heap} {L a : Addr} {o : Obj} {p1 p2 p3 p4 p5 : Addr × Obj} {l : Led} {G : Prop} (_ : News h₀ L h (p1 :: p2 :: p3 :: p4 :: p5 :: (a, o) :: l)) (k : ∀ x, x = a → G) : G := k a rfl
theorem tlNm {h₀ h : Heap} {L : Addr} {p : Addr × Obj} {l : Led} {G : Prop} (_ : News h₀ L h (p :: l)) (k : ∀ l', l' = l → G) : G := k l rfl
theorem nm8 {h₀ h : Heap} {L a : Addr} {es : List DictEntry} {n : Nat} {p1 p2 p3 p4 p5 p6 p7 : Addr × Obj} {l : Led} {G : Prop} (_ : News h₀ L h (p1 :: p2 :: p3 :: p4 :: p5 :: p6 :: p7 :: (a, dictOf es n) :: l)) (k : ∀ x, x = es → G) : G := k es rfl
theorem nmo {o : Bool} {cls : List Value} {G : Prop} (_ : ClsIs o cls) (k : ∀ x, x = o → G) : G := k o rfl
theorem nmw {w : World} {h : Heap} {G : Prop} (_ : (Mine.hd.heap_39 w.params).In h) (k : ∀ x, x = w → G) : G := k w rfl
theorem words_law : True := by
  k_with_none
  k_with "call builtin:list.pop" => (k_here; k_dflt (refine' kl_pop ?zqF ?zqN (kl_last_snoc _ _) ?zqU ?zqZ ?_; (case zqF => k_asm); (case zqN => k_asm); (case zqU => k_upd); (case zqZ => (simp only [sizeLine_eq]; simp only [List.length_append, List.length_singleton]; lia)); k_whole; intro h' F' N'))
  k_with "CompSrc" => (refine Stop.mk ?_)
  k_with "eval ListComp" => (k_here; k_dflt (refine LCg.ListComp_U (F₀ := by k_asm) (by with_unfolding_all rfl) (by decide) (by rfl) (by decide) (by rfl) ?_))
  k_with "sel" => first | exact Sel.nil | (refine' Sel.cons ?zqsl1 ?zqsl2; (case zqsl1 => walk_at "rem"); (case zqsl2 => walk_at "sel"))
  k_with "rem" => first | exact Rem.head | (refine' Rem.tail ?zqrm1; (case zqrm1 => walk_at "rem"))
  k_with "apart" => first | exact List.forall_mem_nil _ | (refine List.forall_mem_cons.mpr ⟨by k_all, ?_⟩; walk_at "apart")
  k_with "CompEnd" => (refine Stop.mk ?_)
  k_with "call builtin:str.join" => (k_here; k_dflt (refine join_led (by k_asm) (by k_mem) (by first | assumption | walk_at "strs") (by first | assumption | decide +kernel) (by first | assumption | walk_at "joinsum") ?_); intro _ _)
  k_with "led" => ((try dsimp only); (try simp only [List.cons_append, List.nil_append]); kcf_all)
  k_with "pyIter ref" => (k_here; refine Stop.mk ?_)
  k_with "exec For" => (k_here; k_dflt (refine For_invVF (by k_asm) (by rfl) (by rfl) ?_))
  k_with "kept" => (intro z9 h91 h92 h93; (try simp only [List.contains_cons, List.contains_nil, Bool.or_false, Bool.or_eq_false_iff, beq_eq_false_iff_ne, ne_eq] at h93); simp [lmap, kstB, h91, h93])
  k_with "held" => first | exact List.forall_mem_nil _ | (refine List.forall_mem_cons.mpr ⟨rfl, ?_⟩; walk_at "held")
  k_with "call builtin:list.append" => (k_here; k_dflt (refine' append_K ?zqk1 ?zqk2 ?zqk3 ?_ ?zqz; (case zqk1 => k_asm); (case zqk2 => k_asm); (case zqk3 => k_upd); (case zqz => first | (simp only [List.size_toArray, sizeLine_eq, List.length_append, List.length_singleton]; lia) | (simp only [List.size_toArray, sizeLine_eq, List.length_append, List.length_singleton]; refine Nat.le_trans (Nat.add_le_add_right (kpick_len _ _ _) _) ?_; lia)); k_whole); intro h' F' N'; (try simp only [List.push_toArray] at N'); (try k_sweep))
  k_with "call builtin:list.reverse" => (k_here; k_dflt (refine' kl_reverse ?zqF ?zqN ?zqe ?zqU ?zqz ?_; (case zqF => k_asm); (case zqN => k_asm); (case zqU => k_upd); (case zqe => exact (rfl : _ = List.reverse _)); (case zqz => (show List.length _ ≤ _; rw [IntsAre.length (by assumption)]; simp only [sizeLine_eq]; lia)); k_whole); intro h' F' N')
  k_with "below" => ((try simp only [List.cons_append, List.nil_append, AllLt, and_true]); first | assumption | exact allLt_iff.mpr (by assumption) | exact And.right (by assumption) | exact And.right (And.right (by assumption)) | exact And.right (And.right (And.right (by assumption))) | exact And.right (And.right (And.right (And.right (by assumption)))))
  k_with "exec For Name Name cons nil" => (k_here; k_dflt (refine For_invVF (by k_asm) (by rfl) (by rfl) ?_))
  k_with "exec For Name Name" => (k_here; k_dflt (refine For_invVF (by k_asm) (by rfl) (by rfl) ?_))
  k_with "exec For Name Call cons nil" => (k_here; k_dflt (refine For_invVF (by k_asm) (by rfl) (by rfl) ?_))
  k_with "exec For Name Call" => (k_here; k_dflt (refine For_invVF (by k_asm) (by rfl) (by rfl) ?_))
  k_with "exec For Name Attribute cons nil" => (k_here; k_dflt (refine For_invVF (by k_asm) (by rfl) (by rfl) ?_))
  k_with "exec For Name Attribute" => (k_here; k_dflt (refine For_invVF (by k_asm) (by rfl) (by rfl) ?_))
  k_with "exec For Name Subscript cons nil" => (k_here; k_dflt (refine For_invVF (by k_asm) (by rfl) (by rfl) ?_))
  k_with "exec For Name Subscript" => (k_here; k_dflt (refine For_invVF (by k_asm) (by rfl) (by rfl) ?_))
  k_with "exec For Name List cons nil" => (k_here; k_dflt (refine For_invVF (by k_asm) (by rfl) (by rfl) ?_))
  k_with "exec For Name List" => (k_here; k_dflt (refine For_invVF (by k_asm) (by rfl) (by rfl) ?_))
  k_with "call builtin:len" => (k_here; k_dflt (first | (refine P.len_str (by lia) ?_) | (refine len_led (by k_asm) (by k_mem) (by lia) ?_)))
  k_with "call builtin:str.rjust" => (k_here; k_dflt (refine SC.rjust (padOk_of (by lia) (by lia)) ?_); intro _ _)
  k_with "call builtin:str.ljust" => (k_here; k_dflt (refine SC.ljust (padOk_of (by lia) (by lia)) ?_); intro _ _)
  k_with "srcat" => exact Or.inr ⟨_, by k_mem, rfl, _, rfl⟩
  k_with "FinE" => ((unfold LCg.FinE); intro D' h' tk' F' N' o1'; (replace o1' := offD_of o1'); (try simp only [OffD, and_true] at o1'); (repeat (obtain ⟨o2', o1'⟩ := o1')); (try simp only [List.nil_append, List.cons_append] at N'); (try dsimp only))
  k_with "fresh" => ((simp only [FreshOver, OffD, List.nil_append, List.cons_append, and_true]); (repeat' (refine And.intro ?_ ?_)); all_goals first | assumption | exact Dist.symm (by assumption) | exact lt_off (by assumption) | exact allLt_off (by assumption) | exact allLt_off (And.right (by assumption)) | exact allLt_off (And.right (And.right (by assumption))) | exact allLt_off (And.right (And.right (And.right (by assumption)))) | exact Dist.of (by lia))
  k_with "subscriptTail" => (k_here; (with_reducible show wpAny _ _ (subscriptTail _ _ (Value.ref _) (Value.int _ _)) _ _ _); k_dflt (refine item_led (by k_asm) (by k_mem) (by lia) (by lia) (by assumption) ?_))
  k_with "binaryOp Add str str" => (k_here; (with_reducible show wpAny _ _ (binaryOp Operator.Add (Value.str _ _) (Value.str _ _)) _ _ _); (refine PyProof.Rows.add_str (hsz := ?zqhz9) ?_); (case zqhz9 => first | (simp only [Str.length_append, sizeLine_eq]; lia) | walk_at "addlen"); intro _ _)
  k_with "subscriptTail Name Name ref int" => (k_here; k_dflt (refine item_led (by k_asm) (by k_mem) (by lia) (by lia) (by assumption) ?_))
  k_with "call builtin:max" => (k_here; k_dflt (refine max_ints rfl (by k_asm) (by k_asm) ?_); intro h' tk' t' F' N'; (try k_sweep))
  k_with "call type:range" => (k_here; (with_reducible show wpAny _ _ (call _ [_, _, _]) _ _ _); k_dflt (refine range3_rows (by k_asm) (by k_asm) (by lia) ?_ (Or.inl (PyProof.noPylong_small (by lia)))); intro h' tk' t₁ u₁ v₁ r' F' N' k')
  k_with "FinA" => ((unfold LCg.FinA); intro D' h' tk' F' N' o1'; (replace o1' := offD_of o1'); (try simp only [OffD, and_true] at o1'); (repeat (obtain ⟨o2', o1'⟩ := o1')); (try simp only [List.nil_append, List.cons_append] at N'); (try dsimp only))
  k_with "exec Assign cons ListComp" => (k_here; k_dflt (refine LCg.Assign_ListComp_U (F₀ := by k_asm) (by rfl) (by with_unfolding_all rfl) (by with_unfolding_all rfl) (by decide) (by rfl) (by decide) (by rfl) (by rfl) (by rfl) ?_))
  k_with "ite" => (refine ite_strs ?_)
  k_with "units_room" => (((try simp only [units_under_make, units_in1, units_deeper, Around.mark_units, units_caller]); (try dsimp only [ktrTop]); (try simp only [units_under_make, units_in1, units_deeper, Around.mark_units, units_caller]); lia))
  k_with "k_room" => (((try simp only [depth_under_make, depth_under_kw, depth_in1, depth_deeper, depth_caller]); (try dsimp only [ktrTop]); lia))
  k_with "k_units" => (units_room)
  k_with "k_all" => (first | assumption | exact off1_ne (by assumption) | exact off1_ne (off3_I (by assumption)) | exact off1_ne (off3_C (by assumption)) | exact off1_ne (off3_D (by assumption)) | exact lt_ne (by assumption) | exact allLt_ne (by assumption) | exact allLt_ne (And.right (by assumption)) | exact allLt_ne (And.right (And.right (by assumption))) | exact allLt_ne (And.right (And.right (And.right (by assumption)))))
  k_with "k_ne" => (first | exact Dist.ne (by assumption) | exact Dist.ne (Dist.symm (by assumption)))
  k_with "k_lt" => skip
  k_with "k_memK" => ((first | with_reducible exact m0 | (with_reducible refine mtl ?_; first | with_reducible exact m0 | (with_reducible refine mtl ?_; first | with_reducible exact m0 | (with_reducible refine mtl ?_; first | with_reducible exact m0 | (with_reducible refine mtl ?_; first | with_reducible exact m0 | (with_reducible refine mtl ?_; first | with_reducible exact m0 | (with_reducible refine mtl ?_; first | with_reducible exact m0 | (with_reducible refine mtl ?_; first | with_reducible exact m0 | (with_reducible refine mtl ?_; first | with_reducible exact m0 | (with_reducible refine mtl ?_; first | with_reducible exact m0 | (with_reducible refine mtl ?_; first | with_reducible exact m0 | (with_reducible refine mtl ?_; first | with_reducible exact m0 | (with_reducible refine mtl ?_; first | with_reducible exact m0 | (with_reducible refine mtl ?_; first | with_reducible exact m0 | (with_reducible refine mtl ?_; first | with_reducible exact m0 | (with_reducible refine mtl ?_; first | with_reducible exact m0 | (with_reducible refine mtl ?_; first | with_reducible exact m0 | (with_reducible refine mtl ?_; first | with_reducible exact m0 | (with_reducible refine mtl ?_; first | with_reducible exact m0 | (with_reducible refine mtl ?_; first | with_reducible exact m0 | (with_reducible refine mtl ?_; first | with_reducible exact m0 | (with_reducible refine mtl ?_; first | with_reducible exact m0 | (with_reducible refine mtl ?_; first | with_reducible exact m0 | (with_reducible refine mtl ?_; first | with_reducible exact m0 | (with_reducible refine mtl ?_; first | with_reducible exact m0 | (with_reducible refine mtl ?_; first | with_reducible exact m0 | (with_reducible refine mtl ?_; first | with_reducible exact m0 | (with_reducible refine mtl ?_; first | with_reducible exact m0 | (with_reducible refine mtl ?_; first | with_reducible exact m0 | (with_reducible refine mtl ?_; first | with_reducible exact m0 | (with_reducible refine mtl ?_; first | with_reducible exact m0 | (with_reducible refine mtl ?_; first | with_reducible exact m0 | (with_reducible refine mtl ?_; first | with_reducible exact m0 | (with_reducible refine mtl ?_; first | with_reducible exact m0 | (with_reducible refine mtl ?_; assumption) | with_reducible assumption) | with_reducible assumption) | with_reducible assumption) | with_reducible assumption) | with_reducible assumption) | with_reducible assumption) | with_reducible assumption) | with_reducible assumption) | with_reducible assumption) | with_reducible assumption) | with_reducible assumption) | with_reducible assumption) | with_reducible assumption) | with_reducible assumption) | with_reducible assumption) | with_reducible assumption) | with_reducible assumption) | with_reducible assumption) | with_reducible assumption) | with_reducible assumption) | with_reducible assumption) | with_reducible assumption) | with_reducible assumption) | with_reducible assumption) | with_reducible assumption) | with_reducible assumption) | with_reducible assumption) | with_reducible assumption) | with_reducible assumption) | with_reducible assumption) | with_reducible assumption) | with_reducible assumption) | with_reducible assumption) | with_reducible assumption))
  k_with "k_mem" => (k_memK)
  k_with "k_ne" => (first | exact Dist.ne (by assumption) | exact Dist.ne (Dist.symm (by assumption)) | exact off_at (by assumption) (by k_memK) | exact off_at' (by assumption) (by k_memK) | exact lt_at (by assumption) (by k_memK) | exact lt_at' (by assumption) (by k_memK))
  k_with "k_all" => (first | exact allLt_ne (by assumption) | exact off1_ne (by assumption) | exact fa_nil | (refine fa_cons ?zqzqA ?_; (case zqzqA => k_ne); k_all))
  k_with "led" => ((try dsimp only); (try simp only [List.cons_append, List.nil_append, List.append_nil]); (repeat (refine sb_cons ?zqL ?_; (case zqL => k_mem))); first | exact sb_nil | exact sb_refl | ((repeat (first | exact sb_refl | refine sb_tail ?_)); done))
  k_with "call ref" => (k_here; (with_reducible show wpAny _ _ (call (.ref 300) _) _ _ _); refine Stop.mk ?_)
  k_with "ite" => ((with_reducible show ite _ (wpAny _ _ (eval (PySem.Expr.List _ _) _) _ _ _) _); refine Stop.mk ?_)
  k_with "eval Call" => (k_here; refine Call_ ?_)
  k_with "k_qdec" => (first | exact hd_names | exact hd_imports)
  trivial
set_option maxRecDepth 100000 in
set_option maxHeartbeats 16000000 in
theorem law_walk : PySem.Challenge.rw_nz0483_01.Holds := by
  w_on
  refine holds_law hd_said fun said => ?_
  refine holds_open (q := hd.view_39) (loose := hdLoose) (Xt := fun s => xlAt hd.view_39 [] s && recOk (RowW.records (OpenRow.toRowW (OpenLaw.row PySem.Challenge.rw_nz0483_01))) s) (XP := XL hd.view_39 []) (Yf := Hook.obs (kHook hd.heap_39 hdAddrs hd_addrs)) (Ya := Hook.val (kHook hd.heap_39 hdAddrs hd_addrs)) (YP := Hook.says (kHook hd.heap_39 hdAddrs hd_addrs)) (N := 3536) hd_left (Hook.of (kHook hd.heap_39 hdAddrs hd_addrs)) (Hook.keeps (kHook hd.heap_39 hdAddrs hd_addrs)) (fun s e => xl_of s (Bool.and_eq_true_iff.mp e).1) XL.keeps (by rfl) (by rfl) (by rfl) (fun s e => recFacts_of (Bool.and_eq_true_iff.mp e).2) (by rfl) (by first | assumption | decide +kernel) (by decide +kernel) ⟨rfl, rfl, rfl, rfl, rfl, by decide +kernel⟩ ?hw ?hc
  case hw => w_witness2
  w_strict (k_go0; (all_goals try k_fold); k_steps)
  unfold Stop
  k_dflt (refine lawrow_calls _ _ _ _ _ _ _ _ _ _ _ _ _ _ _ _ _ _ _ _ _ _ _ _ _ _ (by k_asm) (by k_asm) (by k_asm) (by k_asm) (by k_asm) rfl (by assumption) (by assumption) (by lia) (by k_room) (by units_room) ?_)
  intro row9 rvs rn q h' tk' hrow F' N' hrq hql
  have hrw : RowIs rvs := ⟨q, hrq, by lia⟩
  clear hrq hql
  k_with "newList" => (k_here; k_dflt (refine newList_K (by k_asm) (by k_asm) ?_); intro lv9 h' F' N' hlv9; (try (replace hlv9 := allLt_of hlv9)); (try k_sweep))
  k_with "call ref" => (k_here; (with_reducible show wpAny _ _ (call (.ref 307) _) _ _ _); k_dflt (refine useNext (by k_asm) (by k_asm) (by k_asm) (by k_asm) (by k_asm) rfl (by walk_at "rem") (by assumption) (by k_room) (by units_room) (by k_all) ?_); k_whole; intro xa txa vxa nxa h' tk' ha F' N'; (try dsimp only))
  k_with "call ref" => (k_here; (with_reducible show wpAny _ _ (call (.ref 317) _) _ _ _); k_dflt (refine useWord (by k_asm) (by k_asm) (by k_asm) (by k_asm) (by k_asm) rfl (by walk_at "rem") (by assumption) (by k_room) (by units_room) (by k_all) ?_); k_whole; intro yw tw vw nw h' tk' hrw hyL hyn F' N'; (try dsimp only))
  k_with "compareOp NotIn str ref" => (k_here; k_dflt (refine notin_list_strs (News.isList (by k_asm) (by k_mem)) (by assumption) ?_))
  k_steps
  unfold Stop
  have hm10 := fmodN xa (k := 10) (by decide)
  refine for_range0 (n := (Int.fmod xa 10).toNat) (fun c : ((List Value × Nat) × (List Value × Nat)) × List Str => [(row9, listOf c.1.1.1.toArray c.1.1.2), (lv9, listOf c.1.2.1.toArray c.1.2.2)]) _ [Str.ofString "word"] (fun _ => []) (fun i c => RowIs c.1.1.1 ∧ c.1.2.1.length ≤ i ∧ StrsAre c.1.2.1 c.2 ∧ (∀ y ∈ c.2, Letters y) ∧ Short 7 c.2) (((_, _), ([], _)), [])
    (by k_asm) (by k_asm) (by assumption) (by lia) (by lia) sb_refl (fun _ => rfl) (by walk_at "held") rfl ⟨by assumption, Nat.le_refl _, .nil, by simp, short_nil⟩ ?_ ?_
  · intro i t c u I oI h tk hi9 hJ hlt F₁ N₁
    simp only [List.cons_append, List.nil_append] at N₁ hlt
    have hrw := hJ.1
    have hul := hJ.2.1
    have hxs := hJ.2.2.1
    have hxL := hJ.2.2.2.1
    have hxS := hJ.2.2.2.2
    clear hJ
    k_steps
    all_goals first
      | exact TEnd.next (c' := (((vw, nw), (c.1.2.1, c.1.2.2)), c.2)) (by k_asm) (by k_asm) (by walk_at "led") (by walk_at "held") (by walk_at "kept") ⟨by assumption, Nat.le_succ_of_le hul, hxs, hxL, hxS⟩
      | exact TEnd.next (c' := (((vw, nw), (c.1.2.1 ++ [Value.str yw tw], _)), c.2 ++ [yw])) (by k_asm) (by k_asm) (by walk_at "led") (by walk_at "held") (by walk_at "kept") ⟨by assumption, len_succ hul, strsAre_snoc hxs, lets_snoc hxL (by assumption), short_app hxS (short_one (by assumption))⟩
  · intro c u v h tk hJ F₁ N₁
    simp only [List.cons_append, List.nil_append] at N₁
    have hrw := hJ.1
    have hul := hJ.2.1
    have hxs := hJ.2.2.1
    have hxL := hJ.2.2.2.1
    have hxS := hJ.2.2.2.2
    clear hJ
    have hxl := hxs.len_eq
    have hn12 : c.2.length ≤ 12 := by lia
    have hS100 : Short 100 c.2 := short_up hxS
    k_with "newList" => (k_here; k_dflt (refine newList_K (by k_asm) (by k_asm) ?_); intro cd9 h' F' N' hcd9; (try (replace hcd9 := allLt_of hcd9)); (try k_sweep))
    k_with "call ref" => (k_here; (with_reducible show wpAny _ _ (call (.ref 307) _) _ _ _); k_dflt (refine useNext (by k_asm) (by k_asm) (by k_asm) (by k_asm) (by k_asm) rfl (by walk_at "rem") (by assumption) (by k_room) (by units_room) (by k_all) ?_); k_whole; intro xb txb vxb nxb h' tk' hb F' N'; (try dsimp only))
    k_steps
    unfold Stop
    have hm13 := fmodN xb (k := 13) (by decide)
    refine for_range0 (n := (Int.fmod xb 13).toNat) (fun d : ((List Value × Nat) × (List Value × Nat)) × List (Option Int) => [(cd9, listOf d.1.1.1.toArray d.1.1.2), (row9, listOf d.1.2.1.toArray d.1.2.2)]) _ [Str.ofString "draw"] (fun _ => []) (fun i d => RowIs d.1.2.1 ∧ d.1.1.1.length = i ∧ CodesAre d.1.1.1 d.2) ((([], _), (_, _)), [])
      (by k_asm) (by k_asm) (by assumption) (by lia) (by lia) sb_refl (fun _ => rfl) (by walk_at "held") rfl ⟨by assumption, rfl, .nil⟩ ?_ ?_
    · intro i t d u I oI h tk hi9 hJ hlt F₁ N₁
      simp only [List.cons_append, List.nil_append] at N₁ hlt
      have hrw := hJ.1
      have hcl := hJ.2.1
      have hcs := hJ.2.2
      clear hJ
      k_with "call ref" => (k_here; (with_reducible show wpAny _ _ (call (.ref 307) _) _ _ _); k_dflt (refine useNext (by k_asm) (by k_asm) (by k_asm) (by k_asm) (by k_asm) rfl (by walk_at "rem") (by assumption) (by k_room) (by units_room) (by k_all) ?_); k_whole; intro xd txd vxd nxd h' tk' hd9 F' N'; (try dsimp only))
      k_steps
      all_goals first
        | exact TEnd.next (c' := (((d.1.1.1 ++ [Value.none], _), (vxd, nxd)), d.2 ++ [none])) (by k_asm) (by k_asm) (by walk_at "led") (by walk_at "held") (by walk_at "kept") ⟨by assumption, len_succ' hcl, hcs.app (.none .nil)⟩
        | exact TEnd.next (c' := (((d.1.1.1 ++ [Value.int _ _], _), (vxd, nxd)), d.2 ++ [some _])) (by k_asm) (by k_asm) (by walk_at "led") (by walk_at "held") (by walk_at "kept") ⟨by assumption, len_succ' hcl, hcs.app (.int _ _ .nil)⟩
    · intro d u v h tk hJ F₁ N₁
      simp only [List.cons_append, List.nil_append] at N₁
      have hrw := hJ.1
      have hcl := hJ.2.1
      have hcs := hJ.2.2
      clear hJ
      have hkl := hcs.len_eq
      have hk12 : d.2.length ≤ 12 := by lia
      k_with "call ref" => (k_here; (with_reducible show wpAny _ _ (call (.ref 307) _) _ _ _); k_dflt (refine useNext (by k_asm) (by k_asm) (by k_asm) (by k_asm) (by k_asm) rfl (by walk_at "rem") (by assumption) (by k_room) (by units_room) (by k_all) ?_); k_whole; intro xc txc vxc nxc h' tk' hc F' N'; (try dsimp only))
      k_with "call ref" => (k_here; (with_reducible show wpAny _ _ (call (.ref 236) _) _ _ _); refine Stop.mk ?_)
      k_steps
      unfold Stop
      have hm45 := fmodN xc (k := 45) (by decide)
      refine nmI (60 - Int.fmod xc 45) fun P9 hP9 => ?_
      have hP16 : 16 ≤ P9 := by lia
      have hP60 : P9 ≤ 60 := by lia
      k_dflt (refine useVecF (by k_asm) (by k_asm) (by k_asm) (by k_asm) (by k_asm) rfl (by k_room) (by units_room) ?_)
      intro fv fd p1 p2 p3 p4 p5 h' tk' hf1 hf2 hf3 F' N'
      k_steps
      unfold Stop
      k_dflt (refine useVecO (by k_asm) (by k_asm) (by k_asm) (by k_asm) (by k_asm) rfl (by k_room) (by units_room) ?_)
      intro lvv lvd olv old h' tk' hlv hl1 hl2 hl3 F' N'
      k_steps
      unfold Stop
      refine' cls_cut (fun ho => ?h1) (fun ho => ?h2) ?h3
      case h1 =>
        k_steps
        exact clsEnd1 ho (by k_asm) (by k_asm) (by k_asm)
      case h2 =>
        k_steps
        exact clsEnd2 ho (by k_asm) (by k_asm) (by k_asm)
      case h3 =>
        intro kl9 cls kn9 h' tk' hcls F' N' hkl9
        k_with "setAttr ref" => (k_here; (fail_if_success (have := once9)); refine Stop.mk ?_)
        k_steps
        unfold Stop
        k_dflt (refine useVecO (by k_asm) (by k_asm) (by k_asm) (by k_asm) (by k_asm) rfl (by k_room) (by units_room) ?_)
        intro cvv cvd ocv ocd h' tk' hcv hc1 hc2 hc3 F' N'
        k_steps
        unfold Stop
        rename Obj.IsDictOf _ _ (strPairs _) => hdA
        simp only [strPairs] at hdA
        rename News _ _ _ (_ :: _ :: _ :: _) => hN9
        refine nm6 hN9 ?_
        rintro Av rfl
        have once9 : True := trivial
        walk1
        clear once9
        try dsimp only
        try clear hN9
        k_with "exec If Compare cons nil" => (k_here; refine Stop.mk ?_)
        k_with "exec If Compare cons" => (k_here; refine Stop.mk ?_)
        (repeat (first | walk1 | (dsimp only; walk1)))
        unfold Stop
        rename News _ _ _ (_ :: _ :: _ :: _) => hN9
        refine nm8 hN9 ?_
        intro es9 hes9
        refine nmo hcls ?_
        intro o9 ho9
        refine nmw (by assumption : (hd.heap_39 _).In _) ?_
        intro w9 hw9
        refine st_cut (Str.ofString "names") (fun v all => (fv, instObj 236 fd) ∈ all ∧ (fd, dictOf es9 5) ∈ all ∧ (cd9, listOf d.1.1.1.toArray d.1.1.2) ∈ all ∧ (lv9, listOf c.1.2.1.toArray c.1.2.2) ∈ all ∧ ∃ nm, TailIs w9 fv c.2 d.2 o9 nm v all) (by k_asm) ?c1 ?c2
        case c1 =>
          refine wpAny_If ?_
          k_with "call ref" => (k_here; (with_reducible show wpAny _ _ (call (.ref 307) _) _ _ _); k_dflt (refine useNext (by k_asm) (by k_asm) (by k_asm) (by k_asm) (by k_asm) rfl (by walk_at "rem") (by assumption) (by k_room) (by units_room) (by k_all) ?_); k_whole; intro xn txn vxn nxn h' tk' hn9 F' N'; (try dsimp only))
          k_with "eval Name" => (k_here; (with_reducible show wpAny _ _ (eval (Expr.Name (Str.ofString "_law_word") _) (compEnvC _ _ _ _)) _ _ _); k_dflt (refine LCgL.ld_global (by k_asm) (by k_asm) (by k_asm) (by k_is) ?_))
          k_steps
          · unfold Stop
            rename News _ _ _ ((row9, _) :: _) => hN8
            refine tlNm hN8 ?_
            intro B0 hB0
            rw [← hB0] at hN8
            k_dflt (refine LCg.CompSrc.range (by rfl) (by k_asm) (by exact hN8) (by assumption) (range_facts (by lia) (by lia)).1 (range_facts (by lia) (by lia)).2 (size_ok (by lia)) ?_)
            intro g
            refine comp_inv (fun e : (List Value × Nat) × List Str => (row9, listOf e.1.1.toArray e.1.2) :: B0) (fun i ys e => RowIs e.1.1 ∧ ys.length = i ∧ StrsAre ys e.2 ∧ (∀ y ∈ e.2, Letters y) ∧ Short 7 e.2) ((_, _), []) ⟨by assumption, rfl, .nil, by simp, short_nil⟩ ?_ ?_
            · intro i ys e v I oI C oC D m₂ h tk E' hin hJ hP hoC hx F₁ N₁ hoff hne
              subst hB0
              have hrw := hJ.1
              have hyl5 := hJ.2.1
              have hns5 := hJ.2.2.1
              have hnL5 := hJ.2.2.2.1
              have hnS5 := hJ.2.2.2.2
              clear hJ
              have ho1 := off3_I (off3_of hoff)
              have ho2 := off3_C (off3_of hoff)
              have ho3 := off3_D (off3_of hoff)
              try dsimp only
              k_steps
              unfold Stop
              refine compEnd_eq (c := ((vw, nw), e.2 ++ [yw])) ⟨by assumption, len_succ' hyl5, strsAre_snoc hns5, lets_snoc hnL5 (by assumption), short_app hnS5 (short_one (by assumption))⟩ (by assumption) (by k_asm) (by walk_at "led") (by exact hoff) trivial
            · intro ys e hJ
              subst hB0
              have hrw := hJ.1
              have hyl5 := hJ.2.1
              have hns5 := hJ.2.2.1
              have hnL5 := hJ.2.2.2.1
              have hnS5 := hJ.2.2.2.2
              clear hJ
              have hnl5 : e.2.length = d.2.length := by rw [← hns5.len_eq, hyl5]; lia
              have hyl12 : ys.length ≤ 12 := by rw [hns5.len_eq]; lia
              k_with "call type:list" => (k_here; (with_reducible show wpAny _ _ (call (Value.type _) [Value.ref _]) _ _ _); k_dflt (refine list_copyK (by k_asm) (by k_asm) (News.isList (by k_asm) (by first | assumption | exact .tail _ (.tail _ (by assumption)) | k_mem)) ?_ (size_ok (by simp only [List.size_toArray]; lia))); k_whole; intro q9 cq9 h' F' N' hq9; (try (replace hq9 := allLt_of hq9)); (try k_sweep))
              k_steps
              unfold Stop
              k_dflt (refine useVecO (by k_asm) (by k_asm) (by k_asm) (by k_asm) (by k_asm) rfl (by k_room) (by units_room) ?_)
              intro nvv nvd onv ond h' tk' hnv hn1 hn2 hn3 F' N'
              k_steps
              rename Obj.IsDictOf _ _ [_, _, _] => hdB
              refine StEnd.mk (by k_asm) (by k_asm) rfl (fun z hz => if_neg hz) ⟨(.tail _ (.tail _ (.tail _ (.tail _ (.tail _ (.tail _ (.tail _ (.tail _ (.tail _ (.tail _ (.tail _ (.head _)))))))))))), by rw [hes9]; exact (.tail _ (.tail _ (.tail _ (.tail _ (.tail _ (.tail _ (.tail _ (.tail _ (.tail _ (.tail _ (.tail _ (.tail _ (.head _))))))))))))), (.tail _ (.tail _ (.tail _ (.tail _ (.tail _ (.tail _ (.tail _ (.tail _ (.tail _ (.tail _ (.tail _ (.tail _ (.tail _ (.head _)))))))))))))), (.tail _ (.tail _ (.tail _ (.tail _ (.tail _ (.tail _ (.tail _ (.tail _ (.tail _ (.tail _ (.tail _ (.tail _ (.tail _ (.tail _ (.head _))))))))))))))), some e.2, ?_⟩
              rw [hw9, ho9]
              exact tail_someV (fd := fd) (l := lv9) (c := cd9) (kl := kl9) (nl := q9) (.tail _ (.tail _ (.tail _ (.tail _ (.tail _ (.tail _ (.tail _ (.tail _ (.tail _ (.tail _ (.tail _ (.head _)))))))))))) (.tail _ (.tail _ (.tail _ (.tail _ (.tail _ (.tail _ (.tail _ (.tail _ (.tail _ (.tail _ (.tail _ (.tail _ (.head _))))))))))))) (.tail _ (.tail _ (.tail _ (.tail _ (.tail _ (.tail _ (.tail _ (.tail _ (.tail _ (.tail _ (.head _))))))))))) (hlv.mono (sb_cons (.tail _ (.tail _ (.tail _ (.tail _ (.tail _ (.tail _ (.tail _ (.tail _ (.head _))))))))) (sb_cons (.tail _ (.tail _ (.tail _ (.tail _ (.tail _ (.tail _ (.tail _ (.tail _ (.tail _ (.head _)))))))))) sb_nil))) (.tail _ (.tail _ (.tail _ (.tail _ (.tail _ (.tail _ (.tail _ (.tail _ (.tail _ (.tail _ (.tail _ (.tail _ (.tail _ (.tail _ (.head _))))))))))))))) (.tail _ (.tail _ (.tail _ (.tail _ (.tail _ (.tail _ (.tail _ (.tail _ (.tail _ (.tail _ (.tail _ (.tail _ (.tail _ (.head _)))))))))))))) (hcv.mono (sb_cons (.tail _ (.tail _ (.tail _ (.tail _ (.tail _ (.head _)))))) (sb_cons (.tail _ (.tail _ (.tail _ (.tail _ (.tail _ (.tail _ (.head _))))))) sb_nil))) (.tail _ (.tail _ (.tail _ (.tail _ (.tail _ (.tail _ (.tail _ (.head _)))))))) (hnv.mono (sb_cons (.head _) (sb_cons (.tail _ (.head _)) sb_nil))) (.tail _ (.tail _ (.head _))) (.tail _ (.tail _ (.tail _ (.head _)))) hdB (by assumption) hxs hn12 hxL hS100 hcs hk12 hcls hns5 hnl5 (short_up hnS5) hnL5
          · refine StEnd.mk (by k_asm) (by k_asm) rfl (fun _ _ => rfl) ⟨(.tail _ (.tail _ (.tail _ (.tail _ (.tail _ (.tail _ (.tail _ (.head _)))))))), by rw [hes9]; exact (.tail _ (.tail _ (.tail _ (.tail _ (.tail _ (.tail _ (.tail _ (.tail _ (.head _))))))))), (.tail _ (.tail _ (.tail _ (.tail _ (.tail _ (.tail _ (.tail _ (.tail _ (.tail _ (.head _)))))))))), (.tail _ (.tail _ (.tail _ (.tail _ (.tail _ (.tail _ (.tail _ (.tail _ (.tail _ (.tail _ (.head _))))))))))), none, ?_⟩
            rw [hw9, ho9]
            exact tail_noneV (fd := fd) (l := lv9) (c := cd9) (kl := kl9) (.tail _ (.tail _ (.tail _ (.tail _ (.tail _ (.tail _ (.tail _ (.head _)))))))) (.tail _ (.tail _ (.tail _ (.tail _ (.tail _ (.tail _ (.tail _ (.tail _ (.head _))))))))) (.tail _ (.tail _ (.tail _ (.tail _ (.tail _ (.tail _ (.head _))))))) (hlv.mono (sb_cons (.tail _ (.tail _ (.tail _ (.tail _ (.head _))))) (sb_cons (.tail _ (.tail _ (.tail _ (.tail _ (.tail _ (.head _)))))) sb_nil))) (.tail _ (.tail _ (.tail _ (.tail _ (.tail _ (.tail _ (.tail _ (.tail _ (.tail _ (.tail _ (.head _))))))))))) (.tail _ (.tail _ (.tail _ (.tail _ (.tail _ (.tail _ (.tail _ (.tail _ (.tail _ (.head _)))))))))) (hcv.mono (sb_cons (.tail _ (.head _)) (sb_cons (.tail _ (.tail _ (.head _))) sb_nil))) (.tail _ (.tail _ (.tail _ (.head _)))) hdA (by assumption) hxs hn12 hxL hS100 hcs hk12 hcls
        case c2 =>
          intro h' tk u2 nmv all F' N' hJ
          refine Exists.elim hJ.2.2.2.2 fun nm hT => ?_
          rw [hw9, ho9] at hT
          have hc1 := hJ.2.2.1
          have hl1 := hJ.2.2.2.1
          have N2 := two_more N' hJ.1 (hes9 ▸ hJ.2.1)
          clear N' hes9 hw9 ho9 hJ
          have hNm := hT.1
          refine Exists.elim hT.2.1 fun data hdat => ?_
          have hdn := hdat.1
          have hseen := hdat.2
          have hprint := hT.2.2
          clear hdat hT
          k_with "call ref" => (k_here; (with_reducible show wpAny _ _ (call (.ref 312) _) _ _ _); refine Stop.mk ?_)
          k_with "call ref" => (k_here; (with_reducible show wpAny _ _ (call (.ref 286) _) _ _ _); refine Stop.mk ?_)
          k_with "call ref" => (k_here; (with_reducible show wpAny _ _ (call (.ref 327) _) _ _ _); refine Stop.mk ?_)
          k_with "call ref" => (k_here; (with_reducible show wpAny _ _ (call (.ref 332) _) _ _ _); refine Stop.mk ?_)
          k_with "call ref" => (k_here; (with_reducible show wpAny _ _ (call (.ref 322) _) _ _ _); refine Stop.mk ?_)
          k_with "call type:list" => (k_here; (with_reducible show wpAny _ _ (call (Value.type _) [Value.ref _]) _ _ _); k_dflt (refine list_copyK (by k_asm) (by k_asm) (News.isList (by k_asm) (by first | assumption | exact .tail _ (.tail _ (by assumption)) | k_mem)) ?_ (size_ok (by simp only [List.size_toArray]; lia))); k_whole; intro cc9 ccc9 h' F' N' hcc9; (try (replace hcc9 := allLt_of hcc9)); (try k_sweep))
          k_with "newTuple" => (k_here; k_dflt (refine' kup_newTuple ?zqF ?zqN ?_ ?zqz; (case zqF => k_asm); (case zqN => k_asm); (case zqz => kmk_size)); intro tu9 h' F' N' htu9; (try (replace htu9 := allLt_of htu9)); (try k_sweep))
          k_with "newList" => (k_here; k_dflt (refine newList_K (by k_asm) (by k_asm) ?_); intro wd9 h' F' N' hwd9; (try (replace hwd9 := allLt_of hwd9)); (try k_sweep))
          k_steps
          unfold Stop
          k_dflt (refine useSeen3 (by k_asm) (by k_asm) (by k_asm) (by k_asm) (by k_asm) rfl sb_refl hseen (by k_room) (by units_room) ?_)
          intro D1 B1 h' tk' hB1 hD1 F' N1
          have hc2 := hB1 _ hc1
          have hl2 := hB1 _ hl1
          k_steps
          unfold Stop
          k_with "eval Subscript" => (k_here; refine Subscript_ ?_)
          k_with "subscriptTail" => (k_here; (with_reducible show wpAny _ _ (subscriptTail _ _ (Value.ref _) (Value.int _ _)) _ _ _); k_dflt (refine item_strs (by k_asm) (by k_mem) hxs (by lia) (by lia) (by assumption) ?_); intro _)
          k_with "subscriptTail Name BinOp ref int" => (k_here; (with_reducible show wpAny _ _ (subscriptTail _ _ (Value.ref _) (Value.int _ _)) _ _ _); k_dflt (refine item_strs (by k_asm) (by k_mem) hxs (by lia) (by lia) (by assumption) ?_); intro _)
          refine for_list (fun e : List Value × Nat => [(wd9, listOf e.1.toArray e.2)]) _ [] (fun _ => []) (fun i e => StrsAre e.1 ((d.2.take i).map (shownOf c.2)) ∧ e.1.length ≤ i) ([], _)
            (by k_asm) (by k_asm) (by k_mem) sb_refl (fun _ => rfl) (by walk_at "held") rfl ⟨.nil, Nat.le_refl _⟩ ?_ ?_
          · intro i v e u I oI h tk hi9 hv hJ hlt F₁ N₁
            simp only [List.cons_append, List.nil_append] at N₁ hlt
            have hws := hJ.1
            have hwl := hJ.2
            clear hJ
            have hi12 : i < 13 := by lia
            revert F₁
            refine codes_elim hcs hv ?_ ?_
            · intro hki F₁
              k_steps
              exact TEnd.next (c' := (e.1 ++ [Value.str _ _], _)) (by k_asm) (by k_asm) (by walk_at "led") (by walk_at "held") (by walk_at "kept") ⟨shown_snoc hws hki rfl, len_succ hwl⟩
            · intro k tk9 hki F₁
              k_steps
              all_goals first
                | exact TEnd.next (c' := (e.1 ++ [Value.str _ _], _)) (by k_asm) (by k_asm) (by walk_at "led") (by walk_at "held") (by walk_at "kept") ⟨shown_snoc hws hki (shown_in (by lia)), len_succ hwl⟩
                | exact TEnd.next (c' := (e.1 ++ [Value.str _ _], _)) (by k_asm) (by k_asm) (by walk_at "led") (by walk_at "held") (by walk_at "kept") ⟨shown_snoc hws hki (shown_out (by lia)), len_succ hwl⟩
          · intro e u v h tk hJ F₁ N₁
            simp only [List.cons_append, List.nil_append] at N₁
            have hws := hJ.1
            have hwl := hJ.2
            clear hJ
            rw [List.take_of_length_le (by lia)] at hws
            have hwk := hws.len_eq
            rw [List.length_map] at hwk
            k_steps
            unfold Stop
            have hwS : Short 100 (d.2.map (shownOf c.2)) := short_shown hS100
            have hws12 : (d.2.map (shownOf c.2)).length ≤ 12 := by rw [List.length_map]; exact hk12
            refine nmo hcls ?_
            intro o6 ho6
            refine due_cut (Str.ofString "due") (R := dueOf c.2 d.2 o6 nm P9) (by k_asm) (by k_asm) ?d1 ?d2
            case d1 =>
              intro full9 hfull9
              refine wpAny_If ?_
              k_with "newList" => (k_here; k_dflt (refine newList_K (by k_asm) (by k_asm) ?_); intro du9 h' F' N' hdu9; (try (replace hdu9 := allLt_of hdu9)); (try k_sweep))
              k_steps
              · have hk0 : d.2 = [] := List.eq_nil_of_length_eq_zero (by lia)
                refine StEnd.mk (by k_asm) (by k_asm) rfl (fun z hz => if_neg hz) ⟨_, _, _, rfl, by rw [hfull9]; exact sb_refl, ?_, ?_, by simp⟩
                · rw [hfull9]
                  exact allLt_off (by assumption)
                · rw [ho6, dueOf_nil hk0]
                  unfold emptyRow
                  exact .cons _ _ .nil
              · have hk1 : d.2 ≠ [] := fun e => by have h9 := congrArg List.length e; simp only [List.length_nil] at h9; lia
                have hw1 : 1 ≤ (d.2.map (shownOf c.2)).length := by rw [List.length_map]; exact List.length_pos_iff.mpr hk1
                unfold Stop
                refine wpAny_If ?_
                rcases hNm with ⟨rfl, rfl⟩ | ⟨q, qn, nvs, ns, rfl, rfl, hq, hnvs, hnsl, hnsS⟩
                · k_steps
                  unfold Stop
                  k_dflt (refine useML (by k_asm) (by k_asm) (by k_asm) (by k_asm) (by k_asm) rfl (by walk_at "led") (lawplain_calls _ hws (by lia) (by lia) hws12 hw1 hwS) (by k_room) (by units_room) ?_)
                  intro D2 ys2 kk2 h' tk' hy2 hof2 F' N'
                  k_steps
                  exact StEnd.mk (by k_asm) (by k_asm) rfl (fun z hz => if_neg hz) ⟨_, _, _, rfl, by rw [hfull9]; exact sb_refl, by rw [hfull9]; exact hof2, by rw [hP9, dueOf, if_neg hk1]; exact hy2.1, hy2.2⟩
                · have hq2 := hB1 _ hq
                  k_steps
                  unfold Stop
                  k_dflt (refine useML (by k_asm) (by k_asm) (by k_asm) (by k_asm) (by k_asm) rfl (by walk_at "led") (lawnamed_calls _ hws hnvs (by lia) (by lia) hws12 hw1 (by rw [List.length_map]; exact hnsl) hwS hnsS) (by k_room) (by units_room) ?_)
                  intro D2 ys2 kk2 h' tk' hy2 hof2 F' N'
                  k_steps
                  exact StEnd.mk (by k_asm) (by k_asm) rfl (fun z hz => if_neg hz) ⟨_, _, _, rfl, by rw [hfull9]; exact sb_refl, by rw [hfull9]; exact hof2, by rw [hP9, dueOf, if_neg hk1]; exact hy2.1, hy2.2⟩
            case d2 =>
              intro D2 ys2 kk2 h' tk u3 hoff2 hys2 hyl2 F' N'
              rw [ho6, hP9] at hys2
              k_with "compareOp NotEq ref ref" => (k_here; refine Stop.mk ?_)
              k_with "compareOp Eq ref ref" => (k_here; refine Stop.mk ?_)
              k_with "call type:list" => (k_here; (with_reducible show wpAny _ _ (call (Value.type _) [Value.ref _]) _ _ _); k_dflt (refine list_copyK (by k_asm) (by k_asm) (News.isList (by k_asm) (by first | assumption | exact .tail _ (.tail _ (by assumption)) | k_mem)) ?_ (size_ok (by simp only [List.size_toArray]; lia))); k_whole; intro ic9 cic9 h' F' N' hic9; (try (replace hic9 := allLt_of hic9)); (try k_sweep))
              k_with "newTuple" => (k_here; k_dflt (refine' kup_newTuple ?zqF ?zqN ?_ ?zqz; (case zqF => k_asm); (case zqN => k_asm); (case zqz => kmk_size)); intro tv9 h' F' N' htv9; (try (replace htv9 := allLt_of htv9)); (try k_sweep))
              try dsimp only
              k_steps
              unfold Stop
              k_dflt (refine useMT (by k_asm) (by k_asm) (by k_asm) (by k_asm) (by k_asm) rfl (sb_cons (by k_mem) sb_nil) (lawlevels_calls (n := c.1.2.2) _ hxs (by lia) (by lia) hn12 hS100) (by k_room) (by units_room) ?_)
              intro t9 h' tk' F' N'
              try dsimp only
              k_steps
              unfold Stop
              refine wpAny_If ?_
              k_steps
              unfold Stop
              k_dflt (refine usePrint (by k_asm) (by k_asm) (by k_asm) (by k_asm) (by k_asm) rfl (by intro p hp; (repeat (refine List.Mem.tail _ ?_)); exact hB1 p hp) (hprint _ _ (by lia) (by lia)) (by k_room) (by units_room) ?_)
              intro D3 ys3 kk3 h' tk' hys3 F' N'
              try dsimp only
              k_steps
              unfold Stop
              k_dflt (refine ne_strs (by k_asm) (by k_mem) (by k_mem) hys3 (strsAre_snoc hys2) (by units_room) ?_)
              try dsimp only
              k_steps
              unfold Stop
              k_dflt (refine useSeen8 (D1 := D1) (by k_asm) (by k_asm) (by k_asm) (by k_asm) (by k_asm) rfl hB1 hD1 hseen (by k_room) (by units_room) ?_)
              intro D4 B2 h' tk' hD4 hD5 F' N'
              try dsimp only
              k_steps
              unfold Stop
              try dsimp only
              k_dflt (refine tup_eq2 (tup_is2 (by k_asm) (by k_mem)) (tup_is2 (by k_asm) (by k_mem)) (by units_room) (fun E Q h => eqAt_same_list (by k_asm) (by k_mem) (by k_mem) (by units_room) _ _ E Q h) (fun E Q h => eqBool_refs (fun Q h => seen_eq (by k_asm) hdn (hD4.mono (by intro p hp; (repeat (refine List.Mem.tail _ ?_)); exact hp)) (hD5.mono (by intro p hp; (repeat (refine List.Mem.tail _ ?_)); exact hp)) (by units_room) h) h) ?_)
              try dsimp only
              k_steps
end Mine
theorem PySem.Challenge.cw_nz0483_01_holds : PySem.Challenge.rw_nz0483_01.Holds := by
  exact Mine.law_walk
